import PyProof.Rows.All
import Wide.All
import OpenK.AllK
import Wide.FinOn
import HandS.ForMost
import HandS.Exc
import HandS.TryOnly
import HandS.ExcOwn
import HandS.WordsExc
import HandS.CallSlots
import HandS.Wide
import HandS.Lambda
import HandS.ExcCtx
import HandS.TupAny
import HandS.TupMul
import HandS.IsInst
import HandS.Conv
import HandS.Zip
import HandS.Deep
import HandS.Replace
import HandS.RaiseMore
import HandS.StrMore
import HandS.HeadHook4
import HandS.HotCalls
import HandS.ExcIs
import HandS.Text
import HandS.Style
import HandS.Small
import HandS.WordsDict
import HandS.HeadWalk
import HandS.ReplaceLit
import HandS.ReplaceList
import PySem.Challenge.RW_splituses_k01_whole_losses_and_polynomia
import KE.KStateDown
import HandS.Head0
import HandS.Head1
import HandS.Head2
set_option Elab.async false
set_option linter.all false
set_option maxRecDepth 100000
set_option maxHeartbeats 0
namespace DL
open PySem PySem.Spec PyProof.Rows L2
/-! ### data -/
inductive D where
  | non | bl (b : Bool) | int (i : Int) | str (s : List Nat) | tup (xs : List D) | lst (xs : List D) | cel (n : Nat) | fn (k : Nat) | hof | scr (xs : List D)
mutual
def D.beq : D → D → Bool
  | .non, .non => true
  | .bl a, .bl b => a == b
  | .int a, .int b => decide (a = b)
  | .str a, .str b => decide (a = b)
  | .tup a, .tup b => D.beqL a b
  | .lst a, .lst b => D.beqL a b
  | .cel a, .cel b => decide (a = b)
  | .fn a, .fn b => decide (a = b)
  | .hof, .hof => true
  | .scr a, .scr b => D.beqL a b
  | _, _ => false
def D.beqL : List D → List D → Bool
  | [], [] => true
  | a :: r, b :: q => D.beq a b && D.beqL r q
  | _, _ => false
end
mutual
theorem D.beq_eq : ∀ {a b : D}, D.beq a b = true → a = b := fun {a b} h => by
  cases a <;> cases b <;> first
    | (exfalso; simp [D.beq] at h; done)
    | rfl
    | (rename_i x y; have e : x = y := eq_of_beq (by simpa [D.beq] using h); rw [e])
    | (rename_i x y; have e : x = y := of_decide_eq_true (by simpa [D.beq] using h); rw [e])
    | (rename_i x y; rw [D.beqL_eq (a := x) (b := y) (by simpa [D.beq] using h)])
theorem D.beqL_eq : ∀ {a b : List D}, D.beqL a b = true → a = b
  | [], [], _ => rfl
  | [], _ :: _, h | _ :: _, [], h => by simp [D.beqL] at h
  | a :: r, b :: q, h => by
    obtain ⟨h1, h2⟩ := Bool.and_eq_true_iff.mp (show (D.beq a b && D.beqL r q) = true from by simpa [D.beqL] using h)
    rw [D.beq_eq h1, D.beqL_eq h2]
end
mutual
theorem D.beq_refl : ∀ a : D, D.beq a a = true
  | .non => rfl
  | .bl a => by simp [D.beq]
  | .int a => by simp [D.beq]
  | .str a => by simp [D.beq]
  | .tup a => by simp [D.beq, D.beqL_refl a]
  | .lst a => by simp [D.beq, D.beqL_refl a]
  | .cel a => by simp [D.beq]
  | .fn a => by simp [D.beq]
  | .hof => rfl
  | .scr a => by simp [D.beq, D.beqL_refl a]
theorem D.beqL_refl : ∀ a : List D, D.beqL a a = true
  | [] => rfl
  | a :: r => by simp [D.beqL, D.beq_refl a, D.beqL_refl r]
end
instance : DecidableEq D := fun a b => if h : D.beq a b = true then isTrue (D.beq_eq h) else isFalse fun e => h (by rw [e]; exact D.beq_refl b)
inductive Cell where
  | lst (xs : List D)
  | dct (kvs : List (Key × D))
  | dctL (kvs : List (Key × D))
  | ins (c : Nat) (fs : List (Str × D))
abbrev Store := List Cell
abbrev Env' := List (Option D)
/-- the tables that all promises speak over -/
structure Tb where
  fns : List Addr
  exs : Nat → Addr
  cls : Nat → Addr
  tabs : List (Addr × Str)
structure Gx where
  tb : Tb
  hf : Option Addr
  φ0 : List Addr
  H0 : Hp
  /-- lists that are being made: no value tells what stands there -/
  fx : List Addr
/-! ### what stays -/
structure Ext (φ : List Addr) (H : Hp) (φ' : List Addr) (H' : Hp) : Prop where
  pre : ∃ ψ, φ' = φ ++ ψ ∧ ∀ a ∈ ψ, H a = none
  keep : ∀ a o, H a = some o → a ∉ φ → (∀ ps, o ≠ .tbl ps) → H' a = some o
  tups : ∀ a xs, H a = some (.tup xs) → H' a = some (.tup xs)
  frzs : ∀ a o u, H a = some (.frz o u) → H' a = some (.frz o u)
  there : ∀ a, H a ≠ none → H' a ≠ none
theorem Ext.refl (φ : List Addr) (H : Hp) : Ext φ H φ H := ⟨⟨[], by simp, by simp⟩, fun _ _ h _ _ => h, fun _ _ h => h, fun _ _ _ h => h, fun _ h => h⟩
theorem Ext.trans {φ φ1 φ2 : List Addr} {H H1 H2 : Hp} (a : Ext φ H φ1 H1) (b : Ext φ1 H1 φ2 H2) : Ext φ H φ2 H2 := by
  obtain ⟨⟨ψ, e1, f1⟩, k1, t1, z1, th1⟩ := a
  obtain ⟨⟨ψ', e2, f2⟩, k2, t2, z2, th2⟩ := b
  have f2' : ∀ a ∈ ψ', H a = none := fun a ha => by
    cases q : H a with
    | none => rfl
    | some o => exact absurd (f2 a ha) (th1 a (by rw [q]; simp))
  refine ⟨⟨ψ ++ ψ', by rw [e2, e1, List.append_assoc], fun a ha => ?_⟩, fun a o h n q => ?_, fun a xs h => t2 a xs (t1 a xs h), fun a o u h => z2 a o u (z1 a o u h), fun a h => th2 a (th1 a h)⟩
  · rcases List.mem_append.mp ha with h | h
    · exact f1 a h
    · exact f2' a h
  · refine k2 a o (k1 a o h n q) (fun hm => ?_) q
    rw [e1] at hm
    rcases List.mem_append.mp hm with z | z
    · exact n z
    · rw [f1 a z] at h; cases h
theorem Ext.of_same {φ : List Addr} {H H' : Hp} (s : ∀ b o, H b = some o → H' b = some o) : Ext φ H φ H' :=
  ⟨⟨[], by simp, by simp⟩, fun a o h _ _ => s a o h, fun a xs h => s a _ h, fun a o u h => s a _ h, fun a h => by
    cases q : H a with
    | none => exact absurd q h
    | some o => rw [s a o q]; simp⟩
theorem Ext.new {φ : List Addr} {H : Hp} {p : Addr} {o : HO} (h : H p = none) : Ext φ H φ (upd H p o) := Ext.of_same fun b u e => by rw [upd_ne (ne_of_none e h)]; exact e
/-- the start of an anchored context -/
theorem Ext.start {φ : List Addr} {H : Hp} : Ext [] (fun _ => none) φ H := ⟨⟨φ, by simp, fun _ _ => rfl⟩, fun _ _ h => (by cases h), fun _ _ h => (by cases h), fun _ _ _ h => (by cases h), fun _ h => absurd rfl h⟩
/-! ### what a value stands for -/
mutual
inductive Rp (K : PySem.W.Frag) (G : Gx) (φ : List Addr) (H : Hp) : D → V → Prop where
  | non : Rp K G φ H .non .non
  | bl {b : Bool} : Rp K G φ H (.bl b) (.bl b)
  | int {i : Int} : Rp K G φ H (.int i) (.int i)
  | str {s : List Nat} : (s.all fun c => decide (c < 0x110000)) = true → Rp K G φ H (.str s) (.str ⟨s.toArray⟩)
  | tup {xs : List D} {a : Addr} {vs : List V} : SqT K H a vs → RpL K G φ H xs vs → Rp K G φ H (.tup xs) (.ref a)
  | lst {xs : List D} {a : Addr} {vs : List V} : H a = some (.lst vs) → a ∉ φ → a ∉ G.fx → RpL K G φ H xs vs → Rp K G φ H (.lst xs) (.ref a)
  | scr {xs : List D} {a : Addr} {vs : List V} : ((∃ o, H a = some (.frz o (.lst vs))) ∨ ∀ H, SqL K H a vs) → RpL K G φ H xs vs → Rp K G φ H (.scr xs) (.ref a)
  | cel {n : Nat} {a : Addr} : φ[n]? = some a → Rp K G φ H (.cel n) (.ref a)
  | fn {k : Nat} {a : Addr} : G.tb.fns[k]? = some a → Rp K G φ H (.fn k) (.ref a)
  | hof {a : Addr} : G.hf = some a → Rp K G φ H .hof (.ref a)
inductive RpL (K : PySem.W.Frag) (G : Gx) (φ : List Addr) (H : Hp) : List D → List V → Prop where
  | nil : RpL K G φ H [] []
  | cons {d : D} {v : V} {ds : List D} {vs : List V} : Rp K G φ H d v → RpL K G φ H ds vs → RpL K G φ H (d :: ds) (v :: vs)
end
section
variable {K : PySem.W.Frag} {G : Gx} {φ φ' : List Addr} {H H' : Hp}
theorem Ext.rd {a : Addr} {vs : List V} (x : Ext φ H φ' H') (h : H a = some (.lst vs)) (n : a ∉ φ) : H' a = some (.lst vs) ∧ a ∉ φ' := by
  obtain ⟨⟨ψ, e, f⟩, k, t, z, th⟩ := x
  refine ⟨k a _ h n (fun ps z => by cases z), fun hm => ?_⟩
  rw [e] at hm
  rcases List.mem_append.mp hm with z | z
  · exact n z
  · rw [f a z] at h
    cases h
theorem Ext.scr {a : Addr} {vs : List V} (x : Ext φ H φ' H') (h : (∃ o, H a = some (.frz o (.lst vs))) ∨ ∀ H, SqL K H a vs) : (∃ o, H' a = some (.frz o (.lst vs))) ∨ ∀ H, SqL K H a vs :=
  h.imp (fun ⟨o, h⟩ => ⟨o, x.frzs a o _ h⟩) fun h => h
theorem Ext.sqt {a : Addr} {vs : List V} (x : Ext φ H φ' H') (h : SqT K H a vs) : SqT K H' a vs := by
  rcases h with (h | ⟨o, h⟩) | h
  · exact .inl (.inl (x.tups a _ h))
  · exact .inl (.inr ⟨o, x.frzs a _ _ h⟩)
  · exact .inr h
theorem Ext.at {n : Nat} {a : Addr} (x : Ext φ H φ' H') (h : φ[n]? = some a) : φ'[n]? = some a := by
  obtain ⟨⟨ψ, e, f⟩, _⟩ := x
  rw [e, List.getElem?_append_left (List.getElem?_eq_some_iff.mp h).1]
  exact h
mutual
theorem Rp.mono (x : Ext φ H φ' H') : ∀ {d : D} {v : V}, Rp K G φ H d v → Rp K G φ' H' d v
  | _, _, .non => .non
  | _, _, .bl => .bl
  | _, _, .int => .int
  | _, _, .str h => .str h
  | _, _, .tup h r => .tup (x.sqt h) (RpL.mono x r)
  | _, _, .lst h n z r => .lst (x.rd h n).1 (x.rd h n).2 z (RpL.mono x r)
  | _, _, .scr h r => .scr (x.scr h) (RpL.mono x r)
  | _, _, .cel h => .cel (x.at h)
  | _, _, .fn h => .fn h
  | _, _, .hof h => .hof h
theorem RpL.mono (x : Ext φ H φ' H') : ∀ {ds : List D} {vs : List V}, RpL K G φ H ds vs → RpL K G φ' H' ds vs
  | _, _, .nil => .nil
  | _, _, .cons h r => .cons (Rp.mono x h) (RpL.mono x r)
end
theorem RpL.length : ∀ {ds : List D} {vs : List V}, RpL K G φ H ds vs → ds.length = vs.length
  | _, _, .nil => rfl
  | _, _, .cons _ r => by rw [List.length_cons, List.length_cons, r.length]
theorem RpL.get : ∀ {ds : List D} {vs : List V} {i : Nat} {d : D}, RpL K G φ H ds vs → ds[i]? = some d → ∃ v, vs[i]? = some v ∧ Rp K G φ H d v
  | _, _, _, _, .nil, e => by simp at e
  | _, _, 0, _, .cons r _, e => by simp at e; subst e; exact ⟨_, rfl, r⟩
  | _, _, i + 1, d, .cons _ t, e => by
    obtain ⟨u, h1, h2⟩ := RpL.get (i := i) (d := d) t (by simpa using e)
    exact ⟨u, by simpa using h1, h2⟩
theorem RpL.get' : ∀ {ds : List D} {vs : List V} {i : Nat} {v : V}, RpL K G φ H ds vs → vs[i]? = some v → ∃ d, ds[i]? = some d ∧ Rp K G φ H d v
  | _, _, _, _, .nil, e => by simp at e
  | _, _, 0, _, .cons r _, e => by simp at e; subst e; exact ⟨_, rfl, r⟩
  | _, _, i + 1, d, .cons _ t, e => by
    obtain ⟨u, h1, h2⟩ := RpL.get' (i := i) (v := d) t (by simpa using e)
    exact ⟨u, by simpa using h1, h2⟩
theorem RpL.append : ∀ {xs ys : List D} {us ws : List V}, RpL K G φ H xs us → RpL K G φ H ys ws → RpL K G φ H (xs ++ ys) (us ++ ws)
  | _, _, _, _, .nil, s => s
  | _, _, _, _, .cons r t, s => .cons r (RpL.append t s)
theorem RpL.take : ∀ {xs : List D} {us : List V} (n : Nat), RpL K G φ H xs us → RpL K G φ H (xs.take n) (us.take n)
  | _, _, 0, _ => .nil
  | _, _, _ + 1, .nil => .nil
  | _, _, n + 1, .cons r t => .cons r (RpL.take n t)
theorem RpL.drop : ∀ {xs : List D} {us : List V} (n : Nat), RpL K G φ H xs us → RpL K G φ H (xs.drop n) (us.drop n)
  | _, _, 0, r => r
  | _, _, _ + 1, .nil => .nil
  | _, _, n + 1, .cons _ t => RpL.drop n t
theorem RpL.set {d : D} {v : V} (r : Rp K G φ H d v) : ∀ {xs : List D} {us : List V} (n : Nat), RpL K G φ H xs us → RpL K G φ H (xs.set n d) (us.set n v)
  | _, _, _, .nil => .nil
  | _, _, 0, .cons _ t => .cons r t
  | _, _, n + 1, .cons q t => .cons q (RpL.set r n t)
theorem RpL.reverse : ∀ {xs : List D} {us : List V}, RpL K G φ H xs us → RpL K G φ H xs.reverse us.reverse
  | _, _, .nil => .nil
  | _, _, .cons r t => by
    rw [List.reverse_cons, List.reverse_cons]
    exact (RpL.reverse t).append (.cons r .nil)
theorem RpL.snoc {xs : List D} {us : List V} {d : D} {v : V} (r : RpL K G φ H xs us) (q : Rp K G φ H d v) : RpL K G φ H (xs ++ [d]) (us ++ [v]) := r.append (.cons q .nil)
/-! ### the store -/
inductive RpF (K : PySem.W.Frag) (G : Gx) (φ : List Addr) (H : Hp) : List (Str × D) → List (Str × V) → Prop where
  | nil : RpF K G φ H [] []
  | cons {f : Str} {d : D} {v : V} {ds : List (Str × D)} {vs : List (Str × V)} : Rp K G φ H d v → RpF K G φ H ds vs → RpF K G φ H ((f, d) :: ds) ((f, v) :: vs)
inductive RpK (K : PySem.W.Frag) (G : Gx) (φ : List Addr) (H : Hp) : List (Key × D) → List (Key × V) → Prop where
  | nil : RpK K G φ H [] []
  | cons {f : Key} {d : D} {v : V} {ds : List (Key × D)} {vs : List (Key × V)} : Rp K G φ H d v → RpK K G φ H ds vs → RpK K G φ H ((f, d) :: ds) ((f, v) :: vs)
theorem RpF.mono (x : Ext φ H φ' H') : ∀ {ds : List (Str × D)} {vs : List (Str × V)}, RpF K G φ H ds vs → RpF K G φ' H' ds vs
  | _, _, .nil => .nil
  | _, _, .cons h r => .cons (Rp.mono x h) (RpF.mono x r)
theorem RpK.mono (x : Ext φ H φ' H') : ∀ {ds : List (Key × D)} {vs : List (Key × V)}, RpK K G φ H ds vs → RpK K G φ' H' ds vs
  | _, _, .nil => .nil
  | _, _, .cons h r => .cons (Rp.mono x h) (RpK.mono x r)
/-- what stands at a cell's address -/
inductive CellOk (K : PySem.W.Frag) (G : Gx) (φ : List Addr) (H : Hp) : Cell → HO → Prop where
  | lst {xs : List D} {vs : List V} : RpL K G φ H xs vs → CellOk K G φ H (.lst xs) (.lst vs)
  | dct {xs : List (Key × D)} {vs : List (Key × V)} : RpK K G φ H xs vs → CellOk K G φ H (.dct xs) (.dK vs)
  | dctZ {xs : List (Key × D)} {vs : List (Key × V)} {o : Obj} : RpK K G φ H xs vs → CellOk K G φ H (.dctL xs) (.frz o (.dK vs))
  | ins {c : Nat} {dx : Addr} {fs : List (Str × D)} {vs : List (Str × V)} : RpF K G φ H fs vs → CellOk K G φ H (.ins c fs) (.ins (G.tb.cls c) dx vs)
theorem CellOk.mono (x : Ext φ H φ' H') {c : Cell} {o : HO} (h : CellOk K G φ H c o) : CellOk K G φ' H' c o := by
  cases h with
  | lst r => exact .lst (r.mono x)
  | dct r => exact .dct (r.mono x)
  | dctZ r => exact .dctZ (r.mono x)
  | ins r => exact .ins (r.mono x)
structure StOk (K : PySem.W.Frag) (G : Gx) (φ : List Addr) (H : Hp) (st : Store) : Prop where
  len : φ.length = st.length
  nd : φ.Nodup
  cell : ∀ (n : Nat) (c : Cell) (a : Addr), st[n]? = some c → φ[n]? = some a → ∃ o, H a = some o ∧ CellOk K G φ H c o
  tabs : LamX.Tabs G.tb.tabs H
  anc : Ext G.φ0 G.H0 φ H
  fx : ∀ a ∈ G.fx, H a ≠ none
  fd : ∀ a ∈ G.fx, a ∉ φ
theorem StOk.same {st : Store} (s : StOk K G φ H st) (k : ∀ b o, H b = some o → H' b = some o) : StOk K G φ H' st where
  len := s.len
  nd := s.nd
  cell := fun n c a h1 h2 => by
    obtain ⟨o, e, r⟩ := s.cell n c a h1 h2
    exact ⟨o, k _ _ e, r.mono (Ext.of_same k)⟩
  tabs := s.tabs.ext k
  anc := s.anc.trans (Ext.of_same k)
  fx := fun a h => (Ext.of_same (φ := φ) k).there a (s.fx a h)
  fd := s.fd
theorem StOk.at {st : Store} (s : StOk K G φ H st) {n : Nat} {c : Cell} (h : st[n]? = some c) : ∃ a o, φ[n]? = some a ∧ H a = some o ∧ CellOk K G φ H c o := by
  have hn : n < φ.length := by
    rw [s.len]
    exact (List.getElem?_eq_some_iff.mp h).1
  obtain ⟨o, e, r⟩ := s.cell n c φ[n] h (List.getElem?_eq_getElem hn)
  exact ⟨_, o, List.getElem?_eq_getElem hn, e, r⟩
theorem StOk.new {st : Store} (s : StOk K G φ H st) {p : Addr} {o : HO} (h : H p = none) : StOk K G φ (upd H p o) st := s.same fun b u e => by rw [upd_ne (ne_of_none e h)]; exact e
theorem StOk.nofx {st : Store} (s : StOk K G φ H st) {p : Addr} (h : H p = none) : p ∉ G.fx := fun m => s.fx p m h
/-- over any lists in the making -/
abbrev Gx.fl (G : Gx) (fx : List Addr) : Gx := { G with fx := fx }
section
variable {fx : List Addr}
mutual
theorem Rp.fl (n : ∀ a ∈ fx, a ∈ G.fx ∨ H a = none) : ∀ {d : D} {v : V}, Rp K G φ H d v → Rp K (G.fl fx) φ H d v
  | _, _, .non => .non
  | _, _, .bl => .bl
  | _, _, .int => .int
  | _, _, .str h => .str h
  | _, _, .tup h r => .tup h (RpL.fl n r)
  | _, _, .lst (a := b) h m z r => .lst h m (fun hm => (n b hm).elim z (fun e => by
      rw [e] at h
      cases h)) (RpL.fl n r)
  | _, _, .scr h r => .scr h (RpL.fl n r)
  | _, _, .cel h => .cel h
  | _, _, .fn h => .fn h
  | _, _, .hof h => .hof h
theorem RpL.fl (n : ∀ a ∈ fx, a ∈ G.fx ∨ H a = none) : ∀ {ds : List D} {vs : List V}, RpL K G φ H ds vs → RpL K (G.fl fx) φ H ds vs
  | _, _, .nil => .nil
  | _, _, .cons h r => .cons (Rp.fl n h) (RpL.fl n r)
end
end
/-- one more list in the making -/
abbrev Gx.plus (G : Gx) (a : Addr) : Gx := { G with fx := a :: G.fx }
section
variable {a : Addr}
mutual
theorem Rp.plus (n : H a = none) : ∀ {d : D} {v : V}, Rp K G φ H d v → Rp K (G.plus a) φ H d v
  | _, _, .non => .non
  | _, _, .bl => .bl
  | _, _, .int => .int
  | _, _, .str h => .str h
  | _, _, .tup h r => .tup h (RpL.plus n r)
  | _, _, .lst (a := b) h m z r => .lst h m (fun hm => (List.mem_cons.mp hm).elim (fun e => by
      rw [e, n] at h
      cases h) z) (RpL.plus n r)
  | _, _, .scr h r => .scr h (RpL.plus n r)
  | _, _, .cel h => .cel h
  | _, _, .fn h => .fn h
  | _, _, .hof h => .hof h
theorem RpL.plus (n : H a = none) : ∀ {ds : List D} {vs : List V}, RpL K G φ H ds vs → RpL K (G.plus a) φ H ds vs
  | _, _, .nil => .nil
  | _, _, .cons h r => .cons (Rp.plus n h) (RpL.plus n r)
end
mutual
theorem Rp.minus : ∀ {d : D} {v : V}, Rp K (G.plus a) φ H d v → Rp K G φ H d v
  | _, _, .non => .non
  | _, _, .bl => .bl
  | _, _, .int => .int
  | _, _, .str h => .str h
  | _, _, .tup h r => .tup h (RpL.minus r)
  | _, _, .lst h m z r => .lst h m (fun hm => z (List.mem_cons_of_mem _ hm)) (RpL.minus r)
  | _, _, .scr h r => .scr h (RpL.minus r)
  | _, _, .cel h => .cel h
  | _, _, .fn h => .fn h
  | _, _, .hof h => .hof h
theorem RpL.minus : ∀ {ds : List D} {vs : List V}, RpL K (G.plus a) φ H ds vs → RpL K G φ H ds vs
  | _, _, .nil => .nil
  | _, _, .cons h r => .cons (Rp.minus h) (RpL.minus r)
end
theorem RpF.plus (n : H a = none) : ∀ {ds : List (Str × D)} {vs : List (Str × V)}, RpF K G φ H ds vs → RpF K (G.plus a) φ H ds vs
  | _, _, .nil => .nil
  | _, _, .cons h r => .cons (Rp.plus n h) (RpF.plus n r)
theorem RpK.plus (n : H a = none) : ∀ {ds : List (Key × D)} {vs : List (Key × V)}, RpK K G φ H ds vs → RpK K (G.plus a) φ H ds vs
  | _, _, .nil => .nil
  | _, _, .cons h r => .cons (Rp.plus n h) (RpK.plus n r)
theorem RpF.minus : ∀ {ds : List (Str × D)} {vs : List (Str × V)}, RpF K (G.plus a) φ H ds vs → RpF K G φ H ds vs
  | _, _, .nil => .nil
  | _, _, .cons h r => .cons (Rp.minus h) (RpF.minus r)
theorem RpK.minus : ∀ {ds : List (Key × D)} {vs : List (Key × V)}, RpK K (G.plus a) φ H ds vs → RpK K G φ H ds vs
  | _, _, .nil => .nil
  | _, _, .cons h r => .cons (Rp.minus h) (RpK.minus r)
theorem CellOk.plus (n : H a = none) {c : Cell} {o : HO} (h : CellOk K G φ H c o) : CellOk K (G.plus a) φ H c o := by
  cases h with
  | lst r => exact .lst (r.plus n)
  | dct r => exact .dct (r.plus n)
  | dctZ r => exact .dctZ (r.plus n)
  | ins r => exact .ins (G := G.plus a) (r.plus n)
theorem CellOk.minus {c : Cell} {o : HO} (h : CellOk K (G.plus a) φ H c o) : CellOk K G φ H c o := by
  cases h with
  | lst r => exact .lst r.minus
  | dct r => exact .dct r.minus
  | dctZ r => exact .dctZ r.minus
  | ins r => exact .ins (G := G) r.minus
/-- a list is begun -/
theorem StOk.fresh {st : Store} (s : StOk K G φ H st) {p : Addr} (n : H p = none) : p ∉ φ := fun hm => by
  obtain ⟨i, hi, e⟩ := List.getElem_of_mem hm
  have h2 : i < st.length := by rw [← s.len]; exact hi
  obtain ⟨o, e1, _⟩ := s.cell i st[i] p (List.getElem?_eq_getElem h2) (by rw [List.getElem?_eq_getElem hi, e])
  rw [n] at e1
  cases e1
theorem StOk.plus {st : Store} {o : HO} (s : StOk K G φ H st) (n : H a = none) : StOk K (G.plus a) φ (upd H a o) st := by
  have s' := s.new (o := o) n
  have x : Ext φ H φ (upd H a o) := Ext.new n
  refine ⟨s.len, s.nd, fun i c b h1 h2 => ?_, s'.tabs, s'.anc, fun b hb => ?_, fun b hb => (List.mem_cons.mp hb).elim (fun e => by rw [e]; exact s.fresh n) (s.fd b)⟩
  · obtain ⟨u, e1, e2⟩ := s.cell i c b h1 h2
    exact ⟨u, by rw [upd_ne (ne_of_none e1 n)]; exact e1, (e2.plus n).mono x⟩
  · rcases List.mem_cons.mp hb with e | e
    · rw [e, upd_same]; simp
    · exact s'.fx b e
theorem StOk.minus {st : Store} (s : StOk K (G.plus a) φ H st) : StOk K G φ H st :=
  ⟨s.len, s.nd, fun i c b h1 h2 => by
    obtain ⟨u, e1, e2⟩ := s.cell i c b h1 h2
    exact ⟨u, e1, e2.minus⟩, s.tabs, s.anc, fun b hb => s.fx b (List.mem_cons_of_mem _ hb), fun b hb => s.fd b (List.mem_cons_of_mem _ hb)⟩
/-- what is told speaks not of a list in the making -/
theorem Ext.fluxRd {b : Addr} {u : HO} {xs ys : List V} (h : H a = some (.lst xs)) (r : Rd H b u) (n : b ≠ a) : Rd (upd H a (.lst ys)) b u := by
  rcases r with r | ⟨o, r⟩
  · exact .inl (by rw [upd_ne n]; exact r)
  · exact .inr ⟨o, by rw [upd_ne n]; exact r⟩
mutual
theorem Rp.flux {xs ys : List V} (h : H a = some (.lst xs)) (m : a ∈ G.fx) : ∀ {d : D} {v : V}, Rp K G φ H d v → Rp K G φ (upd H a (.lst ys)) d v
  | _, _, .non => .non
  | _, _, .bl => .bl
  | _, _, .int => .int
  | _, _, .str h => .str h
  | _, _, .tup (a := b) t r => .tup (by
      rcases t with t | t
      · refine .inl (Ext.fluxRd h t fun e => ?_)
        rcases t with t | ⟨o, t⟩ <;> rw [e, h] at t <;> cases t
      · exact .inr t) (RpL.flux h m r)
  | _, _, .lst r n z q => .lst (by rw [upd_ne fun e => z (by rw [e]; exact m)]; exact r) n z (RpL.flux h m q)
  | _, _, .scr (a := b) t r => .scr (t.imp (fun ⟨o, t⟩ => ⟨o, by rw [upd_ne fun e => by rw [e, h] at t; cases t]; exact t⟩) fun t => t) (RpL.flux h m r)
  | _, _, .cel t => .cel t
  | _, _, .fn t => .fn t
  | _, _, .hof t => .hof t
theorem RpL.flux {xs ys : List V} (h : H a = some (.lst xs)) (m : a ∈ G.fx) : ∀ {ds : List D} {vs : List V}, RpL K G φ H ds vs → RpL K G φ (upd H a (.lst ys)) ds vs
  | _, _, .nil => .nil
  | _, _, .cons t r => .cons (Rp.flux h m t) (RpL.flux h m r)
end
theorem RpF.flux {xs ys : List V} (h : H a = some (.lst xs)) (m : a ∈ G.fx) : ∀ {ds : List (Str × D)} {vs : List (Str × V)}, RpF K G φ H ds vs → RpF K G φ (upd H a (.lst ys)) ds vs
  | _, _, .nil => .nil
  | _, _, .cons t r => .cons (Rp.flux h m t) (RpF.flux h m r)
theorem RpK.flux {xs ys : List V} (h : H a = some (.lst xs)) (m : a ∈ G.fx) : ∀ {ds : List (Key × D)} {vs : List (Key × V)}, RpK K G φ H ds vs → RpK K G φ (upd H a (.lst ys)) ds vs
  | _, _, .nil => .nil
  | _, _, .cons t r => .cons (Rp.flux h m t) (RpK.flux h m r)
theorem StOk.flux {st : Store} {xs ys : List V} (s : StOk K G φ H st) (h : H a = some (.lst xs)) (m : a ∈ G.fx) (n : a ∉ φ) (hanc : Ext G.φ0 G.H0 φ (upd H a (.lst ys))) : StOk K G φ (upd H a (.lst ys)) st := by
  refine ⟨s.len, s.nd, fun i c b h1 h2 => ?_, fun p hp => ?_, hanc, fun b hb => ?_, s.fd⟩
  · obtain ⟨u, e1, e2⟩ := s.cell i c b h1 h2
    have hne : b ≠ a := fun e => n (by rw [← e]; exact List.mem_of_getElem? h2)
    refine ⟨u, by rw [upd_ne hne]; exact e1, ?_⟩
    cases e2 with
    | lst r => exact .lst (r.flux h m)
    | dct r => exact .dct (r.flux h m)
    | dctZ r => exact .dctZ (r.flux h m)
    | ins r => exact .ins (r.flux h m)
  · obtain ⟨ps, h1, h2, h3⟩ := s.tabs p hp
    have hne : ∀ b u, H b = some u → (∀ z, u ≠ .lst z) → upd H a (.lst ys) b = some u := fun b u e z => by
      have hb : b ≠ a := fun q => by
        rw [q, h] at e
        exact z xs (Option.some.inj e).symm
      rw [upd_ne hb]
      exact e
    refine ⟨ps, hne _ _ h1 (fun z q => by cases q), h2, fun pos cv hc => ?_⟩
    obtain ⟨c, e1, e2⟩ := h3 pos cv hc
    exact ⟨c, e1, hne _ _ e2 (fun z q => by unfold LamX.CodeO at q; cases q)⟩
  · by_cases e : b = a
    · rw [e, upd_same]; simp
    · rw [upd_ne e]; exact s.fx b hb
end
end
end DL

namespace DL
open PySem PySem.Spec PyProof.Rows L2
abbrev St := L2.St
/-! ### results -/
inductive R (α : Type) where
  | ok (a : α) (st : Store)
  | exc (c : Nat) (st : Store)
  | bad
abbrev M (α : Type) := Store → R α
def ret {α : Type} (a : α) : M α := fun st => .ok a st
def bnd {α β : Type} (m : M α) (f : α → M β) : M β := fun st => match m st with
  | .ok a st' => f a st'
  | .exc c st' => .exc c st'
  | .bad => .bad
def fail {α : Type} : M α := fun _ => .bad
def chk (b : Bool) {α : Type} (m : M α) : M α := match b with
  | true => m
  | false => fail
/-- a statement's result -/
inductive RS where
  | nx (ρ : Env') (st : Store)
  | rt (d : D) (st : Store)
  | bk (ρ : Env') (st : Store)
  | ct (ρ : Env') (st : Store)
  | exc (c : Nat) (ρ : Env') (st : Store)
  | bad
abbrev MS := Env' → Store → RS
structure EnvOk (K : PySem.W.Frag) (G : Gx) (φ : List Addr) (H : Hp) (σ : St) (ρ : Env') : Prop where
  len : σ.length = ρ.length
  get : ∀ (i : Nat) (d : D), ρ[i]? = some (some d) → ∃ v, σ[i]? = some (some v) ∧ Rp K G φ H d v
section
variable {K : PySem.W.Frag} {G : Gx} {φ φ' : List Addr} {H H' : Hp} {σ : St} {ρ : Env'} {st : Store}
theorem EnvOk.mono (x : Ext φ H φ' H') (e : EnvOk K G φ H σ ρ) : EnvOk K G φ' H' σ ρ := ⟨e.len, fun i d h => by
  obtain ⟨v, h1, h2⟩ := e.get i d h
  exact ⟨v, h1, h2.mono x⟩⟩
theorem EnvOk.set (e : EnvOk K G φ H σ ρ) {i : Nat} {d : D} {v : V} (r : Rp K G φ H d v) : EnvOk K G φ H (σ.set i (some v)) (ρ.set i (some d)) := by
  refine ⟨by rw [List.length_set, List.length_set, e.len], fun j d' h => ?_⟩
  by_cases hij : i = j
  · subst hij
    have hi : i < ρ.length := by
      have := (List.getElem?_eq_some_iff.mp h).1
      rwa [List.length_set] at this
    rw [List.getElem?_set_self hi] at h
    cases h
    exact ⟨v, by rw [List.getElem?_set_self (by rw [e.len]; exact hi)], r⟩
  · rw [List.getElem?_set_ne hij] at h
    obtain ⟨u, h1, h2⟩ := e.get j d' h
    exact ⟨u, by rw [List.getElem?_set_ne hij]; exact h1, h2⟩
theorem EnvOk.forget (e : EnvOk K G φ H σ ρ) (i : Nat) : EnvOk K G φ H (σ.set i none) (ρ.set i none) := by
  refine ⟨by rw [List.length_set, List.length_set, e.len], fun j d' h => ?_⟩
  by_cases hij : i = j
  · subst hij
    have hi : i < ρ.length := by
      have := (List.getElem?_eq_some_iff.mp h).1
      rwa [List.length_set] at this
    rw [List.getElem?_set_self hi] at h
    cases h
  · rw [List.getElem?_set_ne hij] at h
    obtain ⟨u, h1, h2⟩ := e.get j d' h
    exact ⟨u, by rw [List.getElem?_set_ne hij]; exact h1, h2⟩
end
structure SOk (K : PySem.W.Frag) (G : Gx) (φ : List Addr) (H : Hp) (σ : St) (ρ : Env') (st : Store) : Prop where
  s : StOk K G φ H st
  e : EnvOk K G φ H σ ρ
def Post (K : PySem.W.Frag) (G : Gx) (W : WX) (σ : St) (φ : List Addr) (H : Hp) {α : Type} (r : R α) (Q : α → Store → List Addr → Hp → Prop) : Prop := match r with
  | .ok a st' => ∀ φ' H', Ext φ H φ' H' → StOk K G φ' H' st' → Q a st' φ' H'
  | .exc c st' => ∀ φ' H', Ext φ H φ' H' → StOk K G φ' H' st' → W (.ref (G.tb.exs c)) none σ H'
  | .bad => False
section
variable {K : PySem.W.Frag} {G : Gx} {W : WX} {σ : St} {φ φ' : List Addr} {H H' : Hp} {ρ : Env'} {st : Store} {α β : Type}
theorem Post.ext {r : R α} {Q : α → Store → List Addr → Hp → Prop} (x : Ext φ H φ' H') (h : Post K G W σ φ H r Q) : Post K G W σ φ' H' r Q := by
  cases r with
  | ok a st' => exact fun φ2 H2 x2 s => h φ2 H2 (x.trans x2) s
  | exc c st' => exact fun φ2 H2 x2 s => h φ2 H2 (x.trans x2) s
  | bad => exact h
theorem Post.imp {r : R α} {Q Q' : α → Store → List Addr → Hp → Prop} (h : Post K G W σ φ H r Q) (q : ∀ a st φ' H', Ext φ H φ' H' → StOk K G φ' H' st → Q a st φ' H' → Q' a st φ' H') : Post K G W σ φ H r Q' := by
  cases r with
  | ok a st' => exact fun φ2 H2 x2 s => q _ _ _ _ x2 s (h φ2 H2 x2 s)
  | exc c st' => exact h
  | bad => exact h
theorem Post.bind {m : M α} {f : α → M β} {Q : β → Store → List Addr → Hp → Prop} (h : Post K G W σ φ H (bnd m f st) Q) :
    Post K G W σ φ H (m st) fun a st1 φ1 H1 => Post K G W σ φ1 H1 (f a st1) Q := by
  unfold bnd at h
  cases e : m st with
  | ok a st' =>
    rw [e] at h
    exact fun φ2 H2 x2 s => Post.ext x2 h
  | exc c st' =>
    rw [e] at h
    exact h
  | bad =>
    rw [e] at h
    exact h
theorem Post.chk {b : Bool} {m : M α} {Q : α → Store → List Addr → Hp → Prop} (h : Post K G W σ φ H (chk b m st) Q) : b = true ∧ Post K G W σ φ H (m st) Q := by
  cases b with
  | true => exact ⟨rfl, h⟩
  | false => exact h.elim
end
/-! ### readings -/
def tM (K : PySem.W.Frag) (G : Gx) (W : WX) (m : Env' → M D) : TE := fun σ H Q => ∃ φ ρ st, SOk K G φ H σ ρ st ∧ Post K G W σ φ H (m ρ st) fun d _ φ' H' => ∀ v, Rp K G φ' H' d v → Q v H'
def tMB (K : PySem.W.Frag) (G : Gx) (W : WX) (m : Env' → M Bool) : TT := fun σ H Q => ∃ φ ρ st, SOk K G φ H σ ρ st ∧ Post K G W σ φ H (m ρ st) fun b _ _ H' => Q b H'
def tML (K : PySem.W.Frag) (G : Gx) (W : WX) (m : Env' → M (List D)) : TA := fun σ H Q => ∃ φ ρ st, SOk K G φ H σ ρ st ∧ Post K G W σ φ H (m ρ st) fun ds _ φ' H' => ∀ vs, RpL K G φ' H' ds vs → Q vs H'
def PostS (K : PySem.W.Frag) (G : Gx) (W : WX) (φ : List Addr) (H : Hp) (r : RS) (D : Ends) : Prop := match r with
  | .nx ρ st => ∀ φ' H' σ', Ext φ H φ' H' → SOk K G φ' H' σ' ρ st → D.nx σ' H'
  | .rt d st => ∀ φ' H' v, Ext φ H φ' H' → StOk K G φ' H' st → Rp K G φ' H' d v → D.rt v H'
  | .bk ρ st => ∀ φ' H' σ', Ext φ H φ' H' → SOk K G φ' H' σ' ρ st → D.bk σ' H'
  | .ct ρ st => ∀ φ' H' σ', Ext φ H φ' H' → SOk K G φ' H' σ' ρ st → D.ct σ' H'
  | .exc c ρ st => ∀ φ' H' σ', Ext φ H φ' H' → SOk K G φ' H' σ' ρ st → W (.ref (G.tb.exs c)) none σ' H'
  | .bad => False
def tMS (K : PySem.W.Frag) (G : Gx) (W : WX) (m : MS) : TS := fun D σ H => ∃ φ ρ st, SOk K G φ H σ ρ st ∧ PostS K G W φ H (m ρ st) D
abbrev ME (X : Cx) (G : Gx) (W : WX) (e : Expr) (m : Env' → M D) : Prop := PE X e (tM X.K G W m)
abbrev MT (X : Cx) (G : Gx) (W : WX) (e : Expr) (m : Env' → M Bool) : Prop := PT X e (tMB X.K G W m)
abbrev MA (X : Cx) (G : Gx) (W : WX) (es : List Expr) (m : Env' → M (List D)) : Prop := PA X es (tML X.K G W m)
abbrev ST (X : Cx) (G : Gx) (W : WX) (s : Stmt) (m : MS) : Prop := PS X s (tMS X.K G W m)
abbrev SS (X : Cx) (G : Gx) (W : WX) (s : List Stmt) (m : MS) : Prop := PSs X s (tMS X.K G W m)
section
variable {X : Cx}
theorem peImp {e : Expr} {t t' : TE} (h : PE X e t) (i : ∀ σ H Q, t' σ H Q → t σ H Q) : PE X e t' := ⟨fun pins s σ H Q I hw => h.run pins s σ H Q I (i σ H Q hw)⟩
theorem ptImp {e : Expr} {t t' : TT} (h : PT X e t) (i : ∀ σ H Q, t' σ H Q → t σ H Q) : PT X e t' := ⟨fun pins s σ H Q I hw => h.run pins s σ H Q I (i σ H Q hw)⟩
theorem pwImp {e : Expr} {t t' : TT} (h : PW X e t) (i : ∀ σ H Q, t' σ H Q → t σ H Q) : PW X e t' := ⟨fun wh pins s σ H Q I hw => h.run wh pins s σ H Q I (i σ H Q hw)⟩
theorem paImp {e : List Expr} {t t' : TA} (h : PA X e t) (i : ∀ σ H Q, t' σ H Q → t σ H Q) : PA X e t' := ⟨fun p pins s σ H Q I hw => h.run p pins s σ H Q I (i σ H Q hw)⟩
theorem psImp {e : Stmt} {t t' : TS} (h : PS X e t) (i : ∀ D σ H, t' D σ H → t D σ H) : PS X e t' := ⟨fun pins s σ H D I hw => h.run pins s σ H D I (i D σ H hw)⟩
theorem pssImp {e : List Stmt} {t t' : TS} (h : PSs X e t) (i : ∀ D σ H, t' D σ H → t D σ H) : PSs X e t' := ⟨fun pins s σ H D I hw => h.run pins s σ H D I (i D σ H hw)⟩
end
section
variable {X : Cx} {G : Gx} {W : WX} {σ : St} {φ : List Addr} {H : Hp} {ρ : Env'} {st : Store}
/-- the way of a first part -/
theorem tM_of {m : Env' → M D} {Q : VK} {R : D → Store → List Addr → Hp → Prop} (so : SOk X.K G φ H σ ρ st) (h : Post X.K G W σ φ H (m ρ st) R)
    (q : ∀ d st1 φ1 H1 v, Ext φ H φ1 H1 → SOk X.K G φ1 H1 σ ρ st1 → Rp X.K G φ1 H1 d v → R d st1 φ1 H1 → Q v H1) : tM X.K G W m σ H Q :=
  ⟨φ, ρ, st, so, h.imp fun d st1 φ1 H1 x s r v rv => q d st1 φ1 H1 v x ⟨s, so.e.mono x⟩ rv r⟩
theorem tMB_of {m : Env' → M Bool} {Q : Bool → Hp → Prop} {R : Bool → Store → List Addr → Hp → Prop} (so : SOk X.K G φ H σ ρ st) (h : Post X.K G W σ φ H (m ρ st) R)
    (q : ∀ d st1 φ1 H1, Ext φ H φ1 H1 → SOk X.K G φ1 H1 σ ρ st1 → R d st1 φ1 H1 → Q d H1) : tMB X.K G W m σ H Q :=
  ⟨φ, ρ, st, so, h.imp fun d st1 φ1 H1 x s r => q d st1 φ1 H1 x ⟨s, so.e.mono x⟩ r⟩
theorem tML_of {m : Env' → M (List D)} {Q : List V → Hp → Prop} {R : List D → Store → List Addr → Hp → Prop} (so : SOk X.K G φ H σ ρ st) (h : Post X.K G W σ φ H (m ρ st) R)
    (q : ∀ d st1 φ1 H1 v, Ext φ H φ1 H1 → SOk X.K G φ1 H1 σ ρ st1 → RpL X.K G φ1 H1 d v → R d st1 φ1 H1 → Q v H1) : tML X.K G W m σ H Q :=
  ⟨φ, ρ, st, so, h.imp fun d st1 φ1 H1 x s r v rv => q d st1 φ1 H1 v x ⟨s, so.e.mono x⟩ rv r⟩
/-- nothing done: a value at once -/
theorem Post.now {α : Type} {a : α} {Q : α → Store → List Addr → Hp → Prop} (s : StOk X.K G φ H st) (h : Post X.K G W σ φ H (ret a st) Q) : Q a st φ H := h φ H (Ext.refl _ _) s
/-- a new object made -/
theorem Post.made {α : Type} {a : α} {p : Addr} {o : HO} {Q : α → Store → List Addr → Hp → Prop} (s : StOk X.K G φ H st) (h : Post X.K G W σ φ H (ret a st) Q) (n : H p = none) : Q a st φ (upd H p o) := h φ _ (Ext.new n) (s.new n)
/-! ### names and constants -/
def vr (i : Nat) (ρ : Env') : M D := match ρ[i]? with
  | some (some d) => ret d
  | _ => fail
theorem me_vr {e : Expr} {i : Nat} (h : PE X e (tVar i)) : ME X G W e (vr i) := by
  refine peImp h fun σ H Q ⟨φ, ρ, st, so, p⟩ => ?_
  unfold vr at p
  cases e1 : ρ[i]? with
  | none => rw [e1] at p; exact p.elim
  | some o =>
    cases o with
    | none => rw [e1] at p; exact p.elim
    | some d =>
      rw [e1] at p
      obtain ⟨v, h1, h2⟩ := so.e.get i d e1
      exact ⟨v, h1, Post.now (G := G) (W := W) (σ := σ) so.s p v h2⟩
def cst (d : D) (_ : Env') : M D := ret d
theorem me_c {e : Expr} {d : D} {v : V} (h : PE X e (tC v)) (r : ∀ φ H, Rp X.K G φ H d v) : ME X G W e (cst d) := by
  refine peImp h fun σ H Q ⟨φ, ρ, st, so, p⟩ => ?_
  exact Post.now (G := G) (W := W) (σ := σ) so.s p v (r φ H)
theorem me_int {i : Int} {j : Nat} {pos : Pos} : ME X G W (.Constant (.int i) j pos) (cst (.int i)) := me_c pe_int fun _ _ => .int
theorem me_bl {b : Bool} {j : Nat} {pos : Pos} : ME X G W (.Constant (.bool b) j pos) (cst (.bl b)) := me_c pe_bl fun _ _ => .bl
theorem me_non {j : Nat} {pos : Pos} : ME X G W (.Constant .none j pos) (cst .non) := me_c pe_non fun _ _ => .non
theorem me_str {x : Str} {s : List Nat} {j : Nat} {pos : Pos} (h : x = ⟨s.toArray⟩) (hs : (s.all fun c => decide (c < 0x110000)) = true) : ME X G W (.Constant (.str x) j pos) (cst (.str s)) := by
  subst h
  exact me_c pe_str fun _ _ => .str hs
/-! ### operators -/
def OpD (X : Cx) (G : Gx) (r : R2) (op : D → D → M D) : Prop := ∀ φ H st dx dy x y (W : WX) (σ : St) (Q : VK), StOk X.K G φ H st → Rp X.K G φ H dx x → Rp X.K G φ H dy y →
  Post X.K G W σ φ H (op dx dy st) (fun d _ φ' H' => ∀ v, Rp X.K G φ' H' d v → Q v H') → r x y H Q
def m2 (op : D → D → M D) (ma mb : Env' → M D) (ρ : Env') : M D := bnd (ma ρ) fun x => bnd (mb ρ) fun y => op x y
theorem tOp_of {r : R2} {op : D → D → M D} {ma mb : Env' → M D} (ho : OpD X G r op) (σ : St) (H : Hp) (Q : VK) (h : tM X.K G W (m2 op ma mb) σ H Q) : tOp r (tM X.K G W ma) (tM X.K G W mb) σ H Q := by
  obtain ⟨φ, ρ, st, so, p⟩ := h
  refine tM_of so (Post.bind p) fun d1 st1 φ1 H1 v1 x1 so1 r1 p1 => ?_
  refine tM_of so1 (Post.bind p1) fun d2 st2 φ2 H2 v2 x2 so2 r2 p2 => ?_
  exact ho φ2 H2 st2 d1 d2 v1 v2 W σ Q so2.s (r1.mono x2) r2 p2
theorem me_op {op : Operator} {r : R2} {dop : D → D → M D} {a b : Expr} {ma mb : Env' → M D} {pos : Pos} (ho : OpR X (binaryOp op) r) (hd : OpD X G r dop) (ha : ME X G W a ma) (hb : ME X G W b mb) :
    ME X G W (.BinOp a op b pos) (m2 dop ma mb) := peImp (pe_op ho ha hb) fun σ H Q h => tOp_of hd σ H Q h
theorem me_cmp {op : CmpOp} {r : R2} {dop : D → D → M D} {a b : Expr} {ma mb : Env' → M D} {pos : Pos} (ho : OpR X (compareOp op) r) (hd : OpD X G r dop) (ha : ME X G W a ma) (hb : ME X G W b mb) (hm : behindInMarks op b = false) :
    ME X G W (.Compare a [op] [b] pos) (m2 dop ma mb) := peImp (pe_cmpR ho ha hb hm) fun σ H Q h => tOp_of hd σ H Q h
/-- a value that is True or False -/
def asB : D → M Bool
  | .bl b => ret b
  | _ => fail
theorem asB_of {d : D} {v : V} {Q : Bool → Store → List Addr → Hp → Prop} (s : StOk X.K G φ H st) (r : Rp X.K G φ H d v) (p : Post X.K G W σ φ H (asB d st) Q) : ∃ b, v = .bl b ∧ Q b st φ H := by
  cases r with
  | bl => exact ⟨_, rfl, Post.now (G := G) (W := W) (σ := σ) s p⟩
  | _ => exact p.elim
def mB (m : Env' → M D) (ρ : Env') : M Bool := bnd (m ρ) asB
theorem mt_val {e : Expr} {m : Env' → M D} (h : ME X G W e m) (he : ∀ whole, isTrue e X.env whole = (do let v ← whole; standAt e.pos; holding [v] (truthy v)) := by intro _; rfl) : MT X G W e (mB m) := by
  refine ptImp (pt_val h he) fun σ H Q ⟨φ, ρ, st, so, p⟩ => ?_
  refine tM_of so (Post.bind p) fun d1 st1 φ1 H1 v1 x1 so1 r1 p1 => ?_
  exact asB_of so1.s r1 p1
theorem mt_cmp {op : CmpOp} {r : R2} {dop : D → D → M D} {a b : Expr} {ma mb : Env' → M D} {pos : Pos} (ho : OpR X (compareOp op) r) (hd : OpD X G r dop) (ha : ME X G W a ma) (hb : ME X G W b mb) (hm : behindInMarks op b = false) :
    MT X G W (.Compare a [op] [b] pos) (mB (m2 dop ma mb)) := by
  refine ptImp (pt_cmpR ho ha hb hm) fun σ H Q ⟨φ, ρ, st, so, p⟩ => ?_
  refine tOp_of hd σ H _ ⟨φ, ρ, st, so, ?_⟩
  exact (Post.bind p).imp fun d st1 φ1 H1 x1 s1 p1 v1 r1 => asB_of s1 r1 p1
/-! ### and, or, not, if-else -/
def mAnd (ma mb : Env' → M Bool) (ρ : Env') : M Bool := bnd (ma ρ) fun c => match c with
  | true => mb ρ
  | false => ret false
def mOr (ma mb : Env' → M Bool) (ρ : Env') : M Bool := bnd (ma ρ) fun c => match c with
  | true => ret true
  | false => mb ρ
def mNot (ma : Env' → M Bool) (ρ : Env') : M Bool := bnd (ma ρ) fun c => ret (!c)
def mIf {α : Type} (mc : Env' → M Bool) (ma mb : Env' → M α) (ρ : Env') : M α := bnd (mc ρ) fun c => match c with
  | true => ma ρ
  | false => mb ρ
def mV (m : Env' → M Bool) (ρ : Env') : M D := bnd (m ρ) fun b => ret (.bl b)
abbrev MW (X : Cx) (G : Gx) (W : WX) (e : Expr) (m : Env' → M Bool) : Prop := PW X e (tMB X.K G W m)
section
variable {a b e : Expr} {rest : List Expr} {ma mb : Env' → M Bool} {pos : Pos}
theorem mt_not (ha : MT X G W a ma) : MT X G W (.UnaryOp .Not a pos) (mNot ma) := by
  refine ptImp (pt_not ha) fun σ H Q ⟨φ, ρ, st, so, p⟩ => ?_
  exact tMB_of so (Post.bind p) fun b1 st1 φ1 H1 x1 so1 p1 => Post.now (G := G) (W := W) (σ := σ) so1.s p1
theorem mw_and1 (ha : MT X G W a ma) : MW X G W (.BoolOp .And [a] pos) ma := pw_and1 ha
theorem mw_or1 (ha : MT X G W a ma) : MW X G W (.BoolOp .Or [a] pos) ma := pw_or1 ha
theorem mw_and (ha : MT X G W a ma) (hb : MW X G W (.BoolOp .And (b :: rest) pos) mb) : MW X G W (.BoolOp .And (a :: b :: rest) pos) (mAnd ma mb) := by
  refine pwImp (pw_and ha hb) fun σ H Q ⟨φ, ρ, st, so, p⟩ => ?_
  refine tMB_of so (Post.bind p) fun b1 st1 φ1 H1 x1 so1 p1 => ?_
  cases b1 with
  | true => exact iteT ⟨φ1, ρ, st1, so1, p1⟩
  | false => exact iteF (Post.now (G := G) (W := W) (σ := σ) so1.s p1)
theorem mw_or (ha : MT X G W a ma) (hb : MW X G W (.BoolOp .Or (b :: rest) pos) mb) : MW X G W (.BoolOp .Or (a :: b :: rest) pos) (mOr ma mb) := by
  refine pwImp (pw_or ha hb) fun σ H Q ⟨φ, ρ, st, so, p⟩ => ?_
  refine tMB_of so (Post.bind p) fun b1 st1 φ1 H1 x1 so1 p1 => ?_
  cases b1 with
  | true => exact iteT (Post.now (G := G) (W := W) (σ := σ) so1.s p1)
  | false => exact iteF ⟨φ1, ρ, st1, so1, p1⟩
theorem mt_w (h : MW X G W e ma) : MT X G W e ma := h.pt
theorem me_ifExp {c : Expr} {mc : Env' → M Bool} {na nb : Env' → M D} (hc : MT X G W c mc) (ha : ME X G W a na) (hb : ME X G W b nb) : ME X G W (.IfExp c a b pos) (mIf mc na nb) := by
  refine peImp (pe_ifExp hc ha hb) fun σ H Q ⟨φ, ρ, st, so, p⟩ => ?_
  refine tMB_of so (Post.bind p) fun b1 st1 φ1 H1 x1 so1 p1 => ?_
  cases b1 with
  | true => exact iteT ⟨φ1, ρ, st1, so1, p1⟩
  | false => exact iteF ⟨φ1, ρ, st1, so1, p1⟩
/-- as values: all parts True or False -/
theorem me_one {op : BoolOp} {m : Env' → M D} (h : ME X G W a m) : ME X G W (.BoolOp op [a] pos) m := pe_one h
def vAnd (na nb : Env' → M D) (ρ : Env') : M D := bnd (na ρ) fun x => bnd (asB x) fun c => match c with
  | true => nb ρ
  | false => ret (.bl false)
def vOr (na nb : Env' → M D) (ρ : Env') : M D := bnd (na ρ) fun x => bnd (asB x) fun c => match c with
  | true => ret (.bl true)
  | false => nb ρ
def vNot (na : Env' → M D) (ρ : Env') : M D := bnd (na ρ) fun x => bnd (asB x) fun c => ret (.bl (!c))
theorem me_and {na nb : Env' → M D} (ha : ME X G W a na) (hb : ME X G W (.BoolOp .And (b :: rest) pos) nb) : ME X G W (.BoolOp .And (a :: b :: rest) pos) (vAnd na nb) := by
  refine peImp (pe_and ha hb) fun σ H Q ⟨φ, ρ, st, so, p⟩ => ?_
  refine tM_of so (Post.bind p) fun d1 st1 φ1 H1 v1 x1 so1 r1 p1 => ?_
  obtain ⟨c, rfl, p2⟩ := asB_of so1.s r1 (Post.bind p1)
  refine ⟨c, rfl, ?_⟩
  cases c with
  | true => exact iteT ⟨φ1, ρ, st1, so1, p2⟩
  | false => exact iteF (Post.now (G := G) (W := W) (σ := σ) so1.s p2 _ .bl)
theorem me_or {na nb : Env' → M D} (ha : ME X G W a na) (hb : ME X G W (.BoolOp .Or (b :: rest) pos) nb) : ME X G W (.BoolOp .Or (a :: b :: rest) pos) (vOr na nb) := by
  refine peImp (pe_or ha hb) fun σ H Q ⟨φ, ρ, st, so, p⟩ => ?_
  refine tM_of so (Post.bind p) fun d1 st1 φ1 H1 v1 x1 so1 r1 p1 => ?_
  obtain ⟨c, rfl, p2⟩ := asB_of so1.s r1 (Post.bind p1)
  refine ⟨c, rfl, ?_⟩
  cases c with
  | true => exact iteT (Post.now (G := G) (W := W) (σ := σ) so1.s p2 _ .bl)
  | false => exact iteF ⟨φ1, ρ, st1, so1, p2⟩
theorem me_not {na : Env' → M D} (ha : ME X G W a na) : ME X G W (.UnaryOp .Not a pos) (vNot na) := by
  refine peImp (pe_not ha) fun σ H Q ⟨φ, ρ, st, so, p⟩ => ?_
  refine tM_of so (Post.bind p) fun d1 st1 φ1 H1 v1 x1 so1 r1 p1 => ?_
  obtain ⟨c, rfl, p2⟩ := asB_of so1.s r1 (Post.bind p1)
  exact ⟨c, rfl, Post.now (G := G) (W := W) (σ := σ) so1.s p2 _ .bl⟩
end
/-! ### lists of expressions, displays -/
def mNil (_ : Env') : M (List D) := ret []
def mCons (m : Env' → M D) (ms : Env' → M (List D)) (ρ : Env') : M (List D) := bnd (m ρ) fun x => bnd (ms ρ) fun xs => ret (x :: xs)
theorem ma_nil : MA X G W [] mNil := paImp pa_nil fun σ H Q ⟨φ, ρ, st, so, p⟩ => Post.now (G := G) (W := W) (σ := σ) so.s p _ .nil
theorem ma_cons {e : Expr} {es : List Expr} {m : Env' → M D} {ms : Env' → M (List D)} (ha : ME X G W e m) (hr : MA X G W es ms) (hs : starEach (e :: es) X.env = (false, eval e X.env) :: starEach es X.env := by rfl) : MA X G W (e :: es) (mCons m ms) := by
  refine paImp (pa_cons ha hr hs) fun σ H Q ⟨φ, ρ, st, so, p⟩ => ?_
  refine tM_of so (Post.bind p) fun d1 st1 φ1 H1 v1 x1 so1 r1 p1 => ?_
  refine tML_of so1 (Post.bind p1) fun d2 st2 φ2 H2 v2 x2 so2 r2 p2 => ?_
  exact Post.now (G := G) (W := W) (σ := σ) so2.s p2 _ (.cons (r1.mono x2) r2)
def LIM : Nat := 1000000
theorem lim_line {n : Nat} (h : decide (n ≤ LIM) = true) : n ≤ sizeLine := Nat.le_trans (of_decide_eq_true h) (by rw [sizeLine_eq]; decide)
theorem lim_lt {n : Nat} (h : decide (n ≤ LIM) = true) : n < sizeLine := Nat.lt_of_le_of_lt (of_decide_eq_true h) (by rw [sizeLine_eq]; decide)
def mTup (ms : Env' → M (List D)) (ρ : Env') : M D := bnd (ms ρ) fun xs => chk (decide (xs.length ≤ LIM)) (ret (.tup xs))
def mLst (ms : Env' → M (List D)) (ρ : Env') : M D := bnd (ms ρ) fun xs => chk (decide (xs.length ≤ LIM)) (ret (.lst xs))
/-- a list that will change -/
def newCell (c : Cell) : M D := fun st => .ok (.cel st.length) (st ++ [c])
def mCel (ms : Env' → M (List D)) (ρ : Env') : M D := bnd (ms ρ) fun xs => chk (decide (xs.length ≤ LIM)) (newCell (.lst xs))
theorem rp_tup {p : Addr} {xs : List D} {vs : List V} (n : H p = none) (r : RpL X.K G φ H xs vs) : Rp X.K G φ (upd H p (.tup vs)) (.tup xs) (.ref p) := .tup (SqT.of upd_same) (r.mono (Ext.new n))
theorem notin_phi {p : Addr} (s : StOk X.K G φ H st) (n : H p = none) : p ∉ φ := fun hm => by
  obtain ⟨i, hi, e⟩ := List.getElem_of_mem hm
  have h2 : i < st.length := by rw [← s.len]; exact hi
  obtain ⟨o, e1, _⟩ := s.cell i st[i] p (List.getElem?_eq_getElem h2) (by rw [List.getElem?_eq_getElem hi, e])
  rw [n] at e1
  cases e1
theorem rp_lst {p : Addr} {xs : List D} {vs : List V} (s : StOk X.K G φ H st) (n : H p = none) (r : RpL X.K G φ H xs vs) : Rp X.K G φ (upd H p (.lst vs)) (.lst xs) (.ref p) := .lst upd_same (notin_phi s n) (s.nofx n) (r.mono (Ext.new n))
theorem ext_cell {p : Addr} {o : HO} (n : H p = none) : Ext φ H (φ ++ [p]) (upd H p o) := by
  have k : ∀ b u, H b = some u → upd H p o b = some u := fun b u e => by rw [upd_ne (ne_of_none e n)]; exact e
  exact ⟨⟨[p], rfl, fun a ha => by rw [List.mem_singleton.mp ha]; exact n⟩, fun a u h _ _ => k a u h, fun a xs h => k a _ h, fun a u z h => k a _ h, fun a h => by
    cases q : H a with
    | none => exact absurd q h
    | some u => rw [k a u q]; simp⟩
/-- a cell is laid -/
theorem StOk.cellNew {p : Addr} {c : Cell} {o : HO} (s : StOk X.K G φ H st) (n : H p = none) (ho : CellOk X.K G φ H c o) : StOk X.K G (φ ++ [p]) (upd H p o) (st ++ [c]) := by
  have x : Ext φ H (φ ++ [p]) (upd H p o) := ext_cell n
  have hp := notin_phi s n
  have k : ∀ b u, H b = some u → upd H p o b = some u := fun b u e => by rw [upd_ne (ne_of_none e n)]; exact e
  refine ⟨by rw [List.length_append, List.length_append, s.len]; rfl, ?_, fun i c' a h1 h2 => ?_, s.tabs.ext k, s.anc.trans x, fun a h => x.there a (s.fx a h), fun a h m => (List.mem_append.mp m).elim (s.fd a h) fun z => s.nofx n (by rw [← List.mem_singleton.mp z]; exact h)⟩
  · exact List.nodup_append.mpr ⟨s.nd, by simp, fun a ha b hb e => by
      rw [List.mem_singleton.mp hb] at e
      exact hp (e ▸ ha)⟩
  · by_cases hi : i < st.length
    · rw [List.getElem?_append_left hi] at h1
      rw [List.getElem?_append_left (by rw [s.len]; exact hi)] at h2
      obtain ⟨u, e1, e2⟩ := s.cell i c' a h1 h2
      exact ⟨u, k _ _ e1, e2.mono x⟩
    · have hi2 : i = st.length := by
        have := (List.getElem?_eq_some_iff.mp h1).1
        rw [List.length_append] at this
        have h3 : [c].length = 1 := rfl
        omega
      rw [hi2, List.getElem?_append_right (Nat.le_refl _)] at h1
      rw [hi2, ← s.len, List.getElem?_append_right (Nat.le_refl _)] at h2
      simp at h1 h2
      subst h1 h2
      exact ⟨o, upd_same, ho.mono x⟩
theorem me_tup {es : List Expr} {ms : Env' → M (List D)} {k : Nat} {pos : Pos} (h : MA X G W es ms) : ME X G W (.Tuple es k pos) (mTup ms) := by
  refine peImp (pe_tup h) fun σ H Q ⟨φ, ρ, st, so, p⟩ => ?_
  refine tML_of so (Post.bind p) fun ds st1 φ1 H1 vs x1 so1 r1 p1 => ?_
  obtain ⟨c, p2⟩ := Post.chk p1
  refine ⟨by rw [← r1.length]; exact lim_line c, fun q hq => ?_⟩
  exact Post.made (G := G) (W := W) (σ := σ) so1.s p2 hq _ (rp_tup hq r1)
theorem me_lst {es : List Expr} {ms : Env' → M (List D)} {pos : Pos} (h : MA X G W es ms) : ME X G W (.List es pos) (mLst ms) := by
  refine peImp (pe_lst h) fun σ H Q ⟨φ, ρ, st, so, p⟩ => ?_
  refine tML_of so (Post.bind p) fun ds st1 φ1 H1 vs x1 so1 r1 p1 => ?_
  obtain ⟨c, p2⟩ := Post.chk p1
  refine ⟨by rw [← r1.length]; exact lim_line c, fun q hq => ?_⟩
  exact Post.made (G := G) (W := W) (σ := σ) so1.s p2 hq _ (rp_lst so1.s hq r1)
theorem me_cel {es : List Expr} {ms : Env' → M (List D)} {pos : Pos} (h : MA X G W es ms) : ME X G W (.List es pos) (mCel ms) := by
  refine peImp (pe_lst h) fun σ H Q ⟨φ, ρ, st, so, p⟩ => ?_
  refine tML_of so (Post.bind p) fun ds st1 φ1 H1 vs x1 so1 r1 p1 => ?_
  obtain ⟨c, p2⟩ := Post.chk p1
  refine ⟨by rw [← r1.length]; exact lim_line c, fun q hq => ?_⟩
  refine p2 (φ1 ++ [q]) _ (ext_cell hq) (so1.s.cellNew hq (.lst r1)) _ (.cel ?_)
  rw [← so1.s.len, List.getElem?_append_right (Nat.le_refl _)]
  simp
end
end DL

namespace DL
open PySem PySem.Spec PyProof.Rows L2
/-! ### statements -/
def sB {α : Type} (ρ : Env') (m : M α) (f : α → Store → RS) : Store → RS := fun st => match m st with
  | .ok a st' => f a st'
  | .exc c st' => .exc c ρ st'
  | .bad => .bad
def sNx : MS := fun ρ st => .nx ρ st
def sSeq (a b : MS) : MS := fun ρ st => match a ρ st with
  | .nx ρ' st' => b ρ' st'
  | r => r
def sExpr (m : Env' → M D) : MS := fun ρ => sB ρ (m ρ) fun _ st => .nx ρ st
def sRet (m : Env' → M D) : MS := fun ρ => sB ρ (m ρ) fun d st => .rt d st
def sRetN : MS := fun _ st => .rt .non st
def sIf (c : Env' → M Bool) (a b : MS) : MS := fun ρ => sB ρ (c ρ) fun k => match k with
  | true => a ρ
  | false => b ρ
abbrev GM := D → Env' → M Env'
def gNm (i : Nat) : GM := fun d ρ => ret (ρ.set i (some d))
def gL : List GM → List D → Env' → M Env'
  | [], [], ρ => ret ρ
  | g :: gs, d :: ds, ρ => bnd (g d ρ) fun ρ' => gL gs ds ρ'
  | _, _, _ => fail
def gTp (gs : List GM) : GM := fun d => match d with
  | .tup xs => gL gs xs
  | _ => fun _ => fail
def sG (g : GM) (d : D) : MS := fun ρ st => match g d ρ st with
  | .ok ρ' st' => .nx ρ' st'
  | _ => .bad
def sAsg (m : Env' → M D) (g : GM) : MS := fun ρ => sB ρ (m ρ) fun d => sG g d ρ
def sBrk : MS := fun ρ st => .bk ρ st
def sCnt : MS := fun ρ st => .ct ρ st
section
variable {K : PySem.W.Frag} {G : Gx} {W : WX} {σ : St} {φ φ' : List Addr} {H H' : Hp} {ρ : Env'} {st : Store} {α β : Type} {De : Ends}
theorem PostS.ext {r : RS} (x : Ext φ H φ' H') (h : PostS K G W φ H r De) : PostS K G W φ' H' r De := by
  cases r with
  | nx ρ st => exact fun φ2 H2 σ' x2 s => h φ2 H2 σ' (x.trans x2) s
  | rt d st => exact fun φ2 H2 v x2 s r => h φ2 H2 v (x.trans x2) s r
  | bk ρ st => exact fun φ2 H2 σ' x2 s => h φ2 H2 σ' (x.trans x2) s
  | ct ρ st => exact fun φ2 H2 σ' x2 s => h φ2 H2 σ' (x.trans x2) s
  | exc c ρ st => exact fun φ2 H2 σ' x2 s => h φ2 H2 σ' (x.trans x2) s
  | bad => exact h
theorem PostS.sb {m : M α} {f : α → Store → RS} (e : EnvOk K G φ H σ ρ) (h : PostS K G W φ H (sB ρ m f st) De) :
    Post K G W σ φ H (m st) fun a st1 φ1 H1 => PostS K G W φ1 H1 (f a st1) De := by
  unfold sB at h
  cases q : m st with
  | ok a st' =>
    rw [q] at h
    exact fun φ2 H2 x2 s => PostS.ext x2 h
  | exc c st' =>
    rw [q] at h
    exact fun φ2 H2 x2 s => h φ2 H2 σ x2 ⟨s, e.mono x2⟩
  | bad =>
    rw [q] at h
    exact h
theorem PostS.seq {a b : MS} (h : PostS K G W φ H (sSeq a b ρ st) De) : PostS K G W φ H (a ρ st) { De with nx := tMS K G W b De } := by
  unfold sSeq at h
  cases q : a ρ st with
  | nx ρ' st' =>
    rw [q] at h
    exact fun φ2 H2 σ' x2 s => ⟨φ2, ρ', st', s, PostS.ext x2 h⟩
  | rt d st => rw [q] at h; exact h
  | bk ρ st => rw [q] at h; exact h
  | ct ρ st => rw [q] at h; exact h
  | exc c ρ st => rw [q] at h; exact h
  | bad => rw [q] at h; exact h
theorem PostS.nx (so : SOk K G φ H σ ρ st) (h : PostS K G W φ H (.nx ρ st) De) : De.nx σ H := h φ H σ (Ext.refl _ _) so
end
section
variable {X : Cx} {G : Gx} {W : WX}
theorem tMS_nil (D : Ends) (σ : St) (H : Hp) (h : tMS X.K G W sNx D σ H) : D.nx σ H := by
  obtain ⟨φ, ρ, st, so, p⟩ := h
  exact PostS.nx (W := W) so p
theorem ss_nil : SS X G W [] sNx := pssImp pss_nil fun D σ H h => tMS_nil D σ H h
theorem ss_cons {s : Stmt} {r : List Stmt} {a b : MS} (h1 : ST X G W s a) (h2 : SS X G W r b) : SS X G W (s :: r) (sSeq a b) :=
  pssImp (pss_cons h1 h2) fun D σ H ⟨φ, ρ, st, so, p⟩ => ⟨φ, ρ, st, so, PostS.seq p⟩
theorem ss_one {s : Stmt} {a : MS} (h1 : ST X G W s a) : SS X G W [s] a := pss_one h1
theorem st_pass {pos : Pos} : ST X G W (.Pass pos) sNx := psImp ps_pass fun D σ H h => tMS_nil D σ H h
theorem st_break {pos : Pos} : ST X G W (.Break pos) sBrk := psImp ps_break fun D σ H ⟨φ, ρ, st, so, p⟩ => p φ H σ (Ext.refl _ _) so
theorem st_continue {pos : Pos} : ST X G W (.Continue pos) sCnt := psImp ps_continue fun D σ H ⟨φ, ρ, st, so, p⟩ => p φ H σ (Ext.refl _ _) so
theorem st_expr {e : Expr} {m : Env' → M D} {pos : Pos} (he : ME X G W e m) (hs : swapsWith e none pos.line X.env = pure false := by rfl) : ST X G W (.Expr e pos) (sExpr m) := by
  refine psImp (ps_expr he hs) fun D σ H ⟨φ, ρ, st, so, p⟩ => ?_
  exact tM_of so (PostS.sb so.e p) fun d1 st1 φ1 H1 v1 x1 so1 r1 p1 => PostS.nx (W := W) so1 p1
theorem st_ret {e : Expr} {m : Env' → M D} {pos : Pos} (he : ME X G W e m) : ST X G W (.Return (some e) pos) (sRet m) := by
  refine psImp (ps_ret he) fun D σ H ⟨φ, ρ, st, so, p⟩ => ?_
  exact tM_of so (PostS.sb so.e p) fun d1 st1 φ1 H1 v1 x1 so1 r1 p1 => p1 φ1 H1 v1 (Ext.refl _ _) so1.s r1
theorem st_retN {pos : Pos} : ST X G W (.Return none pos) sRetN := psImp ps_retN fun D σ H ⟨φ, ρ, st, so, p⟩ => p φ H .non (Ext.refl _ _) so.s .non
theorem st_if {c : Expr} {a b : List Stmt} {mc : Env' → M Bool} {ma mb : MS} {pos : Pos} (hc : MT X G W c mc) (ha : SS X G W a ma) (hb : SS X G W b mb) : ST X G W (.If c a b pos) (sIf mc ma mb) := by
  refine psImp (ps_if hc ha hb) fun D σ H ⟨φ, ρ, st, so, p⟩ => ?_
  refine tMB_of so (PostS.sb so.e p) fun b1 st1 φ1 H1 x1 so1 p1 => ?_
  cases b1 with
  | true => exact iteT ⟨φ1, ρ, st1, so1, p1⟩
  | false => exact iteF ⟨φ1, ρ, st1, so1, p1⟩
/-! ### targets -/
def PostG (K : PySem.W.Frag) (G : Gx) (φ : List Addr) (H : Hp) (r : R Env') (Q : St → Hp → Prop) : Prop := match r with
  | .ok ρ st => ∀ φ' H' σ', Ext φ H φ' H' → SOk K G φ' H' σ' ρ st → Q σ' H'
  | _ => False
theorem PostG.ext {K : PySem.W.Frag} {φ φ' : List Addr} {H H' : Hp} {r : R Env'} {Q : St → Hp → Prop} (x : Ext φ H φ' H') (h : PostG K G φ H r Q) : PostG K G φ' H' r Q := by
  cases r with
  | ok ρ st => exact fun φ2 H2 σ' x2 s => h φ2 H2 σ' (x.trans x2) s
  | exc c st => exact h
  | bad => exact h
def tG (K : PySem.W.Frag) (G : Gx) (g : GM) : TG := fun v σ H Q => ∃ φ ρ st d, SOk K G φ H σ ρ st ∧ Rp K G φ H d v ∧ PostG K G φ H (g d ρ st) Q
def tGs (K : PySem.W.Frag) (G : Gx) (g : List GM) : TGs := fun vs σ H Q => ∃ φ ρ st ds, SOk K G φ H σ ρ st ∧ RpL K G φ H ds vs ∧ PostG K G φ H (gL g ds ρ st) Q
abbrev GT (X : Cx) (G : Gx) (e : Expr) (g : GM) : Prop := PG X e (tG X.K G g)
abbrev GTs (X : Cx) (G : Gx) (es : List Expr) (g : List GM) : Prop := PGs X es (tGs X.K G g)
theorem pgImp {e : Expr} {t t' : TG} (h : PG X e t) (i : ∀ v σ H Q, t' v σ H Q → t v σ H Q) : PG X e t' := ⟨fun pins s σ H v u Q I r hw => h.run pins s σ H v u Q I r (i v σ H Q hw)⟩
theorem pgsImp {e : List Expr} {t t' : TGs} (h : PGs X e t) (i : ∀ v σ H Q, t' v σ H Q → t v σ H Q) : PGs X e t' := ⟨fun pins s σ H v u Q I r hw => h.run pins s σ H v u Q I r (i v σ H Q hw)⟩
theorem gt_name {e : Expr} {i : Nat} (h : PG X e (gName i)) : GT X G e (gNm i) := by
  refine pgImp h fun v σ H Q ⟨φ, ρ, st, d, so, r, p⟩ => ?_
  exact p φ H _ (Ext.refl _ _) ⟨so.s, so.e.set r⟩
theorem gts_nil : GTs X G [] [] := by
  refine pgsImp pgs_nil fun v σ H Q ⟨φ, ρ, st, ds, so, r, p⟩ => ?_
  cases r with
  | nil => exact ⟨rfl, p φ H σ (Ext.refl _ _) so⟩
  | cons _ _ => exact p.elim
theorem gts_cons {e : Expr} {es : List Expr} {g : GM} {gs : List GM} (h1 : GT X G e g) (h2 : GTs X G es gs)
    (hs : (assignEach (e :: es) X.env).map (·.2) = assign e X.env :: (assignEach es X.env).map (·.2) := by rfl) : GTs X G (e :: es) (g :: gs) := by
  refine pgsImp (pgs_cons h1 h2 hs) fun vs σ H Q ⟨φ, ρ, st, ds, so, rl, p⟩ => ?_
  cases rl with
  | nil => exact p.elim
  | @cons d v ds vs r1 rr =>
    refine ⟨v, vs, rfl, φ, ρ, st, d, so, r1, ?_⟩
    have p1 : PostG X.K G φ H (bnd (g d ρ) (fun ρ' => gL gs ds ρ') st) Q := p
    unfold bnd at p1
    cases q : g d ρ st with
    | ok ρ' st' =>
      rw [q] at p1
      exact fun φ2 H2 σ' x2 s2 => ⟨φ2, ρ', st', ds, s2, rr.mono x2, PostG.ext x2 p1⟩
    | exc c st => rw [q] at p1; exact p1
    | bad => rw [q] at p1; exact p1
theorem gL_len {K : PySem.W.Frag} {Q : St → Hp → Prop} {φ : List Addr} {H : Hp} : ∀ (gs : List GM) (ds : List D) (ρ : Env') (st : Store), PostG K G φ H (gL gs ds ρ st) Q → gs.length = ds.length
  | [], [], _, _, _ => rfl
  | [], _ :: _, _, _, h => h.elim
  | _ :: _, [], _, _, h => h.elim
  | g :: gs, d :: ds, ρ, st, h => by
    have p1 : PostG K G φ H (bnd (g d ρ) (fun ρ' => gL gs ds ρ') st) Q := h
    unfold bnd at p1
    cases q : g d ρ st with
    | ok ρ' st' =>
      rw [q] at p1
      rw [List.length_cons, List.length_cons, gL_len gs ds ρ' st' p1]
    | exc c st => rw [q] at p1; exact p1.elim
    | bad => rw [q] at p1; exact p1.elim
theorem gt_tup {es : List Expr} {k : Nat} {gs : List GM} {pos : Pos} {n : Nat} (hc : X.calm = true) (h : GTs X G es gs) (hl : gs.length = n := by rfl)
    (hn : (assignEach es X.env).length = n := by rfl) (hst : (assignEach es X.env).findIdx? (·.1) = none := by rfl) : GT X G (.Tuple es k pos) (gTp gs) := by
  refine pgImp (pg_tup hc h hn hst) fun v σ H Q ⟨φ, ρ, st, d, so, r, p⟩ => ?_
  cases r with
  | @tup xs a vs hs rl => exact ⟨a, vs, rfl, hs, by rw [← rl.length, ← gL_len gs xs ρ st p, hl], φ, ρ, st, xs, so, rl, p⟩
  | _ => exact p.elim
theorem PostS.g {K : PySem.W.Frag} {φ : List Addr} {H : Hp} {g : GM} {d : D} {ρ : Env'} {st : Store} {De : Ends} (h : PostS K G W φ H (sG g d ρ st) De) : PostG K G φ H (g d ρ st) De.nx := by
  unfold sG at h
  cases q : g d ρ st with
  | ok ρ' st' => rw [q] at h; exact h
  | exc c st => rw [q] at h; exact h
  | bad => rw [q] at h; exact h
theorem st_asg {tg e : Expr} {m : Env' → M D} {g : GM} {pos : Pos} (he : ME X G W e m) (hg : GT X G tg g) (hs : swapsWithSole [tg] e pos.line X.env = pure false := by rfl) (hw : swappedStores [tg] e X.env = pure none := by rfl)
    (h1 : (assignEach [tg] X.env).map (·.2) = [assign tg X.env] := by rfl) : ST X G W (.Assign [tg] e pos) (sAsg m g) := by
  refine psImp (ps_asg he hg hs hw h1) fun De σ H ⟨φ, ρ, st, so, p⟩ => ?_
  refine tM_of so (PostS.sb so.e p) fun d1 st1 φ1 H1 v1 x1 so1 r1 p1 => ?_
  exact ⟨φ1, ρ, st1, d1, so1, r1, PostS.g p1⟩
/-- a, b = e, f (both sides written): no tuple is made -/
def sPar (i j : Nat) (ms : Env' → M (List D)) : MS := fun ρ => sB ρ (ms ρ) fun ds st => match ds with
  | [d, e] => .nx ((ρ.set i (some d)).set j (some e)) st
  | _ => .bad
theorem st_par {i j : Nat} {x y : Str} {a b : Expr} {ms : Env' → M (List D)} {px py pt pos : Pos} {kt k2 : Nat} {pt2 : Pos} (hc : X.calm = true) (hN : X.N.Nodup) (hi : X.N[i]? = some x) (hj : X.N[j]? = some y) (hij : i ≠ j)
    (hx : X.env.scope.names.lookup x = some .local) (hy : X.env.scope.names.lookup y = some .local) (ha : MA X G W [a, b] ms)
    (hw : swappedStores [.Tuple [.Name x px, .Name y py] kt pt] (.Tuple [a, b] k2 pt2) X.env = pure (some [x, y]))
    (hs : swapsWithSole [.Tuple [.Name x px, .Name y py] kt pt] (.Tuple [a, b] k2 pt2) pos.line X.env = pure false := by rfl) :
    ST X G W (.Assign [.Tuple [.Name x px, .Name y py] kt pt] (.Tuple [a, b] k2 pt2) pos) (sPar i j ms) := by
  refine psImp (ps_par hc hN hi hj hij hx hy ha hw hs) fun De σ H ⟨φ, ρ, st, so, p⟩ => ?_
  refine tML_of so (PostS.sb so.e p) fun ds st1 φ1 H1 vs x1 so1 r1 p1 => ?_
  cases r1 with
  | nil => exact p1.elim
  | cons ra rr =>
    cases rr with
    | nil => exact p1.elim
    | cons rb rr =>
      cases rr with
      | nil => exact ⟨_, _, rfl, p1 φ1 H1 _ (Ext.refl _ _) ⟨so1.s, (so1.e.set ra).set rb⟩⟩
      | cons _ _ => exact p1.elim
/-! ### what is walked -/
structure Itm where
  xs : List D
  ck : Store → Bool
structure ItD (K : PySem.W.Frag) (G : Gx) (φ0 : List Addr) (H0 : Hp) (J : It) (it : Itm) : Prop where
  go : ∀ φ H st (i : Nat) d, Ext φ0 H0 φ H → StOk K G φ H st → it.ck st = true → it.xs[i]? = some d → J.go i H ∧ ∀ x H', J.yld i H x H' → (∀ b o, H b = some o → H' b = some o) ∧ Rp K G φ H' d x
  stop : ∀ φ H st, Ext φ0 H0 φ H → StOk K G φ H st → it.ck st = true → J.stop it.xs.length H
theorem ItD.ext {K : PySem.W.Frag} {φ φ' : List Addr} {H H' : Hp} {J : It} {it : Itm} (x : Ext φ H φ' H') (h : ItD K G φ H J it) : ItD K G φ' H' J it :=
  ⟨fun φ2 H2 st i d x2 => h.go φ2 H2 st i d (x.trans x2), fun φ2 H2 st x2 => h.stop φ2 H2 st (x.trans x2)⟩
def tI (K : PySem.W.Frag) (G : Gx) (W : WX) (m : Env' → M Itm) : TI := fun σ H R => ∃ φ ρ st, SOk K G φ H σ ρ st ∧ Post K G W σ φ H (m ρ st) fun it _ φ' H' => ∀ J, (∀ fx, (∀ a ∈ fx, a ∈ G.fx ∨ H' a = none) → ItD K (G.fl fx) φ' H' J it) → R J H'
abbrev MI (X : Cx) (G : Gx) (W : WX) (tg iter : Expr) (m : Env' → M Itm) : Prop := PI X tg iter (tI X.K G W m)
theorem piImp {tg e : Expr} {t t' : TI} (h : PI X tg e t) (i : ∀ σ H Q, t' σ H Q → t σ H Q) : PI X tg e t' := ⟨fun pins s σ H Q I hw => h.run pins s σ H Q I (i σ H Q hw)⟩
/-! ### loops -/
def lpK (r : RS) (f : MS) : RS := match r with
  | .nx ρ st => f ρ st
  | .ct ρ st => f ρ st
  | .bk ρ st => .nx ρ st
  | r => r
def forL (ck : Store → Bool) (g : GM) (b : MS) : List D → MS
  | [] => fun ρ st => (match ck st with
    | true => .nx ρ st
    | false => .bad)
  | x :: xs => fun ρ st => (match ck st with
    | true => (match g x ρ st with
      | .ok ρ1 st1 => lpK (b ρ1 st1) (forL ck g b xs)
      | _ => .bad)
    | false => .bad)
def sFor (mi : Env' → M Itm) (g : GM) (b : MS) : MS := fun ρ => sB ρ (mi ρ) fun it => forL it.ck g b it.xs ρ
theorem PostS.lp {K : PySem.W.Frag} {φ : List Addr} {H : Hp} {r : RS} {f : MS} {De : Ends} {N : St → Hp → Prop} (h : PostS K G W φ H (lpK r f) De) (hN : ∀ φ' H' σ' ρ st, Ext φ H φ' H' → SOk K G φ' H' σ' ρ st → PostS K G W φ' H' (f ρ st) De → N σ' H') :
    PostS K G W φ H r { De with nx := N, ct := N, bk := De.nx } := by
  cases r with
  | nx ρ st => exact fun φ2 H2 σ' x2 s => hN φ2 H2 σ' ρ st x2 s (PostS.ext x2 h)
  | ct ρ st => exact fun φ2 H2 σ' x2 s => hN φ2 H2 σ' ρ st x2 s (PostS.ext x2 h)
  | rt d st => exact h
  | bk ρ st => exact h
  | exc c ρ st => exact h
  | bad => exact h
theorem st_for {tg iter : Expr} {body : List Stmt} {mi : Env' → M Itm} {g : GM} {b : MS} {pos : Pos} (hp : PassesOwn (model X.prog X.w) X.A X.env X.xe) (hc : X.calm = true) (hi : MI X G W tg iter mi) (hg : GT X G tg g) (hb : SS X G W body b)
    (hs : ∀ x, foldedSetIterable iter X.env x = pure x := by intro _; rfl) : ST X G W (.For tg iter body [] pos) (sFor mi g b) := by
  refine psImp (ps_for hp hc hi hg hb hs) fun De σ H ⟨φ, ρ, st, so, p⟩ => ?_
  refine ⟨φ, ρ, st, so, (PostS.sb so.e p).imp fun it st1 φ1 H1 x1 s1 p1 J hJ0 => ?_⟩
  have hJ : ItD X.K G φ1 H1 J it := hJ0 G.fx fun a h => .inl h
  refine ⟨fun i m σ' H' => ∃ φ' ρ' st', m = it.xs.length - i ∧ i ≤ it.xs.length ∧ SOk X.K G φ' H' σ' ρ' st' ∧ Ext φ1 H1 φ' H' ∧ PostS X.K G W φ' H' (forL it.ck g b (it.xs.drop i) ρ' st') De,
    ⟨it.xs.length, φ1, ρ, st1, by simp, Nat.zero_le _, ⟨s1, so.e.mono x1⟩, Ext.refl _ _, p1⟩, ?_⟩
  rintro i m σ' H' ⟨φ', ρ', st', rfl, hi', so', x', p'⟩
  by_cases hlt : i < it.xs.length
  · right
    have ed : it.xs.drop i = it.xs[i] :: it.xs.drop (i + 1) := List.drop_eq_getElem_cons hlt
    rw [ed] at p'
    unfold forL at p'
    cases c : it.ck st' with
    | false => rw [c] at p'; exact p'.elim
    | true =>
      rw [c] at p'
      obtain ⟨hgo, hy⟩ := hJ.go φ' H' st' i it.xs[i] x' so'.s c (List.getElem?_eq_getElem hlt)
      refine ⟨hgo, fun σ2 H2 => ∃ φ2 ρ2 st2, SOk X.K G φ2 H2 σ2 ρ2 st2 ∧ Ext φ1 H1 φ2 H2 ∧ PostS X.K G W φ2 H2 (forL it.ck g b (it.xs.drop (i + 1)) ρ2 st2) De, fun σ2 H2 ⟨φ2, ρ2, st2, s2, x2, p2⟩ => ⟨it.xs.length - (i + 1), by omega, φ2, ρ2, st2, rfl, hlt, s2, x2, p2⟩, fun x H2 hyl => ?_⟩
      obtain ⟨k, r⟩ := hy x H2 hyl
      have xk : Ext φ' H' φ' H2 := Ext.of_same k
      refine ⟨φ', ρ', st', it.xs[i], ⟨so'.s.same k, so'.e.mono xk⟩, r, ?_⟩
      cases q : g it.xs[i] ρ' st' with
      | exc c st => rw [q] at p'; exact p'.elim
      | bad => rw [q] at p'; exact p'.elim
      | ok ρ3 st3 =>
        rw [q] at p'
        intro φ3 H3 σ3 x3 s3
        refine ⟨φ3, ρ3, st3, s3, ?_⟩
        refine PostS.lp (PostS.ext (xk.trans x3) p') fun φ4 H4 σ4 ρ4 st4 x4 s4 p4 => ?_
        exact ⟨φ4, ρ4, st4, s4, ((x'.trans xk).trans x3).trans x4, p4⟩
  · left
    have ei : i = it.xs.length := by omega
    subst ei
    rw [List.drop_length] at p'
    unfold forL at p'
    cases c : it.ck st' with
    | false => rw [c] at p'; exact p'.elim
    | true =>
      rw [c] at p'
      exact ⟨hJ.stop φ' H' st' x' so'.s c, p' φ' H' σ' (Ext.refl _ _) so'⟩
def whL (c : Env' → M Bool) (b : MS) : Nat → MS
  | 0 => fun _ _ => .bad
  | n + 1 => fun ρ => sB ρ (c ρ) fun k st => match k with
    | true => lpK (b ρ st) (whL c b n)
    | false => .nx ρ st
def sWh (fuel : Env' → Store → Nat) (c : Env' → M Bool) (b : MS) : MS := fun ρ st => whL c b (fuel ρ st) ρ st
theorem st_while {c : Expr} {body : List Stmt} {mc : Env' → M Bool} {b : MS} {pos : Pos} (fuel : Env' → Store → Nat) (hp : PassesOwn (model X.prog X.w) X.A X.env X.xe) (hc : MT X G W c mc) (hb : SS X G W body b) : ST X G W (.While c body [] pos) (sWh fuel mc b) := by
  refine psImp (ps_while hp hc hb) fun De σ H ⟨φ, ρ, st, so, p⟩ => ?_
  refine ⟨fun m σ' H' => ∃ φ' ρ' st', SOk X.K G φ' H' σ' ρ' st' ∧ PostS X.K G W φ' H' (whL mc b m ρ' st') De, ⟨_, φ, ρ, st, so, p⟩, ?_⟩
  rintro m σ' H' ⟨φ', ρ', st', so', p'⟩
  cases m with
  | zero => exact p'.elim
  | succ n =>
    refine tMB_of so' (PostS.sb so'.e p') fun k st1 φ1 H1 x1 so1 p1 => ?_
    cases k with
    | true =>
      refine iteT ⟨fun σ2 H2 => ∃ φ2 ρ2 st2, SOk X.K G φ2 H2 σ2 ρ2 st2 ∧ PostS X.K G W φ2 H2 (whL mc b n ρ2 st2) De, fun σ2 H2 q => ⟨n, Nat.lt_succ_self n, q⟩, φ1, ρ', st1, so1, ?_⟩
      exact PostS.lp p1 fun φ4 H4 σ4 ρ4 st4 x4 s4 p4 => ⟨φ4, ρ4, st4, s4, p4⟩
    | false => exact iteF (p1 φ1 H1 σ' (Ext.refl _ _) so1)
end
end DL

namespace DL
open PySem PySem.Spec PyProof.Rows L2
/-! ### values without cells -/
mutual
def D.no : D → Bool
  | .cel _ => false
  | .tup xs => D.noL xs
  | .lst xs => D.noL xs
  | .scr xs => D.noL xs
  | _ => true
def D.noL : List D → Bool
  | [] => true
  | x :: xs => D.no x && D.noL xs
end
section
variable {K : PySem.W.Frag} {G : Gx} {φ ψ : List Addr} {H : Hp}
mutual
theorem Rp.less : ∀ {d : D} {v : V}, D.no d = true → Rp K G (φ ++ ψ) H d v → Rp K G φ H d v
  | .cel _, _, h, _ => by simp [D.no] at h
  | .non, _, _, .non => .non
  | .bl _, _, _, .bl => .bl
  | .int _, _, _, .int => .int
  | .str _, _, _, .str h => .str h
  | .tup xs, _, h, .tup a r => .tup a (RpL.less (by simpa [D.no] using h) r)
  | .lst xs, _, h, .lst a n z r => .lst a (fun m => n (List.mem_append_left _ m)) z (RpL.less (by simpa [D.no] using h) r)
  | .scr xs, _, h, .scr a r => .scr a (RpL.less (by simpa [D.no] using h) r)
  | .fn _, _, _, .fn h => .fn h
  | .hof, _, _, .hof h => .hof h
theorem RpL.less : ∀ {ds : List D} {vs : List V}, D.noL ds = true → RpL K G (φ ++ ψ) H ds vs → RpL K G φ H ds vs
  | [], _, _, .nil => .nil
  | d :: ds, _, h, .cons a r => by
    have h1 : (D.no d && D.noL ds) = true := by simpa [D.noL] using h
    obtain ⟨h2, h3⟩ := Bool.and_eq_true_iff.mp h1
    exact .cons (Rp.less h2 a) (RpL.less h3 r)
end
end
def noF : List (Str × D) → Bool
  | [] => true
  | p :: r => D.no p.2 && noF r
def noK : List (Key × D) → Bool
  | [] => true
  | p :: r => D.no p.2 && noK r
def Cell.no : Cell → Bool
  | .lst xs => D.noL xs
  | .dct kvs => noK kvs
  | .dctL kvs => noK kvs
  | .ins _ fs => noF fs
def eqF : List (Str × D) → List (Str × D) → Bool
  | [], [] => true
  | p :: r, q :: s => decide (p.1 = q.1) && D.beq p.2 q.2 && eqF r s
  | _, _ => false
def eqK : List (Key × D) → List (Key × D) → Bool
  | [], [] => true
  | p :: r, q :: s => decide (p.1 = q.1) && D.beq p.2 q.2 && eqK r s
  | _, _ => false
theorem eqF_eq : ∀ {a b : List (Str × D)}, eqF a b = true → a = b
  | [], [], _ => rfl
  | [], _ :: _, h | _ :: _, [], h => by simp [eqF] at h
  | (p1, p2) :: r, (q1, q2) :: s, h => by
    have h1 : (decide (p1 = q1) && D.beq p2 q2 && eqF r s) = true := by simpa [eqF] using h
    obtain ⟨h2, h3⟩ := Bool.and_eq_true_iff.mp h1
    obtain ⟨h4, h5⟩ := Bool.and_eq_true_iff.mp h2
    rw [eqF_eq h3, D.beq_eq h5, of_decide_eq_true h4]
theorem eqK_eq : ∀ {a b : List (Key × D)}, eqK a b = true → a = b
  | [], [], _ => rfl
  | [], _ :: _, h | _ :: _, [], h => by simp [eqK] at h
  | (p1, p2) :: r, (q1, q2) :: s, h => by
    have h1 : (decide (p1 = q1) && D.beq p2 q2 && eqK r s) = true := by simpa [eqK] using h
    obtain ⟨h2, h3⟩ := Bool.and_eq_true_iff.mp h1
    obtain ⟨h4, h5⟩ := Bool.and_eq_true_iff.mp h2
    rw [eqK_eq h3, D.beq_eq h5, of_decide_eq_true h4]
theorem eqF_refl : ∀ a : List (Str × D), eqF a a = true
  | [] => rfl
  | (p1, p2) :: r => by simp [eqF, D.beq_refl, eqF_refl r]
theorem eqK_refl : ∀ a : List (Key × D), eqK a a = true
  | [] => rfl
  | (p1, p2) :: r => by simp [eqK, D.beq_refl, eqK_refl r]
def Cell.eqv : Cell → Cell → Bool
  | .lst a, .lst b => D.beqL a b
  | .dct a, .dct b => eqK a b
  | .dctL a, .dctL b => eqK a b
  | .ins c a, .ins d b => decide (c = d) && eqF a b
  | _, _ => false
theorem Cell.eqv_eq : ∀ {a b : Cell}, Cell.eqv a b = true → a = b
  | .lst a, .lst b, h => by rw [D.beqL_eq (show D.beqL a b = true from h)]
  | .dct a, .dct b, h => by rw [eqK_eq (show eqK a b = true from h)]
  | .dctL a, .dctL b, h => by rw [eqK_eq (show eqK a b = true from h)]
  | .ins c a, .ins d b, h => by
    obtain ⟨h1, h2⟩ := Bool.and_eq_true_iff.mp (show (decide (c = d) && eqF a b) = true from h)
    rw [of_decide_eq_true h1, eqF_eq h2]
  | .lst _, .dct _, h | .lst _, .ins _ _, h | .dct _, .lst _, h | .dct _, .ins _ _, h | .ins _ _, .lst _, h | .ins _ _, .dct _, h | .lst _, .dctL _, h | .dct _, .dctL _, h | .ins _ _, .dctL _, h | .dctL _, .lst _, h | .dctL _, .dct _, h | .dctL _, .ins _ _, h => by simp [Cell.eqv] at h
theorem Cell.eqv_refl : ∀ a : Cell, Cell.eqv a a = true
  | .lst a => D.beqL_refl a
  | .dct a => eqK_refl a
  | .dctL a => eqK_refl a
  | .ins c a => by simp [Cell.eqv, eqF_refl]
/-- the elder cells are as they were, or hold no cells -/
def clean : Store → Store → Bool
  | [], _ => true
  | c :: r, c' :: r' => (Cell.eqv c c' || Cell.no c') && clean r r'
  | _ :: _, [] => false
theorem clean_at : ∀ {st st' : Store} {n : Nat} {c : Cell}, clean st st' = true → st[n]? = some c → ∃ c', st'[n]? = some c' ∧ (c = c' ∨ Cell.no c' = true)
  | [], _, _, _, _, e => by simp at e
  | _ :: _, [], _, _, h, _ => by simp [clean] at h
  | a :: r, a' :: r', 0, c, h, e => by
    have e1 : a = c := Option.some.inj e
    subst e1
    have h1 : ((Cell.eqv a a' || Cell.no a') && clean r r') = true := h
    obtain ⟨h2, _⟩ := Bool.and_eq_true_iff.mp h1
    rcases Bool.or_eq_true_iff.mp h2 with z | z
    · exact ⟨a', rfl, .inl (Cell.eqv_eq z)⟩
    · exact ⟨a', rfl, .inr z⟩
  | a :: r, a' :: r', n + 1, c, h, e => by
    have h1 : ((Cell.eqv a a' || Cell.no a') && clean r r') = true := h
    obtain ⟨_, h3⟩ := Bool.and_eq_true_iff.mp h1
    obtain ⟨c', e', z⟩ := clean_at h3 (show r[n]? = some c from e)
    exact ⟨c', e', z⟩
theorem clean_refl : ∀ st : Store, clean st st = true
  | [] => rfl
  | c :: r => by simp [clean, Cell.eqv_refl, clean_refl r]
theorem clean_app : ∀ (st g : Store), clean st (st ++ g) = true
  | [], _ => rfl
  | c :: r, g => by simp [clean, Cell.eqv_refl, clean_app r g]
theorem clean_len : ∀ {st st' : Store}, clean st st' = true → st.length ≤ st'.length
  | [], _, _ => Nat.zero_le _
  | _ :: _, [], h => by simp [clean] at h
  | _ :: r, _ :: r', h => by
    have h1 : clean r r' = true := (Bool.and_eq_true_iff.mp h).2
    exact Nat.succ_le_succ (clean_len h1)
theorem clean_set : ∀ {st st' : Store} (n : Nat) {c : Cell}, clean st st' = true → Cell.no c = true → clean st (st'.set n c) = true
  | [], _, _, _, _, _ => rfl
  | _ :: _, [], _, _, h, _ => h
  | _ :: r, _ :: r', 0, c, h, hc => by
    have h1 : clean r r' = true := (Bool.and_eq_true_iff.mp h).2
    show ((_ || Cell.no c) && clean r r') = true
    rw [hc, h1]
    simp
  | _ :: r, _ :: r', n + 1, c, h, hc => by
    obtain ⟨h0, h1⟩ := Bool.and_eq_true_iff.mp h
    show (_ && clean r (r'.set n c)) = true
    rw [clean_set n h1 hc, Bool.and_true]
    exact h0
section
variable {K : PySem.W.Frag} {G : Gx} {φ φ' ψ : List Addr} {H H' : Hp} {st st' : Store}
mutual
/-- what is told over φ speaks of φ's cells alone -/
theorem Rp.back : ∀ {d : D} {v : V} {v' : V}, Rp K G φ H d v → Rp K G (φ ++ ψ) H' d v' → Rp K G φ H' d v'
  | _, _, _, .non, .non => .non
  | _, _, _, .bl, .bl => .bl
  | _, _, _, .int, .int => .int
  | _, _, _, .str h, .str _ => .str h
  | _, _, _, .tup _ r, .tup a r' => .tup a (RpL.back r r')
  | _, _, _, .lst _ _ _ r, .lst a n z r' => .lst a (fun m => n (List.mem_append_left _ m)) z (RpL.back r r')
  | _, _, _, .scr _ r, .scr a r' => .scr a (RpL.back r r')
  | _, _, _, .cel h, .cel h' => .cel (by
      rw [List.getElem?_append_left (List.getElem?_eq_some_iff.mp h).1] at h'
      exact h')
  | _, _, _, .fn _, .fn h => .fn h
  | _, _, _, .hof _, .hof h => .hof h
theorem RpL.back : ∀ {ds : List D} {vs : List V} {vs' : List V}, RpL K G φ H ds vs → RpL K G (φ ++ ψ) H' ds vs' → RpL K G φ H' ds vs'
  | _, _, _, .nil, .nil => .nil
  | _, _, _, .cons a r, .cons a' r' => .cons (Rp.back a a') (RpL.back r r')
end
theorem RpF.back : ∀ {ds : List (Str × D)} {vs vs' : List (Str × V)}, RpF K G φ H ds vs → RpF K G (φ ++ ψ) H' ds vs' → RpF K G φ H' ds vs'
  | _, _, _, .nil, .nil => .nil
  | _, _, _, .cons a r, .cons a' r' => .cons (Rp.back a a') (RpF.back r r')
theorem RpK.back : ∀ {ds : List (Key × D)} {vs vs' : List (Key × V)}, RpK K G φ H ds vs → RpK K G (φ ++ ψ) H' ds vs' → RpK K G φ H' ds vs'
  | _, _, _, .nil, .nil => .nil
  | _, _, _, .cons a r, .cons a' r' => .cons (Rp.back a a') (RpK.back r r')
theorem RpF.less : ∀ {ds : List (Str × D)} {vs : List (Str × V)}, noF ds = true → RpF K G (φ ++ ψ) H ds vs → RpF K G φ H ds vs
  | _, _, _, .nil => .nil
  | _, _, h, .cons a r => by
    obtain ⟨h2, h3⟩ := Bool.and_eq_true_iff.mp h
    exact .cons (Rp.less h2 a) (RpF.less h3 r)
theorem RpK.less : ∀ {ds : List (Key × D)} {vs : List (Key × V)}, noK ds = true → RpK K G (φ ++ ψ) H ds vs → RpK K G φ H ds vs
  | _, _, _, .nil => .nil
  | _, _, h, .cons a r => by
    obtain ⟨h2, h3⟩ := Bool.and_eq_true_iff.mp h
    exact .cons (Rp.less h2 a) (RpK.less h3 r)
theorem CellOk.back {c : Cell} {o o' : HO} (h : CellOk K G φ H c o) (h' : CellOk K G (φ ++ ψ) H' c o') : CellOk K G φ H' c o' := by
  cases h with
  | lst r => cases h' with
    | lst r' => exact .lst (r.back r')
  | dct r => cases h' with
    | dct r' => exact .dct (r.back r')
  | dctZ r => cases h' with
    | dctZ r' => exact .dctZ (r.back r')
  | ins r => cases h' with
    | ins r' => exact .ins (r.back r')
theorem CellOk.less {c : Cell} {o : HO} (n : Cell.no c = true) (h : CellOk K G (φ ++ ψ) H c o) : CellOk K G φ H c o := by
  cases h with
  | lst r => exact .lst (RpL.less n r)
  | dct r => exact .dct (RpK.less n r)
  | dctZ r => exact .dctZ (RpK.less n r)
  | ins r => exact .ins (RpF.less n r)
/-- the younger cells are let go -/
theorem StOk.drop (s : StOk K G φ H st) (x : Ext φ H φ' H') (s' : StOk K G φ' H' st') (c : clean st st' = true) : Ext φ H φ H' ∧ StOk K G φ H' (st'.take st.length) := by
  obtain ⟨⟨ψ, e, f⟩, k, t, z, th⟩ := id x
  subst e
  have x0 : Ext φ H φ H' := ⟨⟨[], by simp, by simp⟩, k, t, z, th⟩
  refine ⟨x0, ⟨by rw [List.length_take, s.len]; have := clean_len c; omega, s.nd, fun n c' a h1 h2 => ?_, s'.tabs, s.anc.trans x0, fun a h => x0.there a (s.fx a h), s.fd⟩⟩
  have hn : n < st.length := by
    rw [← s.len]
    exact (List.getElem?_eq_some_iff.mp h2).1
  rw [List.getElem?_take_of_lt hn] at h1
  obtain ⟨o', e', r'⟩ := s'.cell n c' a h1 (by rw [List.getElem?_append_left (List.getElem?_eq_some_iff.mp h2).1]; exact h2)
  refine ⟨o', e', ?_⟩
  obtain ⟨c2, e2, z2⟩ := clean_at c (List.getElem?_eq_getElem hn)
  rw [h1] at e2
  cases e2
  rcases z2 with z2 | z2
  · obtain ⟨o, _, r⟩ := s.cell n st[n] a (List.getElem?_eq_getElem hn) h2
    rw [z2] at r
    exact r.back r'
  · exact r'.less z2
end
/-- a value as it leaves a def: a list of the def's own is none that changes any more -/
def frz (st' : Store) (n0 : Nat) (d : D) : Option D := match D.no d with
  | true => some d
  | false => (match d with
    | .cel j => (match decide (n0 ≤ j), st'[j]? with
      | true, some (.lst xs) => (match D.noL xs with
        | true => some (.lst xs)
        | false => none)
      | _, _ => none)
    | _ => none)
def endOk (st : Store) (d : D) (st' : Store) : R D := match decide (st'.length = st.length) with
  | true => .ok d st'
  | false => (match clean st st', frz st' st.length d with
    | true, some d' => .ok d' (st'.take st.length)
    | _, _ => .bad)
def endEx (st : Store) (c : Nat) (st' : Store) : R D := match decide (st'.length = st.length) with
  | true => .exc c st'
  | false => (match clean st st' with
    | true => .exc c (st'.take st.length)
    | false => .bad)
/-- fr: the younger cells are let go at the end -/
def runB (fr : Bool) (N n : Nat) (b : MS) (ds : List D) : M D := fun st => match decide (ds.length = n) with
  | false => .bad
  | true => (match b (ds.map some ++ List.replicate (N - n) none) st with
    | .nx _ st' => (match fr with
      | true => endOk st .non st'
      | false => .ok .non st')
    | .rt d st' => (match fr with
      | true => endOk st d st'
      | false => .ok d st')
    | .exc c _ st' => (match fr with
      | true => endEx st c st'
      | false => .exc c st')
    | _ => .bad)
/-! ### what a def promises -/
def WofE (E : XK) : WX := fun c d _ H => E c d H
def spM (K : PySem.W.Frag) (G : Gx) (n : Nat) (m : List D → M D) : Sp := fun vs H Q E => ∃ φ ds st, vs.length = n ∧ StOk K G φ H st ∧ RpL K G φ H ds vs ∧ Post K G (WofE E) [] φ H (m ds st) fun d _ φ' H' => ∀ v, Rp K G φ' H' d v → Q v H'
section
variable {K : PySem.W.Frag} {G : Gx} {φ : List Addr} {H : Hp} {st : Store} {W : WX} {σ : St} {Q : VK}
theorem endOk_post {d : D} {st' : Store} {φ' : List Addr} {H' : Hp} {v : V} (s : StOk K G φ H st) (x : Ext φ H φ' H') (s' : StOk K G φ' H' st') (r : Rp K G φ' H' d v)
    (h : Post K G W σ φ H (endOk st d st') fun d _ φ' H' => ∀ v, Rp K G φ' H' d v → Q v H') : Q v H' := by
  unfold endOk at h
  cases c0 : decide (st'.length = st.length) with
  | true =>
    rw [c0] at h
    exact h φ' H' x s' v r
  | false =>
    rw [c0] at h
    cases c : clean st st' with
    | false => rw [c] at h; exact h.elim
    | true =>
      rw [c] at h
      cases f : frz st' st.length d with
      | none => rw [f] at h; exact h.elim
      | some d' =>
        rw [f] at h
        obtain ⟨x0, s0⟩ := s.drop x s' c
        refine h φ H' x0 s0 v ?_
        obtain ⟨⟨ψ, e, fr⟩, _⟩ := id x
        subst e
        unfold frz at f
        cases nd : D.no d with
        | true =>
          rw [nd] at f
          cases f
          exact r.less nd
        | false =>
          rw [nd] at f
          cases d with
          | cel j =>
            cases g1 : decide (st.length ≤ j) with
            | false => simp [g1] at f
            | true =>
              cases g2 : st'[j]? with
              | none => simp [g2] at f
              | some cc =>
                cases cc with
                | lst xs =>
                  cases g3 : D.noL xs with
                  | false => simp [g1, g2, g3] at f
                  | true =>
                    simp [g1, g2, g3] at f
                    subst f
                    cases r with
                    | @cel _ a ha =>
                      obtain ⟨o, e1, e2⟩ := s'.cell j _ a g2 ha
                      cases e2 with
                      | @lst _ vs rl =>
                        refine .lst e1 (fun hm => ?_) (fun hm => s'.fd a hm (List.mem_of_getElem? ha)) (RpL.less g3 rl)
                        obtain ⟨i, hi, ei⟩ := List.getElem_of_mem hm
                        have hj : st.length ≤ j := of_decide_eq_true g1
                        have h1 : (φ ++ ψ)[i]? = some a := by rw [List.getElem?_append_left hi, List.getElem?_eq_getElem hi, ei]
                        have := nd_ix s'.nd h1 ha
                        rw [s.len] at hi
                        omega
                | dct _ => simp [g2] at f
                | dctL _ => simp [g2] at f
                | ins _ _ => simp [g2] at f
          | non => cases nd
          | bl _ => cases nd
          | int _ => cases nd
          | str _ => cases nd
          | tup _ => cases f
          | lst _ => cases f
          | fn _ => cases nd
          | hof => cases nd
          | scr _ => cases f
theorem endEx_post {c : Nat} {st' : Store} {φ' : List Addr} {H' : Hp} {R : D → Store → List Addr → Hp → Prop} (s : StOk K G φ H st) (x : Ext φ H φ' H') (s' : StOk K G φ' H' st')
    (h : Post K G W σ φ H (endEx st c st') R) : W (.ref (G.tb.exs c)) none σ H' := by
  unfold endEx at h
  cases c0 : decide (st'.length = st.length) with
  | true =>
    rw [c0] at h
    exact h φ' H' x s'
  | false =>
    rw [c0] at h
    cases c : clean st st' with
    | false => rw [c] at h; exact h.elim
    | true =>
      rw [c] at h
      obtain ⟨x0, s0⟩ := s.drop x s' c
      exact h φ H' x0 s0
end
theorem env_start {K : PySem.W.Frag} {G : Gx} {φ : List Addr} {H : Hp} {N : List Str} {n : Nat} {ds : List D} {vs : List V} (r : RpL K G φ H ds vs) (hl : vs.length = n) : EnvOk K G φ H (L2.start N vs) (ds.map some ++ List.replicate (N.length - n) none) := by
  have hl2 := r.length
  refine ⟨by unfold L2.start; simp [hl2, hl], fun i d h => ?_⟩
  have hi : i < ds.length := by
    by_cases hi : i < ds.length
    · exact hi
    · rw [List.getElem?_append_right (by simpa using hi), List.getElem?_replicate] at h
      split at h <;> cases h
  rw [List.getElem?_append_left (by simpa using hi), List.getElem?_map] at h
  cases e : ds[i]? with
  | none => rw [e] at h; cases h
  | some d' =>
    rw [e] at h
    cases h
    obtain ⟨v, h1, h2⟩ := r.get e
    refine ⟨v, ?_, h2⟩
    unfold L2.start
    rw [List.getElem?_append_left (by rw [List.length_map, ← hl2]; exact hi), List.getElem?_map, h1]
    rfl
section
variable {P : Program} {w : World} {K : PySem.W.Frag} {mg : Str → Option Value} {base : Heap}
/-- THE RULE for a def -/
theorem ok_def {x qual : Str} {st : Stmt} {f : Addr} {fd : FuncData} {N ps : List Str} {k n : Nat} {G : Gx} {b : MS} {fr : Bool} {len : Nat} (F : Fun K x qual st f fd) (S : FnScope N ps (defScope st)) (hn : ps.length = n) (hN : N.length = len)
    (hbody : ∀ (cdv : Value) (A : Around) (outer : List Env) (s : Shared) (H : Hp) (E : XK), Room k (A.deeper (envOfC qual (defScope st) s.heap.objs.size f cdv)) →
      SS (cxOf (L2N.CX P w) P w K mg base N qual (defScope st) f cdv A outer s H E) G (WofE E) (defBody st) b) : FnOk P w K mg base (L2N.CX P w) (k + 1) f fd ps (spM K G n (runB fr len n b)) := by
  obtain ⟨oc, od, kV, doc, pm, an, cdv, ct, osl, rfl, lk, hcd⟩ := F.ex
  refine fn_of lk hcd S (fun vs H Q E ⟨_, _, _, h, _⟩ => h.trans hn.symm) fun A outer s H vs Q E hr hsp => ?_
  obtain ⟨φ, ds, st0, hl, so, rl, p⟩ := hsp
  refine ⟨_, hbody cdv A outer s H E hr, φ, _, st0, ⟨so, env_start rl hl⟩, ?_⟩
  unfold runB at p
  cases c : decide (ds.length = n) with
  | false => rw [c] at p; exact p.elim
  | true =>
    rw [c] at p
    rw [hN]
    cases q : b (ds.map some ++ List.replicate (len - n) none) st0 with
    | nx ρ' st' =>
      rw [q] at p
      intro φ' H' σ' x' s'
      cases fr with
      | true => exact endOk_post so x' s'.s .non p
      | false => exact p φ' H' x' s'.s _ .non
    | rt d st' =>
      rw [q] at p
      intro φ' H' v x' s' r
      cases fr with
      | true => exact endOk_post so x' s' r p
      | false => exact p φ' H' x' s' _ r
    | exc c ρ' st' =>
      rw [q] at p
      intro φ' H' σ' x' s'
      cases fr with
      | true => exact endEx_post (σ := []) so x' s'.s p
      | false => exact p φ' H' x' s'.s
    | bk _ _ => rw [q] at p; exact p.elim
    | ct _ _ => rw [q] at p; exact p.elim
    | bad => rw [q] at p; exact p.elim
end
/-! ### calls -/
def noEx {α : Type} (m : M α) : M α := fun st => match m st with
  | .exc _ _ => .bad
  | r => r
theorem Post.noEx {K : PySem.W.Frag} {G : Gx} {W W' : WX} {σ σ' : St} {φ : List Addr} {H : Hp} {st : Store} {α : Type} {m : M α} {Q : α → Store → List Addr → Hp → Prop} (h : Post K G W σ φ H (noEx m st) Q) : Post K G W' σ' φ H (m st) Q := by
  unfold DL.noEx at h
  cases q : m st with
  | ok a st' => rw [q] at h; exact h
  | exc c st' => rw [q] at h; exact h.elim
  | bad => rw [q] at h; exact h.elim
def mCall (n : Nat) (m : List D → M D) (ms : Env' → M (List D)) (ρ : Env') : M D := bnd (ms ρ) fun ds => chk (decide (ds.length = n)) (m ds)
def mCall0 (m : List D → M D) (_ : Env') : M D := noEx (m [])
section
variable {X : Cx} {G : Gx} {W : WX} {k n : Nat} {f : Addr} {fd : FuncData} {ps : List Str} {m : List D → M D} {x : Str} {p pos : Pos}
theorem post_sp {σ : St} {φ : List Addr} {H : Hp} {Q : VK} {r : R D} (h : Post X.K G W σ φ H r fun d _ φ' H' => ∀ v, Rp X.K G φ' H' d v → Q v H') : Post X.K G (WofE (WE W σ)) [] φ H r fun d _ φ' H' => ∀ v, Rp X.K G φ' H' d v → Q v H' := by
  cases r with
  | ok d st => exact h
  | exc c st => exact h
  | bad => exact h
theorem me_call {e : Expr} {es : List Expr} {ms : Env' → M (List D)} (F : FnOk X.prog X.w X.K X.mg X.base (L2N.CX X.prog X.w) k f fd ps (spM X.K G n m)) (hr : Room k X.A) (hm : X.mg x = some (.ref f)) (hk : PySem.W.keepIn X.K (.ref f) = true) (hb : L2.Binds X.K fd ps [])
    (tk : L2N.Takes X W) (ha : MA X G W (e :: es) ms) (hg : Gl X x := by rfl) (hdb : (x == ("__debug__" : Str)) = false := by decide) (he : starEach (e :: es) X.env = (false, eval e X.env) :: starEach es X.env := by rfl)
    (hpl : (backTo pos (starEach es X.env)).any (·.1) = false := by rfl) : ME X G W (.Call (.Name x p) (e :: es) [] pos) (mCall n m ms) := by
  refine peImp (pe_callSD (dvs := []) (ds := []) (E := WE W) F hr hg hm hk hb .nil (fun σ => L2N.passAt tk σ) ha hdb he hpl) fun σ H Q ⟨φ, ρ, st, so, p⟩ => ?_
  refine tML_of so (Post.bind p) fun ds st1 φ1 H1 vs x1 so1 r1 p1 => ?_
  obtain ⟨c, p2⟩ := Post.chk p1
  rw [List.append_nil]
  exact ⟨φ1, ds, st1, by rw [← r1.length]; exact of_decide_eq_true c, so1.s, r1, post_sp p2⟩
theorem passN {X : Cx} : Passes (L2N.CX X.prog X.w) X E0 := fun _ _ _ _ _ _ _ h => by
  obtain ⟨_, _, _, _, _, _, _, _, _, _, _, _, z⟩ := h
  exact z.elim
theorem takesN {X : Cx} : L2N.Takes X (fun _ _ _ _ => False) := fun _ _ x => by
  obtain ⟨_, _, _, _, _, _, _, _, _, _, _, _, _, _, _, _, z⟩ := x
  exact z.elim
theorem me_call0 (F : FnOk X.prog X.w X.K X.mg X.base (L2N.CX X.prog X.w) k f fd ps (spM X.K G 0 m)) (hr : Room k X.A) (hm : X.mg x = some (.ref f)) (hk : PySem.W.keepIn X.K (.ref f) = true) (hb : L2.Binds X.K fd ps [])
    (hg : Gl X x := by rfl) (hdb : (x == ("__debug__" : Str)) = false := by decide) : ME X G W (.Call (.Name x p) [] [] pos) (mCall0 m) := by
  refine peImp (pe_call0 (dvs := []) (ds := []) F hr hg hm hk hb .nil passN hdb) fun σ H Q ⟨φ, ρ, st, so, p⟩ => ?_
  exact ⟨φ, [], st, rfl, so.s, .nil, Post.noEx p⟩
/-! ### comprehensions -/
/-- a comprehension's target: a name, or names -/
inductive CT where
  | nm (i : Nat) | tp (is : List Nat)
def gIs : List Nat → TGs
  | [] => gNil
  | i :: r => gCons (gName i) (gIs r)
def CT.tg (K : PySem.W.Frag) : CT → TG
  | .nm i => gName i
  | .tp is => gTup K is.length (gIs is)
def CT.gm : CT → GM
  | .nm i => gNm i
  | .tp is => gTp (is.map gNm)
def CT.all (own : List Nat) : CT → Bool
  | .nm i => decide (i ∈ own)
  | .tp is => is.all fun i => decide (i ∈ own)
theorem wipe_at {σ : St} : ∀ {vs : List Nat} {i : Nat}, (wipe σ vs)[i]? = if i ∈ vs then (if i < σ.length then some none else none) else σ[i]?
  | [], i => by simp [wipe]
  | v :: vs, i => by
    unfold wipe
    by_cases h : v = i
    · subst h
      by_cases hl : v < σ.length
      · rw [List.getElem?_set_self (by rw [wipe_length]; exact hl)]
        simp [hl]
      · rw [List.getElem?_eq_none (by rw [List.length_set, wipe_length]; omega)]
        simp [hl]
    · rw [List.getElem?_set_ne h, wipe_at]
      simp [Ne.symm h]
theorem wipe_set {σ : St} {vs : List Nat} {i : Nat} {x : Option V} (h : i ∈ vs) : wipe (σ.set i x) vs = wipe σ vs := by
  refine List.ext_getElem? fun j => ?_
  rw [wipe_at, wipe_at, List.length_set]
  by_cases hj : j ∈ vs
  · simp [hj]
  · rw [if_neg hj, if_neg hj, List.getElem?_set_ne (fun e => hj (by rw [← e]; exact h))]
def wipeE (ρ : Env') : List Nat → Env'
  | [] => ρ
  | v :: vs => (wipeE ρ vs).set v none
theorem EnvOk.wipe {K : PySem.W.Frag} {φ : List Addr} {H : Hp} {σ : St} {ρ : Env'} (e : EnvOk K G φ H σ ρ) : ∀ vs : List Nat, EnvOk K G φ H (L2.wipe σ vs) (wipeE ρ vs)
  | [] => e
  | v :: vs => (e.wipe vs).forget v
theorem gIs_of {K : PySem.W.Frag} {φ : List Addr} {H : Hp} {own : List Nat} {Q : St → Hp → Prop} : ∀ (is : List Nat) (ds : List D) (vs : List V) (σ : St) (ρ : Env') (st : Store) (R : Env' → Store → Prop), (is.all fun i => decide (i ∈ own)) = true → EnvOk K G φ H σ ρ → RpL K G φ H ds vs →
    (match gL (is.map gNm) ds ρ st with
      | .ok ρ' st' => st' = st → ∀ σ', EnvOk K G φ H σ' ρ' → L2.wipe σ' own = L2.wipe σ own → Q σ' H
      | _ => False) → gIs is vs σ H Q ∧ is.length = vs.length
  | [], [], _, σ, ρ, st, _, _, e, .nil, h => ⟨⟨rfl, h rfl σ e rfl⟩, rfl⟩
  | [], _ :: _, _, _, _, _, _, _, _, _, h => h.elim
  | _ :: _, [], _, _, _, _, _, _, _, _, h => h.elim
  | i :: is, d :: ds, _, σ, ρ, st, R, hall, e, .cons (v := v) (vs := vs) r rr, h => by
    obtain ⟨h1, h2⟩ := Bool.and_eq_true_iff.mp (show (decide (i ∈ own) && is.all fun i => decide (i ∈ own)) = true from hall)
    have hi : i ∈ own := of_decide_eq_true h1
    have := gIs_of (Q := Q) is ds vs (σ.set i (some v)) (ρ.set i (some d)) st R h2 (e.set r) rr (by
      have h3 : (match gL (is.map gNm) ds (ρ.set i (some d)) st with
        | .ok ρ' st' => st' = st → ∀ σ', EnvOk K G φ H σ' ρ' → L2.wipe σ' own = L2.wipe σ own → Q σ' H
        | _ => False) := h
      cases q : gL (is.map gNm) ds (ρ.set i (some d)) st with
      | ok ρ' st' =>
        rw [q] at h3
        intro e1 σ' e2 e3
        exact h3 e1 σ' e2 (e3.trans (wipe_set hi))
      | exc _ _ => rw [q] at h3; exact h3
      | bad => rw [q] at h3; exact h3)
    exact ⟨⟨v, vs, rfl, this.1⟩, by rw [List.length_cons, List.length_cons, this.2]⟩
theorem gL_st : ∀ (is : List Nat) (ds : List D) (ρ : Env') (st : Store), match gL (is.map gNm) ds ρ st with
    | .ok _ st' => st' = st
    | _ => True
  | [], [], _, _ => rfl
  | [], _ :: _, _, _ => trivial
  | _ :: _, [], _, _ => trivial
  | i :: is, d :: ds, ρ, st => gL_st is ds (ρ.set i (some d)) st
theorem ct_of {K : PySem.W.Frag} {φ : List Addr} {H : Hp} {own : List Nat} {Q : St → Hp → Prop} {c : CT} {d : D} {v : V} {σ : St} {ρ : Env'} {st : Store} (hall : c.all own = true) (e : EnvOk K G φ H σ ρ) (r : Rp K G φ H d v)
    (h : match c.gm d ρ st with
      | .ok ρ' st' => st' = st → ∀ σ', EnvOk K G φ H σ' ρ' → L2.wipe σ' own = L2.wipe σ own → Q σ' H
      | _ => False) : c.tg K v σ H Q := by
  cases c with
  | nm i => exact h rfl _ (e.set r) (wipe_set (of_decide_eq_true hall))
  | tp is =>
    cases r with
    | tup hs rl =>
      have := gIs_of (Q := Q) is _ _ σ ρ st (fun _ _ => True) hall e rl h
      exact ⟨_, _, rfl, hs, this.2.symm, this.1⟩
    | _ => exact h.elim
theorem ct_st {c : CT} {d : D} {ρ ρ' : Env'} {st st' : Store} (h : c.gm d ρ st = .ok ρ' st') : st' = st := by
  cases c with
  | nm i => cases h; rfl
  | tp is =>
    cases d with
    | tup xs =>
      have := gL_st is xs ρ st
      have h' : gL (is.map gNm) xs ρ st = .ok ρ' st' := h
      rw [h'] at this
      exact this
    | _ => cases h
theorem gL_ne : ∀ (is : List Nat) (ds : List D) (ρ : Env') (st st' : Store) (k : Nat), gL (is.map gNm) ds ρ st ≠ .exc k st'
  | [], [], _, _, _, _ => fun h => by cases h
  | [], _ :: _, _, _, _, _ => fun h => by cases h
  | _ :: _, [], _, _, _, _ => fun h => by cases h
  | i :: is, d :: ds, ρ, st, st', k => fun h => gL_ne is ds (ρ.set i (some d)) st st' k h
theorem ct_ne {c : CT} {d : D} {ρ : Env'} {st st' : Store} {k : Nat} (h : c.gm d ρ st = .exc k st') : False := by
  cases c with
  | nm i => cases h
  | tp is =>
    cases d with
    | tup xs => exact gL_ne is xs ρ st st' k h
    | _ => cases h
abbrev W0 : WX := fun _ _ _ _ => False
theorem postNow {K : PySem.W.Frag} {α : Type} {a : α} {φ : List Addr} {H : Hp} {st : Store} {σ : St} {Q : α → Store → List Addr → Hp → Prop} (s : StOk K G φ H st) (h : Post K G W σ φ H (ret a st) Q) : Q a st φ H := h φ H (Ext.refl _ _) s
theorem Post.imp' {K : PySem.W.Frag} {α : Type} {φ : List Addr} {H : Hp} {σ σ' : St} {r : R α} {Q Q' : α → Store → List Addr → Hp → Prop} (h : Post K G W0 σ φ H r Q) (q : ∀ a st φ' H', Ext φ H φ' H' → StOk K G φ' H' st → Q a st φ' H' → Q' a st φ' H') : Post K G W0 σ' φ H r Q' := by
  cases r with
  | ok a st' => exact fun φ2 H2 x2 s => q _ _ _ _ x2 s (h φ2 H2 x2 s)
  | exc c st' => exact h
  | bad => exact h
theorem Post.bind' {K : PySem.W.Frag} {α β : Type} {φ : List Addr} {H : Hp} {σ : St} {st : Store} {m : M α} {f : α → M β} {Q : β → Store → List Addr → Hp → Prop} (h : Post K G W σ φ H (bnd m f st) Q) :
    Post K G W σ φ H (m st) fun a st1 _ _ => Post K G W σ φ H (f a st1) Q := by
  unfold bnd at h
  cases e : m st with
  | ok a st' =>
    rw [e] at h
    exact fun φ2 H2 x2 s => h
  | exc c st' =>
    rw [e] at h
    exact h
  | bad =>
    rw [e] at h
    exact h
/-- a list in the making more -/
theorem Post.fxr {K : PySem.W.Frag} {α : Type} {φ : List Addr} {H : Hp} {σ : St} {r : R α} {a : Addr} {Q : α → Store → List Addr → Hp → Prop} (h : Post K G W0 σ φ H r Q) : Post K (G.plus a) W0 σ φ H r Q := by
  cases r with
  | ok a st' => exact fun φ2 H2 x2 s => h φ2 H2 x2 s.minus
  | exc c st' => exact fun φ2 H2 x2 s => h φ2 H2 x2 s.minus
  | bad => exact h
def cmpL (ck : Store → Bool) (g : GM) (tt : Env' → M Bool) (e : Env' → M D) (ρ : Env') : List D → M (List D)
  | [] => fun st => (match ck st with
    | true => .ok [] st
    | false => .bad)
  | x :: xs => fun st => (match ck st with
    | true => bnd (g x ρ) (fun ρ1 => bnd (tt ρ1) fun b => match b with
      | true => bnd (e ρ1) fun y => bnd (cmpL ck g tt e ρ xs) fun ys => ret (y :: ys)
      | false => cmpL ck g tt e ρ xs) st
    | false => .bad)
def mComp (own : List Nat) (c : CT) (mi : Env' → M Itm) (tt : Env' → M Bool) (e : Env' → M D) (ρ : Env') : M D := bnd (mi ρ) fun it => chk (decide (it.xs.length ≤ LIM)) (bnd (noEx (cmpL it.ck c.gm tt e (wipeE ρ own) it.xs)) fun ys => ret (.lst ys))
def yes (_ : Env') : M Bool := ret true
def tMx (K : PySem.W.Frag) (G : Gx) (m : Env' → M D) : TE := fun σ H Q => ∃ fx, tM K (G.fl fx) W0 m σ H Q
def tMBx (K : PySem.W.Frag) (G : Gx) (m : Env' → M Bool) : TT := fun σ H Q => ∃ fx, tMB K (G.fl fx) W0 m σ H Q
theorem pe_fx {X : Cx} {e : Expr} {m : Env' → M D} (h : ∀ fx, ME X (G.fl fx) W0 e m) : PE X e (tMx X.K G m) := ⟨fun pins s σ H Q I ⟨fx, q⟩ => (h fx).run pins s σ H Q I q⟩
theorem pt_fx {X : Cx} {e : Expr} {m : Env' → M Bool} (h : ∀ fx, MT X (G.fl fx) W0 e m) : PT X e (tMBx X.K G m) := ⟨fun pins s σ H Q I ⟨fx, q⟩ => (h fx).run pins s σ H Q I q⟩
theorem mts_nil {X : Cx} : PTs X [] (tMBx X.K G yes) := ⟨fun pins s σ H Q I ⟨fx, φ, ρ, st, so, p⟩ => wpAny_tests_nil ⟨H, I, p φ H (Ext.refl _ _) so.s⟩⟩
theorem mts_one {X : Cx} {c : Expr} {m : Env' → M Bool} (h : ∀ fx, MT X (G.fl fx) W0 c m) : PTs X [c] (tMBx X.K G m) := pts_one (pt_fx h)
/-- the walk of a comprehension by its mirror -/
theorem comp_of {K : PySem.W.Frag} {J : It} {it : Itm} {c : CT} {own : List Nat} {tt : Env' → M Bool} {e : Env' → M D} {φ1 : List Addr} {H1 : Hp} {σ : St} {ρ : Env'} {st1 : Store} {Q : VK} (hall : c.all own = true) (hJ2 : ∀ fx, (∀ a ∈ fx, a ∈ G.fx ∨ H1 a = none) → ItD K (G.fl fx) φ1 H1 J it) (so : SOk K G φ1 H1 σ ρ st1) (hlen : decide (it.xs.length ≤ LIM) = true)
    (p : Post K G W σ φ1 H1 (bnd (noEx (cmpL it.ck c.gm tt e (wipeE ρ own) it.xs)) (fun ys => ret (D.lst ys)) st1) fun d _ φ' H' => ∀ v, Rp K G φ' H' d v → Q v H') :
    ∀ Da, H1 Da = none → ∃ Wk : Nat → Nat → Hp → Prop, (∃ m, Wk 0 m (upd H1 Da (.lst []))) ∧ ∀ i m H, Wk i m H →
      (J.stop i H ∧ Q (.ref Da) H) ∨ (J.go i H ∧ ∃ Nx : Hp → Prop, (∀ H', Nx H' → ∃ m', m' < m ∧ Wk (i + 1) m' H') ∧ ∀ x H', J.yld i H x H' → c.tg K x (L2.wipe σ own) H' fun σ2 H2 => L2.wipe σ2 own = L2.wipe σ own ∧ (tMBx K G tt) σ2 H2 fun b H3 =>
        if b = true then (tMx K G e) σ2 H3 fun y H4 => ∃ acc, H4 Da = some (.lst acc) ∧ acc.length < sizeLine ∧ Nx (upd H4 Da (.lst (acc ++ [y]))) else Nx H3) := by
  intro Da hDa
  have hJ : ItD K G φ1 H1 J it := hJ2 G.fx fun a h => .inl h
  have p0 := Post.noEx (W' := W0) (σ' := []) (Post.bind p)
  have nDa : Da ∉ φ1 := so.s.fresh hDa
  have nfx : Da ∉ G.fx := so.s.nofx hDa
  -- what holds at turn i: the list at Da bears acc; the rest is as the mirror says
  let PV : Nat → Hp → Prop := fun i H => ∃ φ st acc vs, i ≤ it.xs.length ∧ Ext φ1 H1 φ H ∧ StOk K (G.plus Da) φ H st ∧ EnvOk K (G.plus Da) φ H (L2.wipe σ own) (wipeE ρ own) ∧ H Da = some (.lst vs) ∧ RpL K (G.plus Da) φ H acc vs ∧ acc.length ≤ i ∧
    Post K G W0 [] φ1 H1 (cmpL it.ck c.gm tt e (wipeE ρ own) (it.xs.drop i) st) fun ys _ φ' H' => ∀ v, Rp K G φ' H' (.lst (acc ++ ys)) v → Q v H'
  refine ⟨fun i m H => m = it.xs.length - i ∧ PV i H, ⟨it.xs.length, by simp, φ1, st1, [], [], Nat.zero_le _, Ext.new hDa, so.s.plus hDa, ⟨(so.e.wipe own).len, fun i d h => ?_⟩, upd_same, .nil, Nat.le_refl _, ?_⟩, ?_⟩
  · obtain ⟨v, h1, h2⟩ := (so.e.wipe own).get i d h
    exact ⟨v, h1, (h2.plus hDa).mono (Ext.new hDa)⟩
  · refine p0.imp fun ys st' φ' H' x' s' q v r => ?_
    exact postNow (W := W) (σ := σ) s' q v r
  · rintro i m H ⟨rfl, φ, st, acc, vs, hi, x, s, ev, hd, ra, hacc, p⟩
    have nd : Da ∉ φ := s.fd Da List.mem_cons_self
    by_cases hlt : i < it.xs.length
    · right
      have ed : it.xs.drop i = it.xs[i] :: it.xs.drop (i + 1) := List.drop_eq_getElem_cons hlt
      rw [ed] at p
      unfold cmpL at p
      cases ck : it.ck st with
      | false => rw [ck] at p; exact p.elim
      | true =>
        rw [ck] at p
        obtain ⟨hgo, hy⟩ := (hJ2 (Da :: G.fx) fun a h => (List.mem_cons.mp h).elim (fun e => .inr (by rw [e]; exact hDa)) .inl).go φ H st i it.xs[i] x s ck (List.getElem?_eq_getElem hlt)
        refine ⟨hgo, PV (i + 1), fun H' q => ⟨it.xs.length - (i + 1), by omega, rfl, q⟩, fun y H' hyl => ?_⟩
        obtain ⟨k, r⟩ := hy y H' hyl
        have xk : Ext φ H φ H' := Ext.of_same k
        refine ct_of (st := st) hall (ev.mono xk) r ?_
        have p1 := Post.bind' p
        cases q : c.gm it.xs[i] (wipeE ρ own) st with
        | exc _ _ => rw [q] at p1; exact (ct_ne q).elim
        | bad => rw [q] at p1; exact p1.elim
        | ok ρ1 st2 =>
          rw [q] at p1
          have est := ct_st q
          subst est
          intro _ σ1 e1 hw
          refine ⟨hw.trans (by
            refine List.ext_getElem? fun j => ?_
            rw [wipe_at, wipe_length, wipe_at]
            by_cases hj : j ∈ own <;> simp [hj]), Da :: G.fx, φ, ρ1, st2, ⟨s.same k, e1⟩, ?_⟩
          have p2 := Post.bind' (p1 φ H' (x.trans xk) (s.same k).minus)
          refine (Post.fxr (Post.ext (x.trans xk) p2)).imp' fun b st3 φ3 H3 x3 s3 p3 => ?_
          have x13 : Ext φ1 H1 φ3 H3 := (x.trans xk).trans x3
          have hd3 : H3 Da = some (.lst vs) := x3.keep _ _ (k _ _ hd) nd fun ps z => by cases z
          have ra3 : RpL K (G.plus Da) φ3 H3 acc vs := (ra.mono xk).mono x3
          cases b with
          | false =>
            exact iteF ⟨φ3, st3, acc, vs, hlt, x13, s3, (ev.mono xk).mono x3, hd3, ra3, by omega, p3⟩
          | true =>
            refine iteT ⟨Da :: G.fx, φ3, ρ1, st3, ⟨s3, e1.mono x3⟩, ?_⟩
            refine (Post.fxr (Post.ext x13 (Post.bind' p3))).imp' fun dy st4 φ4 H4 x4 s4 p4 vy ry => ?_
            have nd3 : Da ∉ φ3 := s3.fd Da List.mem_cons_self
            have nd4 : Da ∉ φ4 := s4.fd Da List.mem_cons_self
            have hd4 : H4 Da = some (.lst vs) := x4.keep _ _ hd3 nd3 fun ps z => by cases z
            have ra4 := ra3.mono x4
            have hl : vs.length ≤ i := by rw [← ra.length]; exact hacc
            have hlim : it.xs.length ≤ sizeLine := lim_line hlen
            refine ⟨vs, hd4, by omega, ?_⟩
            -- the list at Da grows: all else stands
            have xgen : ∀ {φz : List Addr} {Hz : Hp}, Hz Da = none → Ext φz Hz φ4 H4 → Ext φz Hz φ4 (upd H4 Da (.lst (vs ++ [vy]))) := fun {φz Hz} hz x14 => by
              refine ⟨x14.pre, fun a o h n z => ?_, fun a xs h => ?_, fun a o u h => ?_, fun a h => ?_⟩
              · rw [upd_ne (ne_of_none h hz)]; exact x14.keep a o h n z
              · rw [upd_ne (ne_of_none h hz)]; exact x14.tups a xs h
              · rw [upd_ne (ne_of_none h hz)]; exact x14.frzs a o u h
              · by_cases ha : a = Da
                · subst ha; exact absurd hz h
                · rw [upd_ne ha]; exact x14.there a h
            have x14 := x13.trans x4
            have xg := xgen hDa x14
            have hm : Da ∈ (G.plus Da).fx := List.mem_cons_self
            have hanc : Ext G.φ0 G.H0 φ4 (upd H4 Da (.lst (vs ++ [vy]))) := so.s.anc.trans xg
            refine ⟨φ4, st4, acc ++ [dy], vs ++ [vy], hlt, xg, s4.flux hd4 hm nd4 hanc, ⟨(so.e.wipe own).len, fun j d h => ?_⟩, upd_same, (ra4.snoc ry).flux hd4 hm, by rw [List.length_append]; show acc.length + 1 ≤ i + 1; omega, ?_⟩
            · obtain ⟨v, h1, h2⟩ := ev.get j d h
              exact ⟨v, h1, Rp.flux hd4 hm ((((h2.mono xk).mono x3)).mono x4)⟩
            · refine (Post.bind' p4).imp fun ys st5 φ5 H5 x5 s5 q5 v r => ?_
              refine postNow (W := W0) (σ := []) s5 (Post.ext x5 q5) v ?_
              rw [List.append_assoc] at r
              exact r
    · left
      have ei : i = it.xs.length := by omega
      subst ei
      rw [List.drop_length] at p
      unfold cmpL at p
      cases ck : it.ck st with
      | false => rw [ck] at p; exact p.elim
      | true =>
        rw [ck] at p
        refine ⟨hJ.stop φ H st x s.minus ck, p φ H x s.minus (.ref Da) ?_⟩
        rw [List.append_nil]
        exact .lst hd nd nfx ra.minus

section
variable {elt tg iter : Expr} {ifs : List Expr} {scope : Scope} {own : List (Str × Nat)} {c : CT} {mi : Env' → M Itm} {tt : Env' → M Bool} {e : Env' → M D}
theorem me_comp (hc : X.calm = true) (hN : X.N.Nodup) (hi : MI X G W tg iter mi) (ok : BlkOk X.N X.env.scope scope own) (hall : c.all (own.map (·.2)) = true)
    (hg : ∀ (s : Shared) (H : Hp) (C : Addr) (cl : List (Str × Addr)) (fp : List Addr), PG (X.blk s H scope (compEnvC scope cl C X.env) fp) tg (c.tg X.K))
    (ht : ∀ (s : Shared) (H : Hp) (C : Addr) (cl : List (Str × Addr)) (fp : List Addr), PTs (X.blk s H scope (compEnvC scope cl C X.env) fp) ifs (tMBx X.K G tt))
    (he : ∀ (fx : List Addr) (s : Shared) (H : Hp) (C : Addr) (cl : List (Str × Addr)) (fp : List Addr), ME (X.blk s H scope (compEnvC scope cl C X.env) fp) (G.fl fx) W0 elt e) (hs : ∀ x, foldedSetIterable iter X.env x = pure x := by intro _; rfl) :
    ME X G W (.ListComp elt [⟨tg, iter, ifs, 0⟩] scope pos) (mComp (own.map (·.2)) c mi tt e) := by
  refine peImp (pe_lc (own := own) (te := tMx X.K G e) hc hN hi ok hg ht (fun s H C cl fp => pe_fx fun fx => he fx s H C cl fp) hs) fun σ H Q ⟨φ, ρ, st, so, p⟩ => ?_
  refine ⟨φ, ρ, st, so, (Post.bind p).imp fun it st1 φ1 H1 x1 s1 p1 J hJ => ?_⟩
  obtain ⟨hl, p2⟩ := Post.chk p1
  exact comp_of hall hJ ⟨s1, so.e.mono x1⟩ hl p2
theorem st_setLc {i : Nat} {y : Str} {py spos : Pos} (hc : X.calm = true) (hN : X.N.Nodup) (hy : X.N[i]? = some y) (hyl : X.env.scope.names.lookup y = some .local)
    (hsw : swapsWith (.ListComp elt [⟨tg, iter, ifs, 0⟩] scope pos) (some (.Name y py)) spos.line X.env = pure true) (hi : MI X G W tg iter mi) (ok : BlkOk X.N X.env.scope scope own) (hall : c.all (own.map (·.2)) = true)
    (hg : ∀ (s : Shared) (H : Hp) (C : Addr) (cl : List (Str × Addr)) (fp : List Addr), PG (X.blk s H scope (compEnvC scope cl C X.env) fp) tg (c.tg X.K))
    (ht : ∀ (s : Shared) (H : Hp) (C : Addr) (cl : List (Str × Addr)) (fp : List Addr), PTs (X.blk s H scope (compEnvC scope cl C X.env) fp) ifs (tMBx X.K G tt))
    (he : ∀ (fx : List Addr) (s : Shared) (H : Hp) (C : Addr) (cl : List (Str × Addr)) (fp : List Addr), ME (X.blk s H scope (compEnvC scope cl C X.env) fp) (G.fl fx) W0 elt e) (hs : ∀ x, foldedSetIterable iter X.env x = pure x := by intro _; rfl) :
    ST X G W (.Assign [.Name y py] (.ListComp elt [⟨tg, iter, ifs, 0⟩] scope pos) spos) (sAsg (mComp (own.map (·.2)) c mi tt e) (gNm i)) := by
  refine psImp (ps_setLc (own := own) (te := tMx X.K G e) hc hN hy hyl hsw hi ok hg ht (fun s H C cl fp => pe_fx fun fx => he fx s H C cl fp) hs) fun De σ H ⟨φ, ρ, st, so, p⟩ => ?_
  have p0 := PostS.sb so.e p
  refine ⟨φ, ρ, st, so, (Post.bind p0).imp fun it st1 φ1 H1 x1 s1 p1 J hJ => ?_⟩
  obtain ⟨hl, p2⟩ := Post.chk p1
  refine comp_of (W := W) (Q := fun x H1 => gName i x σ H1 De.nx) hall hJ ⟨s1, so.e.mono x1⟩ hl (p2.imp fun d st2 φ2 H2 x2 s2 p3 v r => ?_)
  exact p3 φ2 H2 _ (Ext.refl _ _) ⟨s2, ((so.e.mono x1).mono x2).set r⟩
end
end
end DL

namespace DL
open PySem PySem.Spec PyProof.Rows L2
/-! ### arithmetic -/
def mulOk (i j : Int) : Bool := decide (i.natAbs < 2 ^ 64) || decide (j.natAbs < 2 ^ 64) || decide (i.natAbs.log2 + j.natAbs.log2 < 1000000)
def lLst : D → M (List D)
  | .lst xs => ret xs
  | .cel n => fun st => (match st[n]? with
    | some (.lst xs) => .ok xs st
    | _ => .bad)
  | _ => fail
def dCat (x y : D) : M D := bnd (lLst x) fun xs => bnd (lLst y) fun ys => chk (decide (xs.length + ys.length ≤ LIM)) (ret (.lst (xs ++ ys)))
def dAdd (x y : D) : M D := match x with
  | .int i => (match y with
    | .int j => ret (.int (i + j))
    | _ => fail)
  | .str s => (match y with
    | .str t => chk (decide (s.length + t.length ≤ LIM)) (ret (.str (s ++ t)))
    | _ => fail)
  | .tup xs => (match y with
    | .tup ys => chk (decide (xs.length + ys.length ≤ LIM)) (ret (.tup (xs ++ ys)))
    | _ => fail)
  | .lst xs => dCat (.lst xs) y
  | .cel n => dCat (.cel n) y
  | _ => fail
def i2 (f : Int → Int → M D) (x y : D) : M D := match x with
  | .int i => (match y with
    | .int j => f i j
    | _ => fail)
  | _ => fail
def dSub : D → D → M D := i2 fun i j => ret (.int (i - j))
def dMulI : D → D → M D := i2 fun i j => chk (mulOk i j) (ret (.int (i * j)))
def repOk (n : Nat) (k : Int) : Bool := decide (n * k.toNat ≤ LIM) && decide (k < 2 ^ 63) && decide (-(2 ^ 63) ≤ k)
def dMul (x y : D) : M D := match x with
  | .int i => dMulI (.int i) y
  | .lst xs => (match y with
    | .int k => chk (repOk xs.length k) (ret (.lst (List.replicate k.toNat xs).flatten))
    | _ => fail)
  | _ => fail
/-- a list times a number, a list that will change -/
def dRepC (x y : D) : M D := match x with
  | .lst xs => (match y with
    | .int k => chk (repOk xs.length k) (newCell (.lst (List.replicate k.toNat xs).flatten))
    | _ => fail)
  | _ => fail
def dMod : D → D → M D := i2 fun i j => chk (decide (0 < j)) (ret (.int (i % j)))
def dFdiv : D → D → M D := i2 fun i j => chk (decide (0 < j) && decide (j.natAbs.log2 < 9000)) (ret (.int (i / j)))
def powOk (i j : Int) : Bool := decide (0 ≤ j) && decide (j ≤ 1000000) && decide (i.natAbs < 2 ^ 64)
def dPow : D → D → M D := i2 fun i j => chk (powOk i j) (ret (.int (i ^ j.toNat)))
def dShl : D → D → M D := i2 fun i j => chk (powOk i j) (ret (.int (i * 2 ^ j.toNat)))
def dShr : D → D → M D := i2 fun i j => chk (decide (0 ≤ j)) (ret (.int (i / 2 ^ j.toNat)))
def dLt : D → D → M D := i2 fun i j => ret (.bl (decide (i < j)))
def dLe : D → D → M D := i2 fun i j => ret (.bl (decide (i ≤ j)))
def dGt : D → D → M D := i2 fun i j => ret (.bl (decide (j < i)))
def dGe : D → D → M D := i2 fun i j => ret (.bl (decide (j ≤ i)))
theorem ab {n : Nat} {i : Int} (h : decide (i.natAbs < n) = true) : -(n : Int) < i ∧ i < n := by
  have := of_decide_eq_true h
  omega
theorem str_app {s t : List Nat} : (⟨(s ++ t).toArray⟩ : Str) = (⟨s.toArray⟩ : Str) ++ ⟨t.toArray⟩ := by
  show (⟨(s ++ t).toArray⟩ : Str) = ⟨s.toArray ++ t.toArray⟩
  rw [List.append_toArray]
theorem str_len {s : List Nat} : (⟨s.toArray⟩ : Str).length = s.length := by simp [Str.length]
section
variable {X : Cx} {G : Gx} {W : WX} {σ : St} {φ : List Addr} {H : Hp} {st : Store}
theorem lLst_of {x : D} {v : V} {Q : List D → Store → List Addr → Hp → Prop} (s : StOk X.K G φ H st) (r : Rp X.K G φ H x v) (p : Post X.K G W σ φ H (lLst x st) Q) :
    ∃ a vs xs, v = .ref a ∧ H a = some (.lst vs) ∧ RpL X.K G φ H xs vs ∧ Q xs st φ H := by
  cases r with
  | lst hd n z rl => exact ⟨_, _, _, rfl, hd, rl, postNow (W := W) (σ := σ) s p⟩
  | @cel n a h =>
    have p' : Post X.K G W σ φ H (match st[n]? with
      | some (.lst xs) => (.ok xs st : R (List D))
      | _ => .bad) Q := p
    cases e : st[n]? with
    | none => rw [e] at p'; exact p'.elim
    | some c =>
      rw [e] at p'
      cases c with
      | lst xs =>
        obtain ⟨o, e1, e2⟩ := s.cell n _ a e h
        cases e2 with
        | lst rl => exact ⟨_, _, _, rfl, e1, rl, postNow (W := W) (σ := σ) s p'⟩
      | dct _ => exact p'.elim
      | dctL _ => exact p'.elim
      | ins _ _ => exact p'.elim
  | _ => exact p.elim
theorem opI2 {g : Int → Int → D} {gv : Int → Int → V} (hg : ∀ i j φ H, Rp X.K G φ H (g i j) (gv i j)) : OpD X G (rI0 gv) (i2 fun i j => ret (g i j)) := by
  intro φ H st dx dy x y W σ Q s rx ry p
  cases rx with
  | int => cases ry with
    | int => exact ⟨_, _, rfl, rfl, postNow (W := W) (σ := σ) s p _ (hg _ _ _ _)⟩
    | _ => exact p.elim
  | _ => exact p.elim
theorem opI2c {g : Int → Int → D} {gv : Int → Int → V} {C : Int → Int → Prop} {c : Int → Int → Bool} (hc : ∀ i j, c i j = true → C i j) (hg : ∀ i j φ H, Rp X.K G φ H (g i j) (gv i j)) : OpD X G (rI C gv) (i2 fun i j => chk (c i j) (ret (g i j))) := by
  intro φ H st dx dy x y W σ Q s rx ry p
  cases rx with
  | int => cases ry with
    | int =>
      obtain ⟨h1, h2⟩ := Post.chk p
      exact ⟨_, _, rfl, rfl, hc _ _ h1, postNow (W := W) (σ := σ) s h2 _ (hg _ _ _ _)⟩
    | _ => exact p.elim
  | _ => exact p.elim
theorem od_sub : OpD X G (rI0 fun i j => .int (i - j)) dSub := opI2 fun _ _ _ _ => .int
theorem od_lt : OpD X G (rI0 fun i j => .bl (decide (i < j))) dLt := opI2 fun _ _ _ _ => .bl
theorem od_le : OpD X G (rI0 fun i j => .bl (decide (i ≤ j))) dLe := opI2 fun _ _ _ _ => .bl
theorem od_gt : OpD X G (rI0 fun i j => .bl (decide (j < i))) dGt := opI2 fun _ _ _ _ => .bl
theorem od_ge : OpD X G (rI0 fun i j => .bl (decide (j ≤ i))) dGe := opI2 fun _ _ _ _ => .bl
theorem od_mod : OpD X G (rI (fun _ j => 0 < j) fun i j => .int (i % j)) dMod := opI2c (fun _ _ h => of_decide_eq_true h) fun _ _ _ _ => .int
theorem od_fdiv : OpD X G (rI CDivW fun i j => .int (i / j)) dFdiv := opI2c (fun _ _ h => by
  obtain ⟨h1, h2⟩ := Bool.and_eq_true_iff.mp h
  exact ⟨of_decide_eq_true h1, of_decide_eq_true h2⟩) fun _ _ _ _ => .int
theorem powOk_c (i j : Int) (h : powOk i j = true) : CPow i j := by
  obtain ⟨h1, h2⟩ := Bool.and_eq_true_iff.mp h
  obtain ⟨h3, h4⟩ := Bool.and_eq_true_iff.mp h1
  exact ⟨of_decide_eq_true h3, of_decide_eq_true h4, of_decide_eq_true h2⟩
theorem od_pow : OpD X G (rI CPow fun i j => .int (i ^ j.toNat)) dPow := opI2c powOk_c fun _ _ _ _ => .int
theorem od_shl : OpD X G (rI CPow fun i j => .int (i * 2 ^ j.toNat)) dShl := opI2c powOk_c fun _ _ _ _ => .int
theorem od_shr : OpD X G (rI (fun _ j => 0 ≤ j) fun i j => .int (i / 2 ^ j.toNat)) dShr := opI2c (fun _ _ h => of_decide_eq_true h) fun _ _ _ _ => .int
def CMulA (i j : Int) : Prop := CMul i j ∨ CMulW i j
theorem op_mulA : OpR X (binaryOp .Mult) (rI CMulA fun i j => .int (i * j)) := opI fun _ _ _ _ _ _ _ hc q => mul_int q (hc.elim CMul.ok CMulW.ok)
theorem mulOk_c (i j : Int) (h : mulOk i j = true) : CMulA i j := by
  rcases Bool.or_eq_true_iff.mp h with h | h
  · rcases Bool.or_eq_true_iff.mp h with h | h
    · exact .inl (.inl (by have := ab h; omega))
    · exact .inl (.inr (by have := ab h; omega))
  · have h' : i.natAbs.log2 + j.natAbs.log2 < 1000000 := of_decide_eq_true h
    exact .inr h'
def rAddD (K : PySem.W.Frag) : R2 := fun x y H Q => (rI0 fun i j => .int (i + j)) x y H Q ∨ (∃ i j, x = .str i ∧ y = .str j ∧ i.length + j.length ≤ sizeLine ∧ Q (.str (i ++ j)) H) ∨ rCatA K x y H Q ∨ rCat x y H Q
theorem op_addD : OpR X (binaryOp .Add) (rAddD X.K) := OpR.or op_add (OpR.or op_add_str (OpR.or op_catA op_cat))
theorem all_app {s t : List Nat} {p : Nat → Bool} (h1 : s.all p = true) (h2 : t.all p = true) : (s ++ t).all p = true := by rw [List.all_append, h1, h2]; rfl
theorem dCat_of {dx dy : D} {x y : V} {Q : VK} (s : StOk X.K G φ H st) (rx : Rp X.K G φ H dx x) (ry : Rp X.K G φ H dy y) (p : Post X.K G W σ φ H (dCat dx dy st) fun d _ φ' H' => ∀ v, Rp X.K G φ' H' d v → Q v H') : rCat x y H Q := by
  obtain ⟨a, vs, xs, rfl, h1, r1, p1⟩ := lLst_of s rx (Post.bind p)
  obtain ⟨b, ws, ys, rfl, h2, r2, p2⟩ := lLst_of s ry (Post.bind p1)
  obtain ⟨c, p3⟩ := Post.chk p2
  refine ⟨a, b, vs, ws, rfl, rfl, h1, h2, by rw [← r1.length, ← r2.length]; exact lim_line c, fun q hq => ?_⟩
  exact Post.made (G := G) (W := W) (σ := σ) s p3 hq _ (rp_lst s hq (r1.append r2))
theorem od_add : OpD X G (rAddD X.K) dAdd := by
  intro φ H st dx dy x y W σ Q s rx ry p
  cases rx with
  | int => cases ry with
    | int => exact .inl ⟨_, _, rfl, rfl, postNow (W := W) (σ := σ) s p _ .int⟩
    | _ => exact p.elim
  | str hx => cases ry with
    | str hy =>
      obtain ⟨c, p1⟩ := Post.chk p
      refine .inr (.inl ⟨_, _, rfl, rfl, by rw [str_len, str_len]; exact lim_line c, ?_⟩)
      have := postNow (W := W) (σ := σ) s p1 _ (.str (all_app hx hy))
      rw [str_app] at this
      exact this
    | _ => exact p.elim
  | tup hx rx => cases ry with
    | tup hy ry =>
      obtain ⟨c, p1⟩ := Post.chk p
      refine .inr (.inr (.inl ⟨_, _, _, _, rfl, rfl, hx, hy, by rw [← rx.length, ← ry.length]; exact lim_line c, fun e => ?_, fun _ e => ?_, fun _ _ q hq => ?_⟩))
      · subst e
        cases rx
        exact postNow (W := W) (σ := σ) s p1 _ (.tup hy ry)
      · subst e
        cases ry
        rw [List.append_nil] at p1
        exact postNow (W := W) (σ := σ) s p1 _ (.tup hx rx)
      · exact Post.made (G := G) (W := W) (σ := σ) s p1 hq _ (rp_tup hq (rx.append ry))
    | _ => exact p.elim
  | lst a b c d => exact .inr (.inr (.inr (dCat_of s (.lst a b c d) ry p)))
  | cel h => exact .inr (.inr (.inr (dCat_of s (.cel h) ry p)))
  | _ => exact p.elim
theorem rep_rp {φ : List Addr} {H : Hp} {xs : List D} {vs : List V} (r : RpL X.K G φ H xs vs) : ∀ n : Nat, RpL X.K G φ H (List.replicate n xs).flatten (List.replicate n vs).flatten
  | 0 => .nil
  | n + 1 => by
    rw [List.replicate_succ, List.replicate_succ, List.flatten_cons, List.flatten_cons]
    exact r.append (rep_rp r n)
theorem repOk_c {n : Nat} {k : Int} (h : repOk n k = true) : n * k.toNat ≤ sizeLine ∧ k < 2 ^ 63 ∧ -(2 ^ 63) ≤ k := by
  obtain ⟨h1, h2⟩ := Bool.and_eq_true_iff.mp h
  obtain ⟨h3, h4⟩ := Bool.and_eq_true_iff.mp h1
  exact ⟨lim_line h3, of_decide_eq_true h4, of_decide_eq_true h2⟩
def rMulD : R2 := fun x y H Q => (rI CMulA fun i j => .int (i * j)) x y H Q ∨ rRep x y H Q
theorem op_mulD : OpR X (binaryOp .Mult) rMulD := OpR.or op_mulA op_rep
theorem od_mul : OpD X G rMulD dMul := by
  intro φ H st dx dy x y W σ Q s rx ry p
  cases rx with
  | int => cases ry with
    | int =>
      obtain ⟨h1, h2⟩ := Post.chk p
      exact .inl ⟨_, _, rfl, rfl, mulOk_c _ _ h1, postNow (W := W) (σ := σ) s h2 _ .int⟩
    | _ => exact p.elim
  | lst hx n z rx => cases ry with
    | int =>
      obtain ⟨h1, h2⟩ := Post.chk p
      obtain ⟨c1, c2, c3⟩ := repOk_c h1
      refine .inr ⟨_, _, _, rfl, rfl, hx, c3, c2, by rw [← rx.length]; exact c1, fun q hq => ?_⟩
      exact Post.made (G := G) (W := W) (σ := σ) s h2 hq _ (rp_lst s hq (rep_rp rx _))
    | _ => exact p.elim
  | _ => exact p.elim
theorem newCell_of {p : Addr} {o : HO} {c : Cell} {Q : D → Store → List Addr → Hp → Prop} (s : StOk X.K G φ H st) (h : Post X.K G W σ φ H (newCell c st) Q) (n : H p = none) (ho : CellOk X.K G φ H c o) :
    Q (.cel st.length) (st ++ [c]) (φ ++ [p]) (upd H p o) ∧ Rp X.K G (φ ++ [p]) (upd H p o) (.cel st.length) (.ref p) := by
  refine ⟨h (φ ++ [p]) _ (ext_cell n) (s.cellNew n ho), .cel ?_⟩
  rw [← s.len, List.getElem?_append_right (Nat.le_refl _)]
  simp
theorem od_repC : OpD X G rRep dRepC := by
  intro φ H st dx dy x y W σ Q s rx ry p
  cases rx with
  | lst hx n z rx => cases ry with
    | int =>
      obtain ⟨h1, h2⟩ := Post.chk p
      obtain ⟨c1, c2, c3⟩ := repOk_c h1
      refine ⟨_, _, _, rfl, rfl, hx, c3, c2, by rw [← rx.length]; exact c1, fun q hq => ?_⟩
      obtain ⟨q1, q2⟩ := newCell_of s h2 hq (.lst (rep_rp rx _))
      exact q1 _ q2
    | _ => exact p.elim
  | _ => exact p.elim
/-! ### the unary minus -/
def dNeg : D → M D
  | .int i => ret (.int (-i))
  | _ => fail
def m1 (f : D → M D) (m : Env' → M D) (ρ : Env') : M D := bnd (m ρ) f
theorem me_neg {a : Expr} {m : Env' → M D} {pos : Pos} (h : ME X G W a m) : ME X G W (.UnaryOp .USub a pos) (m1 dNeg m) := by
  refine peImp (pe_un un_neg h) fun σ H Q ⟨φ, ρ, st, so, p⟩ => ?_
  refine tM_of so (Post.bind p) fun d1 st1 φ1 H1 v1 x1 so1 r1 p1 => ?_
  cases r1 with
  | int => exact ⟨_, rfl, postNow (W := W) (σ := σ) so1.s p1 _ .int⟩
  | _ => exact p1.elim
/-! ### two comparisons: a < b < c -/
def mChain (o1 o2 : D → D → M D) (ma mb mc : Env' → M D) (ρ : Env') : M D := bnd (ma ρ) fun x => bnd (mb ρ) fun y => bnd (bnd (o1 x y) asB) fun k => match k with
  | true => bnd (mc ρ) fun z => o2 y z
  | false => ret (.bl false)
theorem tChain_of {r r' : R2} {o1 o2 : D → D → M D} {ma mb mc : Env' → M D} (h1 : OpD X G r o1) (h2 : OpD X G r' o2) (σ : St) (H : Hp) (Q : VK) (h : tM X.K G W (mChain o1 o2 ma mb mc) σ H Q) : tChain r r' (tM X.K G W ma) (tM X.K G W mb) (tM X.K G W mc) σ H Q := by
  obtain ⟨φ, ρ, st, so, p⟩ := h
  refine tM_of so (Post.bind p) fun d1 st1 φ1 H1 v1 x1 so1 r1 p1 => ?_
  refine tM_of so1 (Post.bind p1) fun d2 st2 φ2 H2 v2 x2 so2 r2 p2 => ?_
  refine h1 φ2 H2 st2 d1 d2 v1 v2 W σ _ so2.s (r1.mono x2) r2 ((Post.bind (Post.bind p2)).imp fun k st3 φ3 H3 x3 s3 p3 v3 r3 => ?_)
  obtain ⟨b, rfl, p4⟩ := asB_of s3 r3 p3
  refine ⟨b, rfl, ?_⟩
  cases b with
  | false => exact iteF (postNow (W := W) (σ := σ) s3 p4 _ .bl)
  | true =>
    refine iteT (tM_of ⟨s3, so2.e.mono x3⟩ (Post.bind p4) fun d5 st5 φ5 H5 v5 x5 so5 r5 p5 => ?_)
    exact h2 φ5 H5 st5 d2 d5 v2 v5 W σ Q so5.s ((r2.mono x3).mono x5) r5 p5
theorem me_chain {op op' : CmpOp} {r r' : R2} {o1 o2 : D → D → M D} {a b c : Expr} {ma mb mc : Env' → M D} {pos : Pos} (ho : OpR X (compareOp op) r) (h1 : OpD X G r o1) (ho' : OpR X (compareOp op') r') (h2 : OpD X G r' o2) (ha : ME X G W a ma) (hb : ME X G W b mb) (hc : ME X G W c mc)
    (hm : lastMarks [op, op'] [b, c] = false := by with_unfolding_all rfl) : ME X G W (.Compare a [op, op'] [b, c] pos) (mChain o1 o2 ma mb mc) :=
  peImp (pe_chain ho ho' ha hb hc hm) fun σ H Q h => tChain_of h1 h2 σ H Q h
theorem mt_chain {op op' : CmpOp} {r r' : R2} {o1 o2 : D → D → M D} {a b c : Expr} {ma mb mc : Env' → M D} {pos : Pos} (ho : OpR X (compareOp op) r) (h1 : OpD X G r o1) (ho' : OpR X (compareOp op') r') (h2 : OpD X G r' o2) (ha : ME X G W a ma) (hb : ME X G W b mb) (hc : ME X G W c mc)
    (hm : lastMarks [op, op'] [b, c] = false := by with_unfolding_all rfl) : MT X G W (.Compare a [op, op'] [b, c] pos) (mB (mChain o1 o2 ma mb mc)) :=
  ptImp (pt_chain ho ho' ha hb hc hm) fun σ H Q ⟨φ, ρ, st, so, p⟩ => by
    refine tChain_of (W := W) h1 h2 σ H _ ⟨φ, ρ, st, so, (Post.bind p).imp fun d st1 φ1 H1 x1 s1 p1 v1 r1 => ?_⟩
    exact asB_of s1 r1 p1
/-! ### equality -/
mutual
def D.eqv : D → D → Bool
  | .non, .non => true
  | .bl a, .bl b => a == b
  | .bl a, .int j => decide ((if a then 1 else 0) = j)
  | .int i, .bl b => decide (i = (if b then 1 else 0))
  | .int i, .int j => decide (i = j)
  | .str x, .str y => decide (x = y)
  | .lst xs, .lst ys => D.eqvL xs ys
  | .tup xs, .tup ys => D.eqvL xs ys
  | _, _ => false
def D.eqvL : List D → List D → Bool
  | [], [] => true
  | x :: xs, y :: ys => D.eqv x y && D.eqvL xs ys
  | _, _ => false
end
mutual
/-- plain data, at most k deep -/
def D.dp : Nat → D → Bool
  | _, .cel _ => false
  | _, .fn _ => false
  | _, .hof => false
  | _, .scr _ => false
  | 0, .tup _ => false
  | 0, .lst _ => false
  | k + 1, .tup xs => D.dpL k xs
  | k + 1, .lst xs => D.dpL k xs
  | _, _ => true
def D.dpL : Nat → List D → Bool
  | _, [] => true
  | k, x :: xs => D.dp k x && D.dpL k xs
end
mutual
def toPy : D → PyData
  | .bl b => .bool b
  | .int i => .int i
  | .str s => .str ⟨s.toArray⟩
  | .tup xs => .tuple (toPyL xs)
  | .lst xs => .list (toPyL xs)
  | _ => .none
def toPyL : List D → List PyData
  | [] => []
  | x :: xs => toPy x :: toPyL xs
end
mutual
theorem dp_of : ∀ {k : Nat} {d : D} {v : V}, D.dp k d = true → Rp X.K G φ H d v → Dp X.K H v (toPy d) ∧ (toPy d).canLay0 = true ∧ (toPy d).depth ≤ k
  | _, _, _, _, .non => ⟨.non, by simp [toPy, PyData.canLay0], by simp [toPy, PyData.depth]⟩
  | _, _, _, _, .bl => ⟨.bl _, by simp [toPy, PyData.canLay0], by simp [toPy, PyData.depth]⟩
  | _, _, _, _, .int => ⟨.int _, by simp [toPy, PyData.canLay0], by simp [toPy, PyData.depth]⟩
  | _, _, _, _, .str h => ⟨.str _, by simpa [toPy, PyData.canLay0, PyData.strOk] using h, by simp [toPy, PyData.depth]⟩
  | 0, .tup _, _, h, _ => by simp [D.dp] at h
  | 0, .lst _, _, h, _ => by simp [D.dp] at h
  | k + 1, .tup xs, _, h, .tup a r => by
    obtain ⟨h1, h2, h3⟩ := dpL_of (by simpa [D.dp] using h) r
    exact ⟨.tup a h1, by simpa [toPy, PyData.canLay0] using h2, by simpa [toPy, PyData.depth] using h3⟩
  | k + 1, .lst xs, _, h, .lst a n z r => by
    obtain ⟨h1, h2, h3⟩ := dpL_of (by simpa [D.dp] using h) r
    exact ⟨.lst (SqL.of a) h1, by simpa [toPy, PyData.canLay0] using h2, by simpa [toPy, PyData.depth] using h3⟩
  | 0, .cel _, _, h, _ | _ + 1, .cel _, _, h, _ => by simp [D.dp] at h
  | 0, .fn _, _, h, _ | _ + 1, .fn _, _, h, _ => by simp [D.dp] at h
  | 0, .hof, _, h, _ | _ + 1, .hof, _, h, _ => by simp [D.dp] at h
  | 0, .scr _, _, h, _ | _ + 1, .scr _, _, h, _ => by simp [D.dp] at h
theorem dpL_of : ∀ {k : Nat} {ds : List D} {vs : List V}, D.dpL k ds = true → RpL X.K G φ H ds vs → DpAll X.K H vs (toPyL ds) ∧ PyData.canLayAll0 (toPyL ds) = true ∧ PyData.depthAll (toPyL ds) ≤ k
  | _, [], _, _, .nil => ⟨.nil, by simp [toPyL, PyData.canLayAll0], by simp [toPyL, PyData.depthAll]⟩
  | k, d :: ds, _, h, .cons r rr => by
    obtain ⟨h1, h2⟩ := Bool.and_eq_true_iff.mp (show (D.dp k d && D.dpL k ds) = true from by simpa [D.dpL] using h)
    obtain ⟨a1, a2, a3⟩ := dp_of h1 r
    obtain ⟨b1, b2, b3⟩ := dpL_of h2 rr
    exact ⟨.cons a1 b1, by simp [toPyL, PyData.canLayAll0, a2, b2], by simp only [toPyL, PyData.depthAll]; omega⟩
end
theorem str_inj {s t : List Nat} (h : (⟨s.toArray⟩ : Str) = ⟨t.toArray⟩) : s = t := by
  have h1 : s.toArray = t.toArray := congrArg Str.cps h
  have h2 : s.toArray.toList = t.toArray.toList := by rw [h1]
  simpa using h2
theorem str_beq (s t : List Nat) : ((⟨s.toArray⟩ : Str) == ⟨t.toArray⟩) = decide (s = t) := by
  by_cases e : s = t
  · subst e
    simp
  · rw [decide_eq_false e]
    exact beq_eq_false_iff_ne.mpr fun q => e (str_inj q)
mutual
theorem eqv_py : ∀ (d e : D) (k : Nat), D.dp k d = true → D.dp k e = true → D.eqv d e = PyData.eqv (toPy d) (toPy e) := fun d e k h1 h2 => by
  cases d <;> cases e <;> cases k <;> first
    | (simp [D.dp] at h1; done)
    | (simp [D.dp] at h2; done)
    | (simp [D.eqv, toPy, PyData.eqv]; done)
    | (rename_i xs ys k; rw [show D.eqv _ _ = D.eqvL xs ys from by simp [D.eqv], eqvL_py xs ys k (by simpa [D.dp] using h1) (by simpa [D.dp] using h2)]; simp [toPy, PyData.eqv]; done)
    | (simp only [D.eqv, toPy, PyData.eqv]; exact (Bool.beq_eq_decide_eq _ _).symm)
    | (simp only [D.eqv, toPy, PyData.eqv]; exact (str_beq _ _).symm)
theorem eqvL_py : ∀ (d e : List D) (k : Nat), D.dpL k d = true → D.dpL k e = true → D.eqvL d e = PyData.eqvAll (toPyL d) (toPyL e)
  | [], [], _, _, _ => by simp [D.eqvL, toPyL, PyData.eqvAll]
  | [], _ :: _, _, _, _ => by simp [D.eqvL, toPyL, PyData.eqvAll]
  | _ :: _, [], _, _, _ => by simp [D.eqvL, toPyL, PyData.eqvAll]
  | x :: xs, y :: ys, k, h1, h2 => by
    obtain ⟨a1, a2⟩ := Bool.and_eq_true_iff.mp (show (D.dp k x && D.dpL k xs) = true from by simpa [D.dpL] using h1)
    obtain ⟨b1, b2⟩ := Bool.and_eq_true_iff.mp (show (D.dp k y && D.dpL k ys) = true from by simpa [D.dpL] using h2)
    rw [show D.eqvL (x :: xs) (y :: ys) = (D.eqv x y && D.eqvL xs ys) from by simp [D.eqvL], eqv_py x y k a1 b1, eqvL_py xs ys k a2 b2]
    simp [toPyL, PyData.eqvAll]
end
/-- a list that changes is looked at as it stands -/
def deref : D → M D
  | .cel n => fun st => (match st[n]? with
    | some (.lst xs) => .ok (.lst xs) st
    | _ => .bad)
  | d => ret d
def dEq (x y : D) : M D := bnd (deref x) fun a => bnd (deref y) fun b => chk (D.dp 60 a && D.dp 60 b) (ret (.bl (D.eqv a b)))
def dNe (x y : D) : M D := bnd (deref x) fun a => bnd (deref y) fun b => chk (D.dp 60 a && D.dp 60 b) (ret (.bl (!D.eqv a b)))
theorem deref_of {x : D} {v : V} {Q : D → Store → List Addr → Hp → Prop} (s : StOk X.K G φ H st) (r : Rp X.K G φ H x v) (p : Post X.K G W σ φ H (deref x st) Q) :
    ∃ d, Q d st φ H ∧ ∀ k, D.dp k d = true → Dp X.K H v (toPy d) ∧ (toPy d).canLay0 = true ∧ (toPy d).depth ≤ k := by
  cases r with
  | @cel n a h =>
    have p' : Post X.K G W σ φ H (match st[n]? with
      | some (.lst xs) => (.ok (.lst xs) st : R D)
      | _ => .bad) Q := p
    cases e : st[n]? with
    | none => rw [e] at p'; exact p'.elim
    | some c =>
      rw [e] at p'
      cases c with
      | lst xs =>
        obtain ⟨o, e1, e2⟩ := s.cell n _ a e h
        cases e2 with
        | lst rl =>
          refine ⟨_, postNow (W := W) (σ := σ) s p', fun k hk => ?_⟩
          cases k with
          | zero => simp [D.dp] at hk
          | succ k =>
            obtain ⟨h1, h2, h3⟩ := dpL_of (X := X) (by simpa [D.dp] using hk) rl
            exact ⟨.lst (SqL.of e1) h1, by simpa [toPy, PyData.canLay0] using h2, by simpa [toPy, PyData.depth] using h3⟩
      | dct _ => exact p'.elim
      | dctL _ => exact p'.elim
      | ins _ _ => exact p'.elim
  | non => exact ⟨_, postNow (W := W) (σ := σ) s p, fun k hk => dp_of (X := X) (G := G) (φ := φ) hk .non⟩
  | bl => exact ⟨_, postNow (W := W) (σ := σ) s p, fun k hk => dp_of (X := X) (G := G) (φ := φ) hk .bl⟩
  | int => exact ⟨_, postNow (W := W) (σ := σ) s p, fun k hk => dp_of (X := X) (G := G) (φ := φ) hk .int⟩
  | str h => exact ⟨_, postNow (W := W) (σ := σ) s p, fun k hk => dp_of (X := X) (G := G) (φ := φ) hk (.str h)⟩
  | tup a b => exact ⟨_, postNow (W := W) (σ := σ) s p, fun k hk => dp_of (X := X) (G := G) hk (.tup a b)⟩
  | lst a b c d => exact ⟨_, postNow (W := W) (σ := σ) s p, fun k hk => dp_of (X := X) (G := G) hk (.lst a b c d)⟩
  | fn h => exact ⟨_, postNow (W := W) (σ := σ) s p, fun k hk => by cases k <;> simp [D.dp] at hk⟩
  | hof h => exact ⟨_, postNow (W := W) (σ := σ) s p, fun k hk => by cases k <;> simp [D.dp] at hk⟩
  | scr a b => exact ⟨_, postNow (W := W) (σ := σ) s p, fun k hk => by cases k <;> simp [D.dp] at hk⟩
theorem shaped_of {d : PyData} (h1 : d.canLay0 = true) (h2 : d.depth ≤ 60) : SeqAt.shaped d = true := by
  unfold SeqAt.shaped
  rw [h1, Bool.true_and]
  exact decide_eq_true (by omega)
theorem od_eq : OpD X G (rEqD X.K) dEq := by
  intro φ H st dx dy x y W σ Q s rx ry p
  obtain ⟨a, p1, qa⟩ := deref_of s rx (Post.bind p)
  obtain ⟨b, p2, qb⟩ := deref_of s ry (Post.bind p1)
  obtain ⟨c, p3⟩ := Post.chk p2
  obtain ⟨c1, c2⟩ := Bool.and_eq_true_iff.mp c
  obtain ⟨a1, a2, a3⟩ := qa 60 c1
  obtain ⟨b1, b2, b3⟩ := qb 60 c2
  refine ⟨_, _, a1, b1, shaped_of a2 a3, shaped_of b2 b3, ?_⟩
  rw [← eqv_py a b 60 c1 c2]
  exact postNow (W := W) (σ := σ) s p3 _ .bl
theorem od_ne : OpD X G (rNeD X.K) dNe := by
  intro φ H st dx dy x y W σ Q s rx ry p
  obtain ⟨a, p1, qa⟩ := deref_of s rx (Post.bind p)
  obtain ⟨b, p2, qb⟩ := deref_of s ry (Post.bind p1)
  obtain ⟨c, p3⟩ := Post.chk p2
  obtain ⟨c1, c2⟩ := Bool.and_eq_true_iff.mp c
  obtain ⟨a1, a2, a3⟩ := qa 60 c1
  obtain ⟨b1, b2, b3⟩ := qb 60 c2
  refine ⟨_, _, a1, b1, shaped_of a2 a3, shaped_of b2 b3, ?_⟩
  rw [← eqv_py a b 60 c1 c2]
  exact postNow (W := W) (σ := σ) s p3 _ .bl
/-! ### is None -/
def dIsN : D → M D
  | .non => ret (.bl true)
  | _ => ret (.bl false)
def dNotN : D → M D
  | .non => ret (.bl false)
  | _ => ret (.bl true)
theorem isN_v {d : D} {v : V} (r : Rp X.K G φ H d v) : dIsN d st = .ok (.bl (decide (v = .non))) st ∧ dNotN d st = .ok (.bl (!decide (v = .non))) st := by
  cases r <;> exact ⟨rfl, rfl⟩
theorem me_isN {a : Expr} {m : Env' → M D} {j : Nat} {pos pos' : Pos} (h : ME X G W a m) : ME X G W (.Compare a [.Is] [.Constant .none j pos'] pos) (m1 dIsN m) := by
  refine peImp (pe_cmp (pc_isN h) rfl) fun σ H Q ⟨φ, ρ, st, so, p⟩ => ?_
  refine tM_of so (Post.bind p) fun d1 st1 φ1 H1 v1 x1 so1 r1 p1 => ?_
  rw [(isN_v r1).1] at p1
  exact p1 φ1 H1 (Ext.refl _ _) so1.s _ .bl
theorem me_notN {a : Expr} {m : Env' → M D} {j : Nat} {pos pos' : Pos} (h : ME X G W a m) : ME X G W (.Compare a [.IsNot] [.Constant .none j pos'] pos) (m1 dNotN m) := by
  refine peImp (pe_cmp (pc_notN h) rfl) fun σ H Q ⟨φ, ρ, st, so, p⟩ => ?_
  refine tM_of so (Post.bind p) fun d1 st1 φ1 H1 v1 x1 so1 r1 p1 => ?_
  rw [(isN_v r1).2] at p1
  exact p1 φ1 H1 (Ext.refl _ _) so1.s _ .bl
end
end DL

namespace DL
open PySem PySem.Spec PyProof.Rows L2
/-! ### in -/
def D.flat : D → Bool
  | .non => true
  | .bl _ => true
  | .int _ => true
  | .str _ => true
  | _ => false
def isIn (x : D) (xs : List D) : Bool := xs.any fun z => D.eqv z x
def dInG (neg : Bool) (x y : D) : M D := match y with
  | .tup xs => chk (D.flat x && xs.all D.flat) (ret (.bl (neg ^^ isIn x xs)))
  | .str s => (match x with
    | .str t => (match t with
      | [c] => ret (.bl (neg ^^ decide (c ∈ s)))
      | _ => fail)
    | _ => fail)
  | y => bnd (lLst y) fun xs => chk (D.dp 60 x && D.dpL 59 xs) (ret (.bl (neg ^^ isIn x xs)))
abbrev dIn : D → D → M D := dInG false
abbrev dNotIn : D → D → M D := dInG true
def rInA (K : PySem.W.Frag) (neg : Bool) : R2 := fun x y H Q => rIn K neg x y H Q ∨ (∃ (c : Nat) (z : Str), x = .str ⟨#[c]⟩ ∧ y = .str z ∧ Q (.bl (neg ^^ decide (c ∈ z.cps.toList))) H) ∨
  (∃ d ds, Dp K H x d ∧ Dp K H y (.list ds) ∧ SeqAt.shaped d = true ∧ SeqAt.shaped (.list ds) = true ∧ Q (.bl (neg ^^ ds.any fun z => PyData.eqv z d)) H)
section
variable {X : Cx} {G : Gx} {W : WX} {σ : St} {φ : List Addr} {H : Hp} {st : Store}
theorem op_inA (hu : X.A.units + 65 < cLine) : OpR X (compareOp .In) (rInA X.K false) := by
  refine OpR.or op_in_seq (OpR.or ?_ ?_)
  · intro pins s σ H x y v u Q I rx ry ⟨c, z, h1, h2, q⟩
    exact op_in_sign pins s σ H x y v u Q I rx ry ⟨c, z, h1, h2, by simpa using q⟩
  · intro pins s σ H x y v u Q I rx ry ⟨d, ds, h1, h2, h3, h4, q⟩
    exact op_inD hu pins s σ H x y v u Q I rx ry ⟨d, ds, h1, h2, h3, h4, by simpa using q⟩
theorem op_notInA (hu : X.A.units + 65 < cLine) : OpR X (compareOp .NotIn) (rInA X.K true) := by
  refine OpR.or op_notIn_seq (OpR.or ?_ ?_)
  · intro pins s σ H x y v u Q I rx ry ⟨c, z, h1, h2, q⟩
    exact op_notIn_sign pins s σ H x y v u Q I rx ry ⟨c, z, h1, h2, by simpa using q⟩
  · intro pins s σ H x y v u Q I rx ry ⟨d, ds, h1, h2, h3, h4, q⟩
    exact op_notInD hu pins s σ H x y v u Q I rx ry ⟨d, ds, h1, h2, h3, h4, by simpa using q⟩
theorem flat_v {d : D} {v : V} (h : D.flat d = true) (r : Rp X.K G φ H d v) : flatV v = true := by
  cases r <;> first | rfl | (simp [D.flat] at h)
theorem flatL_v : ∀ {ds : List D} {vs : List V}, ds.all D.flat = true → RpL X.K G φ H ds vs → vs.all flatV = true
  | [], _, _, .nil => rfl
  | d :: ds, _, h, .cons r rr => by
    obtain ⟨h1, h2⟩ := Bool.and_eq_true_iff.mp (show (D.flat d && ds.all D.flat) = true from h)
    rw [List.all_cons, flat_v h1 r, flatL_v h2 rr]
    rfl
theorem eqv_v {d e : D} {v u : V} (h : D.flat d = true) (h' : D.flat e = true) (r : Rp X.K G φ H d v) (r' : Rp X.K G φ H e u) : D.eqv d e = eqV v u := by
  cases r <;> first
    | (simp [D.flat] at h; done)
    | (cases r' <;> first
      | (simp [D.flat] at h'; done)
      | (simp [D.eqv, eqV]; done)
      | (simp only [D.eqv, eqV]; exact (Bool.beq_eq_decide_eq _ _).symm)
      | (simp only [D.eqv, eqV]; exact (str_beq _ _).symm))
theorem isIn_v {x : D} {v : V} (h : D.flat x = true) (r : Rp X.K G φ H x v) : ∀ {ds : List D} {vs : List V}, ds.all D.flat = true → RpL X.K G φ H ds vs → isIn x ds = inV v vs
  | [], _, _, .nil => rfl
  | d :: ds, _, hd, .cons (v := y) (vs := ys) r' rr => by
    obtain ⟨h1, h2⟩ := Bool.and_eq_true_iff.mp (show (D.flat d && ds.all D.flat) = true from hd)
    have ih := isIn_v h r h2 rr
    have e : isIn x (d :: ds) = (D.eqv d x || isIn x ds) := rfl
    have e2 : inV v (y :: ys) = (eqV y v || inV v ys) := rfl
    rw [e, e2, ih, eqv_v h1 h r' r]
theorem isIn_py {x : D} (k : Nat) (h : D.dp k x = true) : ∀ {ds : List D}, D.dpL k ds = true → isIn x ds = (toPyL ds).any fun z => PyData.eqv z (toPy x)
  | [], _ => by simp [isIn, toPyL]
  | d :: ds, hd => by
    obtain ⟨h1, h2⟩ := Bool.and_eq_true_iff.mp (show (D.dp k d && D.dpL k ds) = true from by simpa [D.dpL] using hd)
    have ih := isIn_py k h h2
    have e : isIn x (d :: ds) = (D.eqv d x || isIn x ds) := rfl
    rw [e, ih, eqv_py d x k h1 h]
    simp [toPyL]
mutual
theorem dp_up : ∀ {k : Nat} {d : D}, D.dp k d = true → D.dp (k + 1) d = true
  | _, .non, _ => by simp [D.dp]
  | _, .bl _, _ => by simp [D.dp]
  | _, .int _, _ => by simp [D.dp]
  | _, .str _, _ => by simp [D.dp]
  | 0, .tup _, h => by simp [D.dp] at h
  | 0, .lst _, h => by simp [D.dp] at h
  | k + 1, .tup xs, h => by
    simp only [D.dp] at h ⊢
    exact dpL_up h
  | k + 1, .lst xs, h => by
    simp only [D.dp] at h ⊢
    exact dpL_up h
  | 0, .cel _, h | _ + 1, .cel _, h => by simp [D.dp] at h
  | 0, .fn _, h | _ + 1, .fn _, h => by simp [D.dp] at h
  | 0, .hof, h | _ + 1, .hof, h => by simp [D.dp] at h
  | 0, .scr _, h | _ + 1, .scr _, h => by simp [D.dp] at h
theorem dpL_up : ∀ {k : Nat} {ds : List D}, D.dpL k ds = true → D.dpL (k + 1) ds = true
  | _, [], _ => by simp [D.dpL]
  | k, d :: ds, h => by
    obtain ⟨h1, h2⟩ := Bool.and_eq_true_iff.mp (show (D.dp k d && D.dpL k ds) = true from by simpa [D.dpL] using h)
    simp [D.dpL, dp_up h1, dpL_up h2]
end
theorem dIn_list {neg : Bool} {dx y : D} {x v : V} {Q : VK} (s : StOk X.K G φ H st) (rx : Rp X.K G φ H dx x) (ry : Rp X.K G φ H y v)
    (p : Post X.K G W σ φ H (bnd (lLst y) (fun xs => chk (D.dp 60 dx && D.dpL 59 xs) (ret (.bl (neg ^^ isIn dx xs)))) st) fun d _ φ' H' => ∀ v, Rp X.K G φ' H' d v → Q v H') : rInA X.K neg x v H Q := by
  obtain ⟨a, vs, xs, rfl, h1, r1, p1⟩ := lLst_of s ry (Post.bind p)
  obtain ⟨c, p2⟩ := Post.chk p1
  obtain ⟨c1, c2⟩ := Bool.and_eq_true_iff.mp c
  obtain ⟨a1, a2, a3⟩ := dp_of (X := X) c1 rx
  obtain ⟨b1, b2, b3⟩ := dpL_of (X := X) c2 r1
  refine .inr (.inr ⟨_, _, a1, .lst (SqL.of h1) b1, shaped_of a2 a3, shaped_of (by simpa [PyData.canLay0] using b2) (by simp only [PyData.depth]; omega), ?_⟩)
  rw [← isIn_py 60 c1 (dpL_up c2)]
  exact postNow (W := W) (σ := σ) s p2 _ .bl
theorem od_inG (neg : Bool) : OpD X G (rInA X.K neg) (dInG neg) := by
  intro φ H st dx dy x y W σ Q s rx ry p
  cases ry with
  | tup hs rl =>
    obtain ⟨c, p1⟩ := Post.chk p
    obtain ⟨c1, c2⟩ := Bool.and_eq_true_iff.mp c
    refine .inl ⟨_, _, rfl, .inr hs, flat_v c1 rx, flatL_v c2 rl, ?_⟩
    have q := postNow (W := W) (σ := σ) s p1 _ .bl
    rw [isIn_v c1 rx c2 rl] at q
    cases neg with
    | false => simpa using q
    | true => simpa using q
  | str hy =>
    cases rx with
    | @str t ht =>
      cases t with
      | nil => exact p.elim
      | cons c t =>
        cases t with
        | nil => exact .inr (.inl ⟨c, _, rfl, rfl, by simpa using postNow (W := W) (σ := σ) s p _ .bl⟩)
        | cons _ _ => exact p.elim
    | _ => exact p.elim
  | lst a b c d => exact dIn_list s rx (.lst a b c d) p
  | cel h => exact dIn_list s rx (.cel h) p
  | non => exact dIn_list s rx .non p
  | bl => exact dIn_list s rx .bl p
  | int => exact dIn_list s rx .int p
  | fn h => exact dIn_list s rx (.fn h) p
  | hof h => exact dIn_list s rx (.hof h) p
  | scr a b => exact dIn_list s rx (.scr a b) p
/-! ### an item -/
def atD (xs : List D) (i : Int) : M D := match ixN xs.length i with
  | some j => (match xs[j]? with
    | some d => ret d
    | none => fail)
  | none => fail
def dIx (x y : D) : M D := match y with
  | .int i => (match x with
    | .tup xs => atD xs i
    | .scr xs => atD xs i
    | .str s => chk (decide (s.length ≤ LIM)) (match ixN s.length i with
      | some j => (match s[j]? with
        | some c => ret (.str [c])
        | none => fail)
      | none => fail)
    | x => bnd (lLst x) fun xs => atD xs i)
  | _ => fail
theorem atD_of {xs : List D} {vs : List V} {i : Int} {Q : D → Store → List Addr → Hp → Prop} (s : StOk X.K G φ H st) (r : RpL X.K G φ H xs vs) (p : Post X.K G W σ φ H (atD xs i st) Q) : ∃ d v, atI vs i = some v ∧ Rp X.K G φ H d v ∧ Q d st φ H := by
  unfold atD at p
  cases e : ixN xs.length i with
  | none => rw [e] at p; exact p.elim
  | some j =>
    rw [e] at p
    cases e2 : xs[j]? with
    | none => simp only [e2] at p; exact p.elim
    | some d =>
      simp only [e2] at p
      obtain ⟨v, h1, h2⟩ := r.get e2
      refine ⟨d, v, ?_, h2, postNow (W := W) (σ := σ) s p⟩
      unfold atI
      rw [← r.length, e]
      exact h1
theorem od_ix : OpD X G (rIx X.K) dIx := by
  intro φ H st dx dy x y W σ Q s rx ry p
  cases ry with
  | int =>
    rename_i i0
    have lw : ∀ {dx : D} {x : V}, Rp X.K G φ H dx x → Post X.K G W σ φ H (bnd (lLst dx) (fun xs => atD xs i0) st) (fun d _ φ' H' => ∀ v, Rp X.K G φ' H' d v → Q v H') → rIx X.K x (.int i0) H Q := fun rx p => by
      obtain ⟨a, vs, xs, rfl, h1, r1, p1⟩ := lLst_of s rx (Post.bind p)
      obtain ⟨d, v, h2, h3, h4⟩ := atD_of s r1 p1
      exact .inl ⟨_, _, _, _, rfl, rfl, SqL.of h1, h2, h4 v h3⟩
    cases rx with
    | tup hs rl =>
      obtain ⟨d, v, h2, h3, h4⟩ := atD_of s rl p
      exact .inr (.inl ⟨_, _, _, _, rfl, rfl, hs, h2, h4 v h3⟩)
    | @scr xs a vs hs rl =>
      obtain ⟨d, v, h2, h3, h4⟩ := atD_of s rl p
      exact .inl ⟨_, _, _, _, rfl, rfl, hs.elim (fun ⟨o, h⟩ => .inl (.inr ⟨o, h⟩)) (fun h => h H), h2, h4 v h3⟩
    | @str z hz =>
      obtain ⟨c, p1⟩ := Post.chk p
      cases e : ixN z.length i0 with
      | none => simp only [e] at p1; exact p1.elim
      | some j =>
        simp only [e] at p1
        cases e2 : z[j]? with
        | none => simp only [e2] at p1; exact p1.elim
        | some c' =>
          simp only [e2] at p1
          refine .inr (.inr ⟨_, _, c', rfl, rfl, by rw [str_len]; exact lim_line c, ?_, ?_⟩)
          · unfold atI
            rw [show (⟨z.toArray⟩ : Str).cps.toList = z from by simp, e]
            exact e2
          · refine postNow (W := W) (σ := σ) s p1 _ (.str ?_)
            have := List.all_eq_true.mp hz c' (List.mem_of_getElem? e2)
            simpa using this
    | lst a b c d => exact lw (.lst a b c d) p
    | cel h => exact lw (.cel h) p
    | non => exact lw .non p
    | bl => exact lw .bl p
    | int => exact lw .int p
    | fn h => exact lw (.fn h) p
    | hof h => exact lw (.hof h) p
  | _ => exact p.elim
theorem me_ix {a b : Expr} {ma mb : Env' → M D} {pos : Pos} (ha : ME X G W a ma) (hb : ME X G W b mb) (hx : PlainIx b := by intro _ _; rfl) : ME X G W (.Subscript a b pos) (m2 dIx ma mb) :=
  peImp (pe_ix ix_seq ha hb hx) fun σ H Q h => tOp_of od_ix σ H Q h
/-! ### slices -/
abbrev MO := Env' → M (Option Int)
def tMO (K : PySem.W.Frag) (G : Gx) (W : WX) (m : MO) : TO := fun σ H Q => ∃ φ ρ st, SOk K G φ H σ ρ st ∧ Post K G W σ φ H (m ρ st) fun o _ _ H' => Q o H'
theorem poImp {e : Option Expr} {t t' : TO} (h : PO X e t) (i : ∀ σ H Q, t' σ H Q → t σ H Q) : PO X e t' := ⟨fun pins s σ H Q I hw => h.run pins s σ H Q I (i σ H Q hw)⟩
def oNo : MO := fun _ => ret none
def oAt (m : Env' → M D) : MO := fun ρ => bnd (m ρ) fun d => match d with
  | .int i => ret (some i)
  | _ => fail
theorem mo_none : PO X none (tMO X.K G W oNo) := poImp po_none fun σ H Q ⟨φ, ρ, st, so, p⟩ => postNow (W := W) (σ := σ) so.s p
theorem mo_some {e : Expr} {m : Env' → M D} (h : ME X G W e m) : PO X (some e) (tMO X.K G W (oAt m)) := poImp (po_some h) fun σ H Q ⟨φ, ρ, st, so, p⟩ =>
  tM_of so (Post.bind p) fun d1 st1 φ1 H1 v1 x1 so1 r1 p1 => by
    cases r1 with
    | int => exact ⟨_, rfl, postNow (W := W) (σ := σ) so1.s p1⟩
    | _ => exact p1.elim
def cut {α : Type} (xs : List α) (lo hi : Option Int) : List α := (xs.drop (HT.sIx xs.length 0 lo)).take (HT.sIx xs.length xs.length hi - HT.sIx xs.length 0 lo)
def dCut (x : D) (lo hi : Option Int) : M D := match x with
  | .tup xs => ret (.tup (cut xs lo hi))
  | .str s => chk (decide (s.length ≤ LIM)) (ret (.str (cut s lo hi)))
  | x => bnd (lLst x) fun xs => ret (.lst (cut xs lo hi))
def mCut (m : Env' → M D) (lo hi : MO) (ρ : Env') : M D := bnd (m ρ) fun x => bnd (lo ρ) fun l => bnd (hi ρ) fun h => dCut x l h
def rSlD (K : PySem.W.Frag) : V → Option Int → Option Int → Hp → VK → Prop := fun x lo hi H Q => rSlL K x lo hi H Q ∨ rSlA K x lo hi H Q ∨ rSlS x lo hi H Q
theorem sl_D : SlR X (rSlD X.K) := SlR.or sl_list (SlR.or sl_tupA sl_str)
theorem cut_rp {xs : List D} {vs : List V} (r : RpL X.K G φ H xs vs) (lo hi : Option Int) : RpL X.K G φ H (cut xs lo hi) (cutV vs lo hi) := by
  unfold cut cutV
  rw [r.length]
  exact (r.drop _).take _
theorem dCut_of {dx : D} {x : V} {lo hi : Option Int} {Q : VK} (s : StOk X.K G φ H st) (rx : Rp X.K G φ H dx x) (p : Post X.K G W σ φ H (dCut dx lo hi st) fun d _ φ' H' => ∀ v, Rp X.K G φ' H' d v → Q v H') : rSlD X.K x lo hi H Q := by
  have lw : ∀ {dx : D} {x : V}, Rp X.K G φ H dx x → Post X.K G W σ φ H (bnd (lLst dx) (fun xs => ret (.lst (cut xs lo hi))) st) (fun d _ φ' H' => ∀ v, Rp X.K G φ' H' d v → Q v H') → rSlD X.K x lo hi H Q := fun rx p => by
    obtain ⟨a, vs, xs, rfl, h1, r1, p1⟩ := lLst_of s rx (Post.bind p)
    exact .inl ⟨_, _, rfl, SqL.of h1, fun q hq => Post.made (G := G) (W := W) (σ := σ) s p1 hq _ (rp_lst s hq (cut_rp r1 lo hi))⟩
  cases rx with
  | @tup xs a vs hs rl =>
    refine .inr (.inl ⟨_, _, rfl, hs, fun e => ?_, fun _ q hq => ?_⟩)
    · have ec : cut xs lo hi = xs := by
        unfold cut
        rw [rl.length, e.1, e.2, List.drop_zero, Nat.sub_zero, ← rl.length, List.take_length]
      have p' : Post X.K G W σ φ H (ret (.tup (cut xs lo hi)) st) (fun d _ φ' H' => ∀ v, Rp X.K G φ' H' d v → Q v H') := p
      rw [ec] at p'
      exact postNow (W := W) (σ := σ) s p' _ (.tup hs rl)
    · exact Post.made (G := G) (W := W) (σ := σ) s p hq _ (rp_tup hq (cut_rp rl lo hi))
  | @str z hz =>
    obtain ⟨c, p1⟩ := Post.chk p
    refine .inr (.inr ⟨_, rfl, by rw [str_len]; exact lim_line c, ?_⟩)
    have e : cutS (⟨z.toArray⟩ : Str) lo hi = ⟨(cut z lo hi).toArray⟩ := by
      unfold cutS cut
      rw [str_len]
    rw [e]
    refine postNow (W := W) (σ := σ) s p1 _ (.str ?_)
    refine List.all_eq_true.mpr fun c hc => List.all_eq_true.mp hz c ?_
    unfold cut at hc
    exact List.mem_of_mem_drop (List.mem_of_mem_take hc)
  | lst a b c d => exact lw (.lst a b c d) p
  | cel h => exact lw (.cel h) p
  | non => exact lw .non p
  | bl => exact lw .bl p
  | int => exact lw .int p
  | fn h => exact lw (.fn h) p
  | hof h => exact lw (.hof h) p
  | scr a b => exact lw (.scr a b) p
theorem me_cut {e : Expr} {m : Env' → M D} {lo hi : Option Expr} {ol oh : MO} {pos p2 : Pos} (h : ME X G W e m) (hl : PO X lo (tMO X.K G W ol)) (hh : PO X hi (tMO X.K G W oh)) : ME X G W (.Subscript e (.Slice lo hi none p2) pos) (mCut m ol oh) := by
  refine peImp (pe_slice sl_D h hl hh) fun σ H Q ⟨φ, ρ, st, so, p⟩ => ?_
  refine tM_of so (Post.bind p) fun d1 st1 φ1 H1 v1 x1 so1 r1 p1 => ?_
  refine ⟨φ1, ρ, st1, so1, (Post.bind p1).imp fun l st2 φ2 H2 x2 s2 p2 => ?_⟩
  refine ⟨φ2, ρ, st2, ⟨s2, so1.e.mono x2⟩, (Post.bind p2).imp fun u st3 φ3 H3 x3 s3 p3 => ?_⟩
  exact dCut_of (W := W) (σ := σ) s3 ((r1.mono x2).mono x3) p3
/-! ### calls of the built-in -/
def CallD (X : Cx) (G : Gx) (r : List V → Hp → VK → Prop) (f : List D → M D) : Prop := ∀ φ H st ds vs (W : WX) (σ : St) (Q : VK), StOk X.K G φ H st → RpL X.K G φ H ds vs →
  Post X.K G W σ φ H (f ds st) (fun d _ φ' H' => ∀ v, Rp X.K G φ' H' d v → Q v H') → r vs H Q
def mFn (f : List D → M D) (ms : Env' → M (List D)) (ρ : Env') : M D := bnd (ms ρ) f
section
variable {r : List V → Hp → VK → Prop} {f : List D → M D} {ms : Env' → M (List D)} {id T : String} {x : Str} {e : Expr} {es : List Expr} {p pos : Pos}
theorem tCB_of (hd : CallD X G r f) (σ : St) (H : Hp) (Q : VK) (h : tM X.K G W (mFn f ms) σ H Q) : tCB r (tML X.K G W ms) σ H Q := by
  obtain ⟨φ, ρ, st, so, p⟩ := h
  refine tML_of so (Post.bind p) fun ds st1 φ1 H1 vs x1 so1 r1 p1 => ?_
  exact hd φ1 H1 st1 ds vs W σ Q so1.s r1 p1
theorem me_cb (hc : CallR X (.builtin id) r) (hd : CallD X G r f) (hm : X.mg x = none) (hv : bootBuiltins x = some (.builtin id)) (ha : MA X G W (e :: es) ms) (hg : Gl X x := by rfl) (hn : x ≠ "__name__" := by decide) (hdb : (x == ("__debug__" : Str)) = false := by decide)
    (he : starEach (e :: es) X.env = (false, eval e X.env) :: starEach es X.env := by rfl) (hpl : (backTo pos (starEach es X.env)).any (·.1) = false := by rfl) : ME X G W (.Call (.Name x p) (e :: es) [] pos) (mFn f ms) :=
  peImp (pe_callB hc hg hm hv ha hn hdb he hpl) fun σ H Q h => tCB_of hd σ H Q h
theorem me_ct (hc : CallR X (.type T) r) (hd : CallD X G r f) (hm : X.mg x = none) (hv : bootBuiltins x = some (.type T)) (ha : MA X G W (e :: es) ms) (hg : Gl X x := by rfl) (hn : x ≠ "__name__" := by decide) (hdb : (x == ("__debug__" : Str)) = false := by decide)
    (he : starEach (e :: es) X.env = (false, eval e X.env) :: starEach es X.env := by rfl) (hpl : (backTo pos (starEach es X.env)).any (·.1) = false := by rfl) : ME X G W (.Call (.Name x p) (e :: es) [] pos) (mFn f ms) :=
  peImp (pe_callTy hc hg hm hv ha hn hdb he hpl) fun σ H Q h => tCB_of hd σ H Q h
end
end
def f1 (g : D → M D) : List D → M D
  | [x] => g x
  | _ => fail
def f2 (g : D → D → M D) : List D → M D
  | [x, y] => g x y
  | _ => fail
def dAbs : D → M D
  | .int i => ret (.int (if i < 0 then -i else i))
  | _ => fail
def dInt : D → M D
  | .int i => ret (.int i)
  | .bl b => ret (.int (if b then 1 else 0))
  | _ => fail
def dMax (x y : D) : M D := i2 (fun i j => ret (.int (if j > i then j else i))) x y
def dMin (x y : D) : M D := i2 (fun i j => ret (.int (if j < i then j else i))) x y
def dLen : D → M D
  | .tup xs => ret (.int xs.length)
  | .scr xs => ret (.int xs.length)
  | .str s => chk (decide (s.length ≤ LIM)) (ret (.int s.length))
  | x => bnd (lLst x) fun xs => ret (.int xs.length)
def dTuple : D → M D
  | .tup xs => ret (.tup xs)
  | x => bnd (lLst x) fun xs => ret (.tup xs)
def dList : D → M D
  | .tup xs => ret (.lst xs)
  | x => bnd (lLst x) fun xs => ret (.lst xs)
def intsD : List D → Option (List Int)
  | [] => some []
  | .int i :: r => (intsD r).map (i :: ·)
  | _ => none
def bls : List D → Option (List Bool)
  | [] => some []
  | .bl i :: r => (bls r).map (i :: ·)
  | _ => none
def strs' : List D → Option (List (List Nat))
  | [] => some []
  | .str i :: r => (strs' r).map (i :: ·)
  | _ => none
def dSum (x : D) : M D := bnd (lLst x) fun xs => match intsD xs with
  | some ns => ret (.int ns.sum)
  | none => fail
def dAll (x : D) : M D := bnd (lLst x) fun xs => match bls xs with
  | some bs => ret (.bl (bs.all id))
  | none => fail
def dAny (x : D) : M D := bnd (lLst x) fun xs => match bls xs with
  | some bs => ret (.bl (bs.any id))
  | none => fail
section
variable {X : Cx} {G : Gx} {W : WX} {σ : St} {φ : List Addr} {H : Hp} {st : Store}
theorem ints_v : ∀ {ds : List D} {vs : List V} {ns : List Int}, RpL X.K G φ H ds vs → intsD ds = some ns → vs = ns.map V.int
  | [], _, _, .nil, h => by
    cases h
    rfl
  | d :: ds, _, ns, .cons r rr, h => by
    cases r with
    | int =>
      simp only [intsD, Option.map_eq_some_iff] at h
      obtain ⟨ms, e, rfl⟩ := h
      rw [ints_v rr e]
      rfl
    | _ => simp [intsD] at h
theorem bls_v : ∀ {ds : List D} {vs : List V} {ns : List Bool}, RpL X.K G φ H ds vs → bls ds = some ns → vs = ns.map V.bl
  | [], _, _, .nil, h => by
    cases h
    rfl
  | d :: ds, _, ns, .cons r rr, h => by
    cases r with
    | bl =>
      simp only [bls, Option.map_eq_some_iff] at h
      obtain ⟨ms, e, rfl⟩ := h
      rw [bls_v rr e]
      rfl
    | _ => simp [bls] at h
def mkS (s : List Nat) : Str := ⟨s.toArray⟩
theorem strs_v : ∀ {ds : List D} {vs : List V} {ns : List (List Nat)}, RpL X.K G φ H ds vs → strs' ds = some ns → vs = (ns.map mkS).map V.str ∧ ∀ s ∈ ns, (s.all fun c => decide (c < 0x110000)) = true
  | [], _, _, .nil, h => by
    cases h
    exact ⟨rfl, fun _ h => nomatch h⟩
  | d :: ds, _, ns, .cons r rr, h => by
    cases r with
    | str hs =>
      simp only [strs', Option.map_eq_some_iff] at h
      obtain ⟨ms, e, rfl⟩ := h
      obtain ⟨h1, h2⟩ := strs_v rr e
      rw [h1]
      exact ⟨rfl, fun s m => (List.mem_cons.mp m).elim (fun e => by rw [e]; exact hs) (h2 s)⟩
    | _ => simp [strs'] at h
theorem cd1 {g : D → M D} {r : List V → Hp → VK → Prop} (h : ∀ φ H st d v (W : WX) (σ : St) (Q : VK), StOk X.K G φ H st → Rp X.K G φ H d v → Post X.K G W σ φ H (g d st) (fun d _ φ' H' => ∀ v, Rp X.K G φ' H' d v → Q v H') → r [v] H Q) : CallD X G r (f1 g) := by
  intro φ H st ds vs W σ Q s rl p
  cases rl with
  | nil => exact p.elim
  | cons r1 rr => cases rr with
    | nil => exact h φ H st _ _ W σ Q s r1 p
    | cons _ _ => exact p.elim
theorem cd2 {g : D → D → M D} {r : List V → Hp → VK → Prop} (h : ∀ φ H st d v e u (W : WX) (σ : St) (Q : VK), StOk X.K G φ H st → Rp X.K G φ H d v → Rp X.K G φ H e u → Post X.K G W σ φ H (g d e st) (fun d _ φ' H' => ∀ v, Rp X.K G φ' H' d v → Q v H') → r [v, u] H Q) : CallD X G r (f2 g) := by
  intro φ H st ds vs W σ Q s rl p
  cases rl with
  | nil => exact p.elim
  | cons r1 rr => cases rr with
    | nil => exact p.elim
    | cons r2 rr => cases rr with
      | nil => exact h φ H st _ _ _ _ W σ Q s r1 r2 p
      | cons _ _ => exact p.elim
theorem cd_abs : CallD X G (fun xs H Q => ∃ i, xs = [.int i] ∧ Q (.int (if i < 0 then -i else i)) H) (f1 dAbs) := cd1 fun φ H st d v W σ Q s r p => by
  cases r with
  | int => exact ⟨_, rfl, postNow (W := W) (σ := σ) s p _ .int⟩
  | _ => exact p.elim
theorem cd_int : CallD X G (fun xs H Q => (∃ i, xs = [.int i] ∧ Q (.int i) H) ∨ ∃ k, xs = [.bl k] ∧ Q (.int (if k then 1 else 0)) H) (f1 dInt) := cd1 fun φ H st d v W σ Q s r p => by
  cases r with
  | int => exact .inl ⟨_, rfl, postNow (W := W) (σ := σ) s p _ .int⟩
  | bl => exact .inr ⟨_, rfl, postNow (W := W) (σ := σ) s p _ .int⟩
  | _ => exact p.elim
theorem cd_max : CallD X G (fun xs H Q => ∃ i j, xs = [.int i, .int j] ∧ Q (.int (if j > i then j else i)) H) (f2 dMax) := cd2 fun φ H st d v e u W σ Q s r1 r2 p => by
  cases r1 with
  | int => cases r2 with
    | int => exact ⟨_, _, rfl, postNow (W := W) (σ := σ) s p _ .int⟩
    | _ => exact p.elim
  | _ => exact p.elim
theorem cd_min : CallD X G (fun xs H Q => ∃ i j, xs = [.int i, .int j] ∧ Q (.int (if j < i then j else i)) H) (f2 dMin) := cd2 fun φ H st d v e u W σ Q s r1 r2 p => by
  cases r1 with
  | int => cases r2 with
    | int => exact ⟨_, _, rfl, postNow (W := W) (σ := σ) s p _ .int⟩
    | _ => exact p.elim
  | _ => exact p.elim
theorem cd_len : CallD X G (fun xs H Q => ∃ x n, xs = [x] ∧ LenV X.K x H n ∧ Q (.int n) H) (f1 dLen) := cd1 fun φ H st d v W σ Q s r p => by
  have lw : ∀ {d : D} {v : V}, Rp X.K G φ H d v → Post X.K G W σ φ H (bnd (lLst d) (fun xs => ret (.int xs.length)) st) (fun d _ φ' H' => ∀ v, Rp X.K G φ' H' d v → Q v H') → ∃ x n, [v] = [x] ∧ LenV X.K x H n ∧ Q (.int n) H := fun r p => by
    obtain ⟨a, vs, xs, rfl, h1, r1, p1⟩ := lLst_of s r (Post.bind p)
    refine ⟨_, vs.length, rfl, .inl ⟨vs, SqL.of h1, rfl⟩, ?_⟩
    have := postNow (W := W) (σ := σ) s p1 _ .int
    rw [r1.length] at this
    exact this
  cases r with
  | @tup xs a vs hs rl =>
    refine ⟨_, vs.length, rfl, .inr ⟨vs, hs, rfl⟩, ?_⟩
    have := postNow (W := W) (σ := σ) s p _ .int
    rw [rl.length] at this
    exact this
  | @scr xs a vs hs rl =>
    refine ⟨_, vs.length, rfl, .inl ⟨vs, hs.elim (fun ⟨o, h⟩ => .inl (.inr ⟨o, h⟩)) (fun h => h H), rfl⟩, ?_⟩
    have := postNow (W := W) (σ := σ) s p _ .int
    rw [rl.length] at this
    exact this
  | str hz =>
    obtain ⟨c, p1⟩ := Post.chk p
    exact ⟨_, _, rfl, ⟨by rw [str_len]; exact lim_line c, str_len.symm⟩, postNow (W := W) (σ := σ) s p1 _ .int⟩
  | lst a b c d => exact lw (.lst a b c d) p
  | cel h => exact lw (.cel h) p
  | non => exact lw .non p
  | bl => exact lw .bl p
  | int => exact lw .int p
  | fn h => exact lw (.fn h) p
  | hof h => exact lw (.hof h) p
end
end DL

namespace DL
open PySem PySem.Spec PyProof.Rows L2
section
variable {X : Cx} {G : Gx} {W : WX} {σ : St} {φ : List Addr} {H : Hp} {st : Store}
theorem cd_tuple : CallD X G (fun xs H Q => ∃ p ys, xs = [V.ref p] ∧ ((SqL X.K H p ys ∧ ∀ l, H l = none → Q (.ref l) (upd H l (.tup ys))) ∨ SqT X.K H p ys ∧ Q (.ref p) H)) (f1 dTuple) := cd1 fun φ H st d v W σ Q s r p => by
  have lw : ∀ {d : D} {v : V}, Rp X.K G φ H d v → Post X.K G W σ φ H (bnd (lLst d) (fun xs => ret (.tup xs)) st) (fun d _ φ' H' => ∀ v, Rp X.K G φ' H' d v → Q v H') → ∃ p ys, [v] = [V.ref p] ∧ ((SqL X.K H p ys ∧ ∀ l, H l = none → Q (.ref l) (upd H l (.tup ys))) ∨ SqT X.K H p ys ∧ Q (.ref p) H) := fun r p => by
    obtain ⟨a, vs, xs, rfl, h1, r1, p1⟩ := lLst_of s r (Post.bind p)
    exact ⟨_, _, rfl, .inl ⟨SqL.of h1, fun q hq => Post.made (G := G) (W := W) (σ := σ) s p1 hq _ (rp_tup hq r1)⟩⟩
  cases r with
  | @tup xs a vs hs rl => exact ⟨_, _, rfl, .inr ⟨hs, postNow (W := W) (σ := σ) s p _ (.tup hs rl)⟩⟩
  | lst a b c d => exact lw (.lst a b c d) p
  | cel h => exact lw (.cel h) p
  | _ => exact p.elim
theorem cd_list : CallD X G (fun xs H Q => ∃ p ys, xs = [V.ref p] ∧ (SqL X.K H p ys ∨ SqT X.K H p ys) ∧ ∀ l, H l = none → Q (.ref l) (upd H l (.lst ys))) (f1 dList) := cd1 fun φ H st d v W σ Q s r p => by
  have lw : ∀ {d : D} {v : V}, Rp X.K G φ H d v → Post X.K G W σ φ H (bnd (lLst d) (fun xs => ret (.lst xs)) st) (fun d _ φ' H' => ∀ v, Rp X.K G φ' H' d v → Q v H') → ∃ p ys, [v] = [V.ref p] ∧ (SqL X.K H p ys ∨ SqT X.K H p ys) ∧ ∀ l, H l = none → Q (.ref l) (upd H l (.lst ys)) := fun r p => by
    obtain ⟨a, vs, xs, rfl, h1, r1, p1⟩ := lLst_of s r (Post.bind p)
    exact ⟨_, _, rfl, .inl (SqL.of h1), fun q hq => Post.made (G := G) (W := W) (σ := σ) s p1 hq _ (rp_lst s hq r1)⟩
  cases r with
  | @tup xs a vs hs rl => exact ⟨_, _, rfl, .inr hs, fun q hq => Post.made (G := G) (W := W) (σ := σ) s p hq _ (rp_lst s hq rl)⟩
  | lst a b c d => exact lw (.lst a b c d) p
  | cel h => exact lw (.cel h) p
  | _ => exact p.elim
theorem cd_sum : CallD X G (rSum X.K) (f1 dSum) := cd1 fun φ H st d v W σ Q s r p => by
  obtain ⟨a, vs, xs, rfl, h1, r1, p1⟩ := lLst_of s r (Post.bind p)
  cases e : intsD xs with
  | none => rw [e] at p1; exact p1.elim
  | some ns =>
    rw [e] at p1
    have ev := ints_v r1 e
    subst ev
    exact ⟨_, _, rfl, SqL.of h1, postNow (W := W) (σ := σ) s p1 _ .int⟩
theorem cd_all : CallD X G (rAll X.K) (f1 dAll) := cd1 fun φ H st d v W σ Q s r p => by
  obtain ⟨a, vs, xs, rfl, h1, r1, p1⟩ := lLst_of s r (Post.bind p)
  cases e : bls xs with
  | none => rw [e] at p1; exact p1.elim
  | some ns =>
    rw [e] at p1
    have ev := bls_v r1 e
    subst ev
    exact ⟨_, _, rfl, SqL.of h1, postNow (W := W) (σ := σ) s p1 _ .bl⟩
theorem cd_any : CallD X G (rAny X.K) (f1 dAny) := cd1 fun φ H st d v W σ Q s r p => by
  obtain ⟨a, vs, xs, rfl, h1, r1, p1⟩ := lLst_of s r (Post.bind p)
  cases e : bls xs with
  | none => rw [e] at p1; exact p1.elim
  | some ns =>
    rw [e] at p1
    have ev := bls_v r1 e
    subst ev
    exact ⟨_, _, rfl, SqL.of h1, postNow (W := W) (σ := σ) s p1 _ .bl⟩
/-! ### a cell is changed -/
theorem ext_put {a : Addr} {n : Nat} {o o' : HO} (h : φ[n]? = some a) (e : H a = some o) (hl : (∃ xs, o = .lst xs) ∨ (∃ xs, o = .dK xs) ∨ ∃ C dx fs, o = .ins C dx fs) : Ext φ H φ (upd H a o') := by
  have hm : a ∈ φ := List.mem_of_getElem? h
  have ne : ∀ b u, H b = some u → (∀ xs, u ≠ .lst xs) → (∀ xs, u ≠ .dK xs) → (∀ C dx fs, u ≠ .ins C dx fs) → b ≠ a := fun b u hb n1 n2 n3 q => by
    rw [q, e] at hb
    cases hb
    rcases hl with ⟨_, z⟩ | ⟨_, z⟩ | ⟨_, _, _, z⟩
    · exact n1 _ z
    · exact n2 _ z
    · exact n3 _ _ _ z
  refine ⟨⟨[], by simp, by simp⟩, fun b u hb n _ => ?_, fun b xs hb => ?_, fun b ob u hb => ?_, fun b hb => ?_⟩
  · rw [upd_ne fun q => n (by rw [q]; exact hm)]
    exact hb
  · rw [upd_ne (ne _ _ hb (fun _ z => by cases z) (fun _ z => by cases z) fun _ _ _ z => by cases z)]
    exact hb
  · rw [upd_ne (ne _ _ hb (fun _ z => by cases z) (fun _ z => by cases z) fun _ _ _ z => by cases z)]
    exact hb
  · by_cases q : b = a
    · rw [q, upd_same]; simp
    · rw [upd_ne q]; exact hb
theorem StOk.put {a : Addr} {n : Nat} {c : Cell} {o o' : HO} (s : StOk X.K G φ H st) (h : φ[n]? = some a) (e : H a = some o) (hl : (∃ xs, o = .lst xs) ∨ (∃ xs, o = .dK xs) ∨ ∃ C dx fs, o = .ins C dx fs) (hc : CellOk X.K G φ H c o') :
    StOk X.K G φ (upd H a o') (st.set n c) := by
  have x : Ext φ H φ (upd H a o') := ext_put h e hl
  refine ⟨by rw [List.length_set]; exact s.len, s.nd, fun i c' b h1 h2 => ?_, fun p hp => ?_, s.anc.trans x, fun b hb => x.there b (s.fx b hb), s.fd⟩
  · by_cases hi : n = i
    · subst hi
      rw [h] at h2
      cases h2
      have hn : n < st.length := by rw [← s.len]; exact (List.getElem?_eq_some_iff.mp h).1
      rw [List.getElem?_set_self hn] at h1
      cases h1
      exact ⟨o', upd_same, hc.mono x⟩
    · rw [List.getElem?_set_ne hi] at h1
      obtain ⟨u, e1, e2⟩ := s.cell i c' b h1 h2
      have hne : b ≠ a := fun q => hi (nd_ix s.nd h (by rw [← q]; exact h2))
      exact ⟨u, by rw [upd_ne hne]; exact e1, e2.mono x⟩
  · obtain ⟨ps, h1, h2, h3⟩ := s.tabs p hp
    have hne : ∀ b u, H b = some u → (∀ xs, u ≠ .lst xs) → (∀ xs, u ≠ .dK xs) → (∀ C dx fs, u ≠ .ins C dx fs) → upd H a o' b = some u := fun b u hb n1 n2 n3 => by
      have q : b ≠ a := fun q => by
        rw [q, e] at hb
        cases hb
        rcases hl with ⟨_, z⟩ | ⟨_, z⟩ | ⟨_, _, _, z⟩
        · exact n1 _ z
        · exact n2 _ z
        · exact n3 _ _ _ z
      rw [upd_ne q]
      exact hb
    refine ⟨ps, hne _ _ h1 (fun _ z => by cases z) (fun _ z => by cases z) (fun _ _ _ z => by cases z), h2, fun pos cv hcv => ?_⟩
    obtain ⟨cc, e1, e2⟩ := h3 pos cv hcv
    exact ⟨cc, e1, hne _ _ e2 (fun _ z => by unfold LamX.CodeO at z; cases z) (fun _ z => by unfold LamX.CodeO at z; cases z) (fun _ _ _ z => by unfold LamX.CodeO at z; cases z)⟩
/-- the list in a cell -/
def celL (n : Nat) : M (List D) := fun st => match st[n]? with
  | some (.lst xs) => .ok xs st
  | _ => .bad
def putC (n : Nat) (c : Cell) : M D := fun st => .ok .non (st.set n c)
theorem celL_of {n : Nat} {a : Addr} {Q : List D → Store → List Addr → Hp → Prop} (s : StOk X.K G φ H st) (h : φ[n]? = some a) (p : Post X.K G W σ φ H (celL n st) Q) : ∃ xs vs, st[n]? = some (.lst xs) ∧ H a = some (.lst vs) ∧ RpL X.K G φ H xs vs ∧ Q xs st φ H := by
  unfold celL at p
  cases e : st[n]? with
  | none => rw [e] at p; exact p.elim
  | some c =>
    rw [e] at p
    cases c with
    | lst xs =>
      obtain ⟨o, e1, e2⟩ := s.cell n _ a e h
      cases e2 with
      | lst rl => exact ⟨_, _, rfl, e1, rl, postNow (W := W) (σ := σ) s p⟩
    | dct _ => exact p.elim
    | dctL _ => exact p.elim
    | ins _ _ => exact p.elim
theorem putC_of {n : Nat} {a : Addr} {c : Cell} {o o' : HO} {Q : D → Store → List Addr → Hp → Prop} (s : StOk X.K G φ H st) (h : φ[n]? = some a) (e : H a = some o) (hl : (∃ xs, o = .lst xs) ∨ (∃ xs, o = .dK xs) ∨ ∃ C dx fs, o = .ins C dx fs) (hc : CellOk X.K G φ H c o') (p : Post X.K G W σ φ H (putC n c st) Q) :
    Q .non (st.set n c) φ (upd H a o') := p φ _ (ext_put h e hl) (s.put h e hl hc)
/-! ### xs[i] = v -/
def setIx (o i d : D) : M D := match o with
  | .cel n => (match i with
    | .int k => bnd (celL n) fun xs => (match ixN xs.length k with
      | some j => putC n (.lst (xs.set j d))
      | none => fail)
    | _ => fail)
  | _ => fail
def gSub (mo mi : Env' → M D) : GM := fun d ρ => bnd (mo ρ) fun o => bnd (mi ρ) fun i => bnd (setIx o i d) fun _ => ret ρ
theorem Post.okG {ρ : Env'} {m : M D} {Q : St → Hp → Prop} (h : PostG X.K G φ H (bnd m (fun _ => ret ρ) st) Q) : Post X.K G W0 σ φ H (m st) fun _ st' φ' H' => ∀ σ', EnvOk X.K G φ' H' σ' ρ → Q σ' H' := by
  unfold bnd at h
  cases e : m st with
  | ok a st' =>
    rw [e] at h
    exact fun φ' H' x s σ' ev => h φ' H' σ' x ⟨s, ev⟩
  | exc c st' => rw [e] at h; exact h.elim
  | bad => rw [e] at h; exact h
theorem PostG.bind {α : Type} {m : M α} {f : α → M Env'} {Q : St → Hp → Prop} (h : PostG X.K G φ H (bnd m f st) Q) : Post X.K G W0 σ φ H (m st) fun a st' φ' H' => PostG X.K G φ' H' (f a st') Q := by
  unfold bnd at h
  cases e : m st with
  | ok a st' =>
    rw [e] at h
    exact fun φ' H' x s => PostG.ext x h
  | exc c st' => rw [e] at h; exact h.elim
  | bad => rw [e] at h; exact h
theorem Post.w {α : Type} {W' : WX} {σ' : St} {r : R α} {Q : α → Store → List Addr → Hp → Prop} (h : Post X.K G W0 σ φ H r Q) : Post X.K G W' σ' φ H r Q := by
  cases r with
  | ok a st' => exact h
  | exc c st' => exact fun φ2 H2 x s => (h φ2 H2 x s).elim
  | bad => exact h
theorem setIx_of {do' di dd : D} {o i v : V} {ρ : Env'} {Q : St → Hp → Prop} (so : SOk X.K G φ H σ ρ st) (ro : Rp X.K G φ H do' o) (ri : Rp X.K G φ H di i) (rd : Rp X.K G φ H dd v) (p : PostG X.K G φ H (bnd (setIx do' di dd) (fun _ => ret ρ) st) Q) : rSetL o i v H fun H3 => Q σ H3 := by
  have p1 := Post.okG (σ := σ) p
  cases ro with
  | @cel n a hn =>
    cases ri with
    | @int k =>
      obtain ⟨xs, vs, e1, e2, rl, p2⟩ := celL_of so.s hn (Post.bind (K := X.K) p1)
      cases e : ixN xs.length k with
      | none => rw [e] at p2; exact p2.elim
      | some j =>
        rw [e] at p2
        refine ⟨a, vs, k, j, rfl, rfl, e2, by rw [← rl.length]; exact e, ?_⟩
        exact putC_of so.s hn e2 (.inl ⟨_, rfl⟩) (.lst (RpL.set rd j rl)) p2 σ (so.e.mono (ext_put hn e2 (.inl ⟨_, rfl⟩)))
    | _ => exact p1.elim
  | _ => exact p1.elim
theorem gt_sub {o i : Expr} {mo mi : Env' → M D} {pos : Pos} (ho : ME X G W o mo) (hi : ME X G W i mi)
    (ha : ∀ v, assign (.Subscript o i pos) X.env v = (do
      let ov ← holding [v] (eval o X.env)
      let iv ← holding [v, ov] (eval i X.env)
      standAt pos
      holding [v, ov, iv] (setItem ov iv v)
      release [v, ov, iv] []) := by intro _; rfl) : GT X G (.Subscript o i pos) (gSub mo mi) := by
  refine pgImp (pg_sub ho hi set_list ha) fun v σ H Q ⟨φ, ρ, st, d, so, r, p⟩ => ?_
  refine tM_of so (Post.w (σ := σ) (PostG.bind (σ := σ) p)) fun d1 st1 φ1 H1 v1 x1 so1 r1 p1 => ?_
  refine tM_of so1 (Post.w (σ := σ) (PostG.bind (σ := σ) p1)) fun d2 st2 φ2 H2 v2 x2 so2 r2 p2 => ?_
  exact setIx_of so2 (r1.mono x2) r2 ((r.mono x1).mono x2) p2
/-! ### methods of lists and texts -/
def kLst (d : D) : M Unit := bnd (lLst d) fun _ => ret ()
def kStr : D → M Unit
  | .str _ => ret ()
  | _ => fail
def mMeth (kd : D → M Unit) (f : D → List D → M D) (mo : Env' → M D) (ms : Env' → M (List D)) (ρ : Env') : M D := bnd (mo ρ) fun o => bnd (kd o) fun _ => bnd (ms ρ) fun ds => f o ds
def KindD (X : Cx) (G : Gx) (T : String) (kd : D → M Unit) : Prop := ∀ φ H st d v (W : WX) (σ : St) (Q : Unit → Store → List Addr → Hp → Prop), StOk X.K G φ H st → Rp X.K G φ H d v → Post X.K G W σ φ H (kd d st) Q → tyV X.K T v H ∧ Q () st φ H
def MethD (X : Cx) (G : Gx) (r : V → List V → Hp → VK → Prop) (f : D → List D → M D) : Prop := ∀ φ H st d v ds vs (W : WX) (σ : St) (Q : VK), StOk X.K G φ H st → Rp X.K G φ H d v → RpL X.K G φ H ds vs →
  Post X.K G W σ φ H (f d ds st) (fun d _ φ' H' => ∀ v, Rp X.K G φ' H' d v → Q v H') → r v vs H Q
theorem kd_list : KindD X G "list" kLst := fun φ H st d v W σ Q s r p => by
  obtain ⟨a, vs, xs, rfl, h1, r1, p1⟩ := lLst_of s r (Post.bind p)
  exact ⟨.inl ⟨rfl, _, SqL.of h1⟩, postNow (W := W) (σ := σ) s p1⟩
theorem kd_str : KindD X G "str" kStr := fun φ H st d v W σ Q s r p => by
  cases r with
  | str h => exact ⟨rfl, postNow (W := W) (σ := σ) s p⟩
  | _ => exact p.elim
section
variable {T name id : String} {nm : Str} {r : V → List V → Hp → VK → Prop} {kd : D → M Unit} {f : D → List D → M D} {o e : Expr} {es : List Expr} {mo : Env' → M D} {ms : Env' → M (List D)}
theorem tBM_of (hk : KindD X G T kd) (hf : MethD X G r f) (σ : St) (H : Hp) (Q : VK) (h : tM X.K G W (mMeth kd f mo ms) σ H Q) : tBM X.K T r (tM X.K G W mo) (tML X.K G W ms) σ H Q := by
  obtain ⟨φ, ρ, st, so, p⟩ := h
  refine tM_of so (Post.bind p) fun d1 st1 φ1 H1 v1 x1 so1 r1 p1 => ?_
  obtain ⟨ty, p2⟩ := hk φ1 H1 st1 d1 v1 W σ _ so1.s r1 (Post.bind p1)
  refine ⟨ty, tML_of so1 (Post.bind p2) fun ds st2 φ2 H2 vs x2 so2 r2 p3 => ?_⟩
  exact hf φ2 H2 st2 d1 v1 ds vs W σ Q so2.s (r1.mono x2) r2 p3
end
def dAppend (o : D) : List D → M D
  | [d] => (match o with
    | .cel n => bnd (celL n) fun xs => chk (decide (xs.length + 1 ≤ LIM)) (putC n (.lst (xs ++ [d])))
    | _ => fail)
  | _ => fail
theorem md_append : MethD X G rAppend dAppend := fun φ H st d v ds vs W σ Q s r rl p => by
  cases rl with
  | nil => exact p.elim
  | cons r1 rr => cases rr with
    | cons _ _ => exact p.elim
    | nil => cases r with
      | @cel n a hn =>
        obtain ⟨xs, ws, e1, e2, rx, p2⟩ := celL_of s hn (Post.bind p)
        obtain ⟨c, p3⟩ := Post.chk p2
        have hc : xs.length + 1 ≤ LIM := of_decide_eq_true c
        refine ⟨_, _, _, rfl, rfl, e2, by rw [← rx.length]; exact lim_lt (decide_eq_true (by omega)), ?_⟩
        exact putC_of s hn e2 (.inl ⟨_, rfl⟩) (.lst (rx.snoc r1)) p3 _ .non
      | _ => exact p.elim
/-- s.join(list or tuple of texts) -/
def joinS (a : List Nat) : List (List Nat) → List Nat
  | [] => []
  | [s] => s
  | s :: r => s ++ (a ++ joinS a r)
def dJoin (o : D) : List D → M D
  | [x] => (match o with
    | .str a => (match x with
      | .tup xs => (match strs' xs with
        | some ss => chk (decide ((ss.map List.length).sum + ss.length * a.length ≤ LIM)) (ret (.str (joinS a ss)))
        | none => fail)
      | x => bnd (lLst x) fun xs => (match strs' xs with
        | some ss => chk (decide ((ss.map List.length).sum + ss.length * a.length ≤ LIM)) (ret (.str (joinS a ss)))
        | none => fail))
    | _ => fail)
  | _ => fail
theorem join_v (a : List Nat) : ∀ ss : List (List Nat), Txt.join (mkS a) (ss.map mkS) = mkS (joinS a ss)
  | [] => rfl
  | [s] => by
    show Builtin.Str.glued (mkS a) [mkS s] = mkS s
    rw [StrLaws.glued_eq_join]
    rfl
  | s :: t :: r => by
    have ih := join_v a (t :: r)
    show Builtin.Str.glued (mkS a) (mkS s :: mkS t :: r.map mkS) = _
    have ih' : Builtin.Str.glued (mkS a) (mkS t :: r.map mkS) = mkS (joinS a (t :: r)) := ih
    rw [StrLaws.glued_eq_join] at ih' ⊢
    show mkS s ++ mkS a ++ Str.join (mkS a) (mkS t :: r.map mkS) = mkS (s ++ (a ++ joinS a (t :: r)))
    rw [ih']
    unfold mkS
    rw [← str_app, ← str_app, List.append_assoc]
theorem joinS_all {a : List Nat} {p : Nat → Bool} (ha : a.all p = true) : ∀ {ss : List (List Nat)}, (∀ s ∈ ss, s.all p = true) → (joinS a ss).all p = true
  | [], _ => rfl
  | [s], h => h s List.mem_cons_self
  | s :: t :: r, h => by
    show (s ++ (a ++ joinS a (t :: r))).all p = true
    rw [List.all_append, List.all_append, h s List.mem_cons_self, ha, joinS_all ha fun z hz => h z (List.mem_cons_of_mem _ hz)]
    rfl
theorem mkS_len (s : List Nat) : (mkS s).length = s.length := str_len
theorem lens (ss : List (List Nat)) : ((ss.map mkS).map (·.length)) = ss.map List.length := by
  rw [List.map_map]
  exact List.map_congr_left fun s _ => mkS_len s
def rJoin (K : PySem.W.Frag) : V → List V → Hp → VK → Prop := fun x xs H Q => ∃ a p, ∃ ys : List Str, x = .str a ∧ xs = [.ref p] ∧ (SqL K H p (ys.map V.str) ∨ SqT K H p (ys.map V.str)) ∧ (ys.map (·.length)).sum + ys.length * a.length ≤ 16777216 ∧ Q (.str (Txt.join a ys)) H
theorem join_of {a : List Nat} {p : Addr} {xs : List D} {vs : List V} {Q : VK} (s : StOk X.K G φ H st) (ha : (a.all fun c => decide (c < 0x110000)) = true) (rl : RpL X.K G φ H xs vs) (hs : SqL X.K H p vs ∨ SqT X.K H p vs)
    (h : Post X.K G W σ φ H ((match strs' xs with
        | some ss => chk (decide ((ss.map List.length).sum + ss.length * a.length ≤ LIM)) (ret (D.str (joinS a ss)))
        | none => (fail : M D)) st) fun d _ φ' H' => ∀ v, Rp X.K G φ' H' d v → Q v H') : rJoin X.K (.str ⟨a.toArray⟩) [.ref p] H Q := by
  cases e : strs' xs with
  | none => rw [e] at h; exact h.elim
  | some ss =>
    rw [e] at h
    obtain ⟨c, h2⟩ := Post.chk h
    obtain ⟨ev, hv⟩ := strs_v rl e
    subst ev
    refine ⟨_, p, ss.map mkS, rfl, rfl, hs, ?_, ?_⟩
    · rw [lens, List.length_map, str_len]
      have := of_decide_eq_true c
      have : LIM ≤ 16777216 := by decide
      omega
    · have e2 : Txt.join ⟨a.toArray⟩ (ss.map mkS) = ⟨(joinS a ss).toArray⟩ := join_v a ss
      rw [e2]
      exact postNow (W := W) (σ := σ) s h2 _ (.str (joinS_all ha hv))
theorem md_join : MethD X G (rJoin X.K) dJoin := fun φ H st d v ds vs W σ Q s r rl p => by
  cases rl with
  | nil => exact p.elim
  | cons r1 rr => cases rr with
    | cons _ _ => cases r <;> exact p.elim
    | nil => cases r with
      | @str a ha =>
        have lw : ∀ {d : D} {v : V}, Rp X.K G φ H d v → Post X.K G W σ φ H (bnd (lLst d) (fun xs => (match strs' xs with
            | some ss => chk (decide ((ss.map List.length).sum + ss.length * a.length ≤ LIM)) (ret (D.str (joinS a ss)))
            | none => fail)) st) (fun d _ φ' H' => ∀ v, Rp X.K G φ' H' d v → Q v H') → rJoin X.K (.str ⟨a.toArray⟩) [v] H Q := fun r p => by
          obtain ⟨b, vs, xs, rfl, h1, r1, p1⟩ := lLst_of s r (Post.bind p)
          exact join_of s ha r1 (.inl (SqL.of h1)) p1
        cases r1 with
        | tup hs rl => exact join_of s ha rl (.inr hs) p
        | lst a b c d => exact lw (.lst a b c d) p
        | cel h => exact lw (.cel h) p
        | non => exact lw .non p
        | bl => exact lw .bl p
        | int => exact lw .int p
        | str h => exact lw (.str h) p
        | fn h => exact lw (.fn h) p
        | hof h => exact lw (.hof h) p
        | scr a b => exact lw (.scr a b) p
      | _ => exact p.elim
/-- list.index: the first place of an item that is the same -/
def dIndex (o : D) : List D → M D
  | [x] => bnd (lLst o) fun xs => chk (D.flat x && xs.all D.flat) (match xs.findIdx? fun z => D.eqv z x with
    | some j => ret (.int j)
    | none => fail)
  | _ => fail
theorem md_index : MethD X G (rIndex X.K) dIndex := fun φ H st d v ds vs W σ Q s r rl p => by
  cases rl with
  | nil => exact p.elim
  | cons r1 rr => cases rr with
    | cons _ _ => exact p.elim
    | nil =>
      rename_i x y
      obtain ⟨a, vs, xs, rfl, h1, r2, p1⟩ := lLst_of s r (Post.bind p)
      obtain ⟨c, p2⟩ := Post.chk p1
      obtain ⟨c1, c2⟩ := Bool.and_eq_true_iff.mp c
      cases e : xs.findIdx? fun z => D.eqv z x with
      | none => rw [e] at p2; exact p2.elim
      | some j =>
        rw [e] at p2
        obtain ⟨hj, hz, hm⟩ := List.findIdx?_eq_some_iff_getElem.mp e
        obtain ⟨z, hz1, hz2⟩ := r2.get (List.getElem?_eq_getElem hj)
        have fl : ∀ {i : Nat} {d : D}, xs[i]? = some d → D.flat d = true := fun {i d} h => List.all_eq_true.mp c2 d (List.mem_of_getElem? h)
        refine ⟨a, vs, y, j, z, rfl, rfl, SqL.of h1, flat_v c1 r1, flatL_v c2 r2, hz1, ?_, fun m z' hmj hm' => ?_, postNow (W := W) (σ := σ) s p2 _ .int⟩
        · rw [← eqv_v (fl (List.getElem?_eq_getElem hj)) c1 hz2 r1]
          exact hz
        · obtain ⟨d', hd', rd'⟩ := r2.get' hm'
          rw [← eqv_v (fl hd') c1 rd' r1]
          have hlt : m < xs.length := (List.getElem?_eq_some_iff.mp hd').1
          have := hm m hmj
          rw [List.getElem?_eq_getElem hlt] at hd'
          cases hd'
          simpa using this
def dPop (o : D) : M D := match o with
  | .cel n => bnd (celL n) fun xs => (match xs[xs.length - 1]? with
    | some y => bnd (putC n (.lst xs.dropLast)) fun _ => ret y
    | none => fail)
  | _ => fail
def mPop (m : Env' → M D) (ρ : Env') : M D := bnd (m ρ) fun o => bnd (kLst o) fun _ => dPop o
section
variable {o e : Expr} {es : List Expr} {mo : Env' → M D} {ms : Env' → M (List D)} {apos cpos : Pos}
theorem me_pop (ho : ME X G W o mo) (hbase : attributeBase o "pop" X.env (eval o X.env) = eval o X.env := by rfl) (hline : (apos.endLine == cpos.line) = true := by rfl) : ME X G W (.Call (.Attribute o "pop" apos) [] [] cpos) (mPop mo) := by
  refine peImp (pe_bm0 PySem.F.plainAttrs_list PySem.F.slot_list_pop PySem.F.type_list_pop mt_pop ho hbase hline) fun σ H Q ⟨φ, ρ, st, so, p⟩ => ?_
  refine tM_of so (Post.bind p) fun d1 st1 φ1 H1 v1 x1 so1 r1 p1 => ?_
  obtain ⟨ty, p2⟩ := kd_list φ1 H1 st1 d1 v1 W σ _ so1.s r1 (Post.bind p1)
  refine ⟨ty, ?_⟩
  cases r1 with
  | @cel n a hn =>
    obtain ⟨xs, vs, e1, e2, rl, p3⟩ := celL_of so1.s hn (Post.bind p2)
    cases e : xs[xs.length - 1]? with
    | none => rw [e] at p3; exact p3.elim
    | some y =>
      rw [e] at p3
      obtain ⟨v, h1, h2⟩ := rl.get e
      refine ⟨_, vs, v, rfl, rfl, e2, by rw [← rl.length]; exact h1, ?_⟩
      have hd : RpL X.K G φ1 H1 xs.dropLast vs.dropLast := by
        rw [List.dropLast_eq_take, List.dropLast_eq_take, rl.length]
        exact rl.take _
      have p4 := putC_of so1.s hn e2 (.inl ⟨_, rfl⟩) (.lst hd) (Post.bind p3)
      exact postNow (W := W) (σ := σ) (so1.s.put hn e2 (.inl ⟨_, rfl⟩) (.lst hd)) p4 _ (h2.mono (ext_put hn e2 (.inl ⟨_, rfl⟩)))
  | _ => exact p2.elim
theorem me_append (ho : ME X G W o mo) (ha : MA X G W (e :: es) ms) (hbase : attributeBase o "append" X.env (eval o X.env) = eval o X.env := by rfl)
    (hfew : ((backTo cpos (starEach (e :: es) X.env)).all (fun x => !x.1) && (backToKw cpos (keywordEach [] X.env)).all (fun x => x.1.isSome) && decide ((e :: es).length + ([] : List Keyword).length + (if ([] : List Keyword).isEmpty then 0 else 1) < 30)) = true := by rfl)
    (hline : (apos.endLine == cpos.line) = true := by rfl) (hs : starEach (e :: es) X.env = (false, eval e X.env) :: starEach es X.env := by rfl) (hplain : (backTo cpos (starEach es X.env)).any (·.1) = false := by rfl) : ME X G W (.Call (.Attribute o "append" apos) (e :: es) [] cpos) (mMeth kLst dAppend mo ms) :=
  peImp (pe_bm PySem.F.plainAttrs_list PySem.F.slot_list_append PySem.F.type_list_append mt_append ho ha hbase hfew hline hs hplain) fun σ H Q h => tBM_of kd_list md_append σ H Q h
theorem me_index (ho : ME X G W o mo) (ha : MA X G W (e :: es) ms) (hbase : attributeBase o "index" X.env (eval o X.env) = eval o X.env := by rfl)
    (hfew : ((backTo cpos (starEach (e :: es) X.env)).all (fun x => !x.1) && (backToKw cpos (keywordEach [] X.env)).all (fun x => x.1.isSome) && decide ((e :: es).length + ([] : List Keyword).length + (if ([] : List Keyword).isEmpty then 0 else 1) < 30)) = true := by rfl)
    (hline : (apos.endLine == cpos.line) = true := by rfl) (hs : starEach (e :: es) X.env = (false, eval e X.env) :: starEach es X.env := by rfl) (hplain : (backTo cpos (starEach es X.env)).any (·.1) = false := by rfl) : ME X G W (.Call (.Attribute o "index" apos) (e :: es) [] cpos) (mMeth kLst dIndex mo ms) :=
  peImp (pe_bm PySem.F.plainAttrs_list PySem.F.slot_list_index PySem.F.type_list_index mt_index ho ha hbase hfew hline hs hplain) fun σ H Q h => tBM_of kd_list md_index σ H Q h
theorem me_join (ho : ME X G W o mo) (ha : MA X G W (e :: es) ms) (hbase : attributeBase o "join" X.env (eval o X.env) = eval o X.env := by rfl)
    (hfew : ((backTo cpos (starEach (e :: es) X.env)).all (fun x => !x.1) && (backToKw cpos (keywordEach [] X.env)).all (fun x => x.1.isSome) && decide ((e :: es).length + ([] : List Keyword).length + (if ([] : List Keyword).isEmpty then 0 else 1) < 30)) = true := by rfl)
    (hline : (apos.endLine == cpos.line) = true := by rfl) (hs : starEach (e :: es) X.env = (false, eval e X.env) :: starEach es X.env := by rfl) (hplain : (backTo cpos (starEach es X.env)).any (·.1) = false := by rfl) : ME X G W (.Call (.Attribute o "join" apos) (e :: es) [] cpos) (mMeth kStr dJoin mo ms) :=
  peImp (pe_bm PySem.F.plainAttrs_str PySem.F.slot_str_join PySem.F.type_str_join mt_join ho ha hbase hfew hline hs hplain) fun σ H Q h => tBM_of kd_str md_join σ H Q h
end
end
end DL

namespace DL
open PySem PySem.Spec PyProof.Rows L2
/-! ### what is walked -/
def always (_ : Store) : Bool := true
def cellIs (n : Nat) (xs : List D) (st : Store) : Bool := match st[n]? with
  | some (.lst ys) => D.beqL ys xs
  | _ => false
def sgn (c : Nat) : D := .str [c]
def itA : D → M Itm
  | .lst xs => ret ⟨xs, always⟩
  | .tup xs => ret ⟨xs, always⟩
  | .scr xs => ret ⟨xs, always⟩
  | .str s => ret ⟨s.map sgn, always⟩
  | .cel n => bnd (celL n) fun xs => ret ⟨xs, cellIs n xs⟩
  | _ => fail
def mIt (m : Env' → M D) (ρ : Env') : M Itm := bnd (m ρ) itA
/-- a list as it is walked along with others: its items and what must stay -/
def lsA : D → M Itm
  | .lst xs => ret ⟨xs, always⟩
  | .cel n => bnd (celL n) fun xs => ret ⟨xs, cellIs n xs⟩
  | _ => fail
def enumL (k : Nat) : List D → List D
  | [] => []
  | x :: r => .tup [.int (k : Int), x] :: enumL (k + 1) r
def zipL : List D → List D → List D
  | x :: r, y :: q => .tup [x, y] :: zipL r q
  | _, _ => []
def itEnum : List D → M Itm
  | [x] => bnd (lsA x) fun it => ret ⟨enumL 0 it.xs, it.ck⟩
  | _ => fail
def itZip : List D → M Itm
  | [x, y] => (match x with
    | .tup xs => (match y with
      | .tup ys => ret ⟨zipL xs ys, always⟩
      | _ => fail)
    | x => bnd (lsA x) fun a => bnd (lsA y) fun b => ret ⟨zipL a.xs b.xs, fun st => a.ck st && b.ck st⟩)
  | _ => fail
def rngL (lo : Int) (n : Nat) : List D := (List.range n).map fun i => .int (lo + (i : Nat))
def rngC (lo c : Int) (n : Nat) : List D := (List.range n).map fun i => .int (lo + (i : Nat) * c)
def rOk (j : Int) : Bool := decide (-(2 ^ 62) ≤ j) && decide (j < 2 ^ 62)
def itR1 : List D → M Itm
  | [.int j] => chk (rOk j) (ret ⟨rngL 0 j.toNat, always⟩)
  | _ => fail
def itR2 : List D → M Itm
  | [.int i, .int j] => chk (rOk i && rOk j) (ret ⟨rngL i (j - i).toNat, always⟩)
  | _ => fail
def itR3 : List D → M Itm
  | [.int i, .int j, .int c] => chk (decide (c ≠ 0) && decide (c.natAbs < 1073741824) && Builtin.Range.small i j c && decide (0 ≤ Builtin.Range.rangeSize i j c)) (ret ⟨rngC i c (Builtin.Range.rangeSize i j c).toNat, always⟩)
  | _ => fail
def mItL (f : List D → M Itm) (ms : Env' → M (List D)) (ρ : Env') : M Itm := bnd (ms ρ) f
section
variable {X : Cx} {G : Gx} {W : WX} {σ : St} {φ : List Addr} {H : Hp} {st : Store} {tg : Expr}
theorem pi_or {e : Expr} {t t' : TI} (h : PI X tg e t) (h' : PI X tg e t') : PI X tg e (fun σ H R => t σ H R ∨ t' σ H R) := ⟨fun pins s σ H R I q => q.elim (h.run pins s σ H R I) (h'.run pins s σ H R I)⟩
/-- a list at a, whatever stands there while ck holds -/
theorem itD_list {K : PySem.W.Frag} {φ1 : List Addr} {H1 : Hp} {a : Addr} {it : Itm} (h : ∀ φ H st, Ext φ1 H1 φ H → StOk K G φ H st → it.ck st = true → ∃ vs, SqL K H a vs ∧ RpL K G φ H it.xs vs) : ItD K G φ1 H1 (Itl K a) it := by
  refine ⟨fun φ H st i d x s c e => ?_, fun φ H st x s c => ?_⟩
  · obtain ⟨vs, h1, h2⟩ := h φ H st x s c
    obtain ⟨v, h3, h4⟩ := h2.get e
    refine ⟨⟨vs, v, h1, h3⟩, fun y H' hy => ?_⟩
    obtain ⟨rfl, hy⟩ := hy
    have e2 := (hy vs h1).symm.trans h3
    cases e2
    exact ⟨fun _ _ z => z, h4⟩
  · obtain ⟨vs, h1, h2⟩ := h φ H st x s c
    exact ⟨vs, h1, by rw [h2.length]; exact Nat.le_refl _⟩
theorem itD_tup {K : PySem.W.Frag} {φ1 : List Addr} {H1 : Hp} {a : Addr} {it : Itm} (h : ∀ φ H st, Ext φ1 H1 φ H → StOk K G φ H st → it.ck st = true → ∃ vs, SqT K H a vs ∧ RpL K G φ H it.xs vs) : ItD K G φ1 H1 (Itt K a) it := by
  refine ⟨fun φ H st i d x s c e => ?_, fun φ H st x s c => ?_⟩
  · obtain ⟨vs, h1, h2⟩ := h φ H st x s c
    obtain ⟨v, h3, h4⟩ := h2.get e
    refine ⟨⟨vs, v, h1, h3⟩, fun y H' hy => ?_⟩
    obtain ⟨rfl, hy⟩ := hy
    have e2 := (hy vs h1).symm.trans h3
    cases e2
    exact ⟨fun _ _ z => z, h4⟩
  · obtain ⟨vs, h1, h2⟩ := h φ H st x s c
    exact ⟨vs, h1, by rw [h2.length]; exact Nat.le_refl _⟩
/-- a list's value, walked: where it stands and what it bears -/
theorem lsA_of {d : D} {v : V} {Q : Itm → Store → List Addr → Hp → Prop} (s : StOk X.K G φ H st) (r : Rp X.K G φ H d v) (p : Post X.K G W σ φ H (lsA d st) Q) :
    ∃ a vs it, v = .ref a ∧ SqL X.K H a vs ∧ Q it st φ H ∧ ∀ fx, (∀ a ∈ fx, a ∈ G.fx ∨ H a = none) → ∀ φ' H' st', Ext φ H φ' H' → StOk X.K (G.fl fx) φ' H' st' → it.ck st' = true → ∃ vs, SqL X.K H' a vs ∧ RpL X.K (G.fl fx) φ' H' it.xs vs := by
  cases r with
  | @lst xs a vs hd n z rl =>
    exact ⟨a, vs, ⟨xs, always⟩, rfl, SqL.of hd, postNow (W := W) (σ := σ) s p, fun fx hfx φ' H' st' x s' _ => ⟨vs, SqL.of (x.rd hd n).1, (rl.fl hfx).mono x⟩⟩
  | @cel n a hn =>
    obtain ⟨xs, vs, e1, e2, rl, p2⟩ := celL_of s hn (Post.bind p)
    refine ⟨a, vs, ⟨xs, cellIs n xs⟩, rfl, SqL.of e2, postNow (W := W) (σ := σ) s p2, fun fx hfx φ' H' st' x s' c => ?_⟩
    have c' : cellIs n xs st' = true := c
    unfold cellIs at c'
    cases e : st'[n]? with
    | none => rw [e] at c'; cases c'
    | some cc =>
      rw [e] at c'
      cases cc with
      | lst ys =>
        have ey : ys = xs := D.beqL_eq c'
        subst ey
        obtain ⟨o, h1, h2⟩ := s'.cell n _ a e (x.at hn)
        cases h2 with
        | lst rl => exact ⟨_, SqL.of h1, rl⟩
      | dct _ => cases c'
      | dctL _ => cases c'
      | ins _ _ => cases c'
  | _ => exact p.elim
theorem mi_it {e : Expr} {m : Env' → M D} (h : ME X G W e m) : MI X G W tg e (mIt m) := by
  refine piImp (pi_or (pi_list h) (pi_or (pi_tup h) (pi_str h))) fun σ H R ⟨φ, ρ, st, so, p⟩ => ?_
  have p1 := Post.bind p
  cases em : m ρ st with
  | bad => rw [em] at p1; exact p1.elim
  | exc c st' =>
    left
    refine ⟨φ, ρ, st, so, ?_⟩
    rw [em] at p1 ⊢
    exact p1
  | ok d st' =>
    rw [em] at p1
    have lw : (∀ φ1 H1, Ext φ H φ1 H1 → StOk X.K G φ1 H1 st' → Post X.K G W σ φ1 H1 (lsA d st') fun it _ φ' H' => ∀ J, (∀ fx, (∀ a ∈ fx, a ∈ G.fx ∨ H' a = none) → ItD X.K (G.fl fx) φ' H' J it) → R J H') → iList X.K (tM X.K G W m) σ H R := fun q => by
      refine ⟨φ, ρ, st, so, ?_⟩
      rw [em]
      intro φ1 H1 x1 s1 v r
      obtain ⟨a, vs, it, rfl, h1, q1, h2⟩ := lsA_of s1 r (q φ1 H1 x1 s1)
      exact ⟨a, rfl, ⟨vs, h1⟩, q1 _ fun fx hfx => itD_list (h2 fx hfx)⟩
    cases d with
    | lst xs => exact .inl (lw p1)
    | cel n => exact .inl (lw p1)
    | scr xs =>
      left
      refine ⟨φ, ρ, st, so, ?_⟩
      rw [em]
      intro φ1 H1 x1 s1 v r
      cases r with
      | @scr _ a vs hd rl =>
        have sq : ∀ {φ' : List Addr} {H' : Hp}, Ext φ1 H1 φ' H' → SqL X.K H' a vs := fun {φ' H'} x => (x.scr hd).elim (fun ⟨o, h⟩ => .inl (.inr ⟨o, h⟩)) fun h => h H'
        exact ⟨a, rfl, ⟨vs, sq (Ext.refl _ _)⟩, postNow (W := W) (σ := σ) s1 (p1 φ1 H1 x1 s1) _ fun fx hfx => itD_list fun φ' H' st'' x s' _ => ⟨vs, sq x, (rl.fl hfx).mono x⟩⟩
    | tup xs =>
      refine .inr (.inl ⟨φ, ρ, st, so, ?_⟩)
      rw [em]
      intro φ1 H1 x1 s1 v r
      cases r with
      | @tup _ a vs hs rl => exact ⟨a, rfl, ⟨vs, hs⟩, postNow (W := W) (σ := σ) s1 (p1 φ1 H1 x1 s1) _ fun fx hfx => itD_tup fun φ' H' st'' x s' _ => ⟨vs, x.sqt hs, (rl.fl hfx).mono x⟩⟩
    | str z =>
      refine .inr (.inr ⟨φ, ρ, st, so, ?_⟩)
      rw [em]
      intro φ1 H1 x1 s1 v r
      cases r with
      | str hz =>
        refine ⟨_, rfl, postNow (W := W) (σ := σ) s1 (p1 φ1 H1 x1 s1) _ fun fx hfx => ⟨fun φ' H' st'' i d x s' _ e => ?_, fun φ' H' st'' x s' _ => ?_⟩⟩
        · have e' : (z.map sgn)[i]? = some d := e
          rw [List.getElem?_map] at e'
          cases ez : z[i]? with
          | none => rw [ez] at e'; cases e'
          | some c =>
            rw [ez] at e'
            cases e'
            refine ⟨?_, fun y H2 hy => ?_⟩
            · show i < z.toArray.size
              have := (List.getElem?_eq_some_iff.mp ez).1
              simpa using this
            · obtain ⟨rfl, c2, h1, rfl⟩ := hy
              have h2 : z[i]? = some c2 := by simpa using h1
              rw [ez] at h2
              cases h2
              refine ⟨fun _ _ z => z, .str ?_⟩
              have := List.all_eq_true.mp hz c (List.mem_of_getElem? ez)
              simpa using this
        · show z.toArray.size ≤ (z.map sgn).length
          simp
    | _ =>
      left
      refine ⟨φ, ρ, st, so, ?_⟩
      rw [em]
      exact fun φ1 H1 x1 s1 v r => (p1 φ1 H1 x1 s1).elim
/-! ### enumerate, zip, range -/
theorem enumL_len : ∀ (xs : List D) (k : Nat), (enumL k xs).length = xs.length
  | [], _ => rfl
  | x :: r, k => by
    show (enumL (k + 1) r).length + 1 = r.length + 1
    rw [enumL_len r]
theorem enumL_at : ∀ (xs : List D) (k i : Nat), (enumL k xs)[i]? = xs[i]?.map fun x => .tup [.int ((k + i : Nat) : Int), x]
  | [], _, i => by simp [enumL]
  | x :: r, k, 0 => by simp [enumL]
  | x :: r, k, i + 1 => by
    show (enumL (k + 1) r)[i]? = _
    rw [enumL_at r (k + 1) i]
    show _ = r[i]?.map _
    rw [show k + 1 + i = k + (i + 1) from by omega]
theorem zipL_at : ∀ (xs ys : List D) (i : Nat) (d : D), (zipL xs ys)[i]? = some d → ∃ x y, xs[i]? = some x ∧ ys[i]? = some y ∧ d = .tup [x, y]
  | [], ys, i, d, h => by simp [zipL] at h
  | _ :: _, [], i, d, h => by simp [zipL] at h
  | x :: r, y :: q, 0, d, h => by
    simp [zipL] at h
    exact ⟨x, y, rfl, rfl, h.symm⟩
  | x :: r, y :: q, i + 1, d, h => by
    obtain ⟨a, b, h1, h2, h3⟩ := zipL_at r q i d (by simpa [zipL] using h)
    exact ⟨a, b, h1, h2, h3⟩
theorem zipL_len : ∀ (xs ys : List D), (zipL xs ys).length = min xs.length ys.length
  | [], ys => by simp [zipL]
  | _ :: _, [] => by simp [zipL]
  | x :: r, y :: q => by
    show (zipL r q).length + 1 = min (r.length + 1) (q.length + 1)
    rw [zipL_len r q]
    omega
theorem pair_rp {φ' : List Addr} {H' : Hp} {fx : List Addr} {T : Addr} {d e : D} {x y : V} (n : H' T = none) (h1 : Rp X.K (G.fl fx) φ' H' d x) (h2 : Rp X.K (G.fl fx) φ' H' e y) : (∀ b o, H' b = some o → upd H' T (.tup [x, y]) b = some o) ∧ Rp X.K (G.fl fx) φ' (upd H' T (.tup [x, y])) (.tup [d, e]) (.ref T) :=
  ⟨fun b o h => by rw [upd_ne (ne_of_none h n)]; exact h, rp_tup (G := G.fl fx) n (.cons h1 (.cons h2 .nil))⟩
section
variable {e e2 e3 : Expr} {ms : Env' → M (List D)} {p pos tpos : Pos} {elts : List Expr} {kk : Nat}
theorem mi_enum (hm : X.mg "enumerate" = none) (ha : MA X G W [e] ms) (hg : Gl X "enumerate" := by rfl) (hs : starEach [e] X.env = [(false, eval e X.env)] := by rfl) : MI X G W (.Tuple elts kk tpos) (.Call (.Name "enumerate" p) [e] [] pos) (mItL itEnum ms) := by
  refine piImp (pi_enum hg hm ha hs) fun σ H R ⟨φ, ρ, st, so, pp⟩ => ?_
  refine tML_of so (Post.bind pp) fun ds st1 φ1 H1 vs x1 so1 r1 p1 => ?_
  cases r1 with
  | nil => exact p1.elim
  | cons ra rr =>
    cases rr with
    | cons _ _ => exact p1.elim
    | nil =>
      obtain ⟨a, us, it, rfl, h1, q1, h2⟩ := lsA_of so1.s ra (Post.bind p1)
      refine ⟨a, us, rfl, h1, postNow (W := W) (σ := σ) so1.s q1 _ fun fx hfx => ⟨fun φ' H' st' i d x s c ed => ?_, fun φ' H' st' x s c => ?_⟩⟩
      · have ed' : (enumL 0 it.xs)[i]? = some d := ed
        rw [enumL_at] at ed'
        cases ei : it.xs[i]? with
        | none => rw [ei] at ed'; cases ed'
        | some z =>
          rw [ei] at ed'
          cases ed'
          obtain ⟨ws, w1, w2⟩ := h2 fx hfx φ' H' st' x s c
          obtain ⟨v, h3, h4⟩ := w2.get ei
          refine ⟨⟨ws, v, w1, h3⟩, fun y H2 hy => ?_⟩
          obtain ⟨T, u, rfl, nT, rfl, hu⟩ := hy
          have e2 := (hu ws w1).symm.trans h3
          cases e2
          rw [Nat.zero_add]
          exact pair_rp nT .int h4
      · obtain ⟨ws, w1, w2⟩ := h2 fx hfx φ' H' st' x s c
        refine ⟨ws, w1, ?_⟩
        show ws.length ≤ (enumL 0 it.xs).length
        rw [enumL_len, w2.length]
        exact Nat.le_refl _
theorem mi_zip (hm : X.mg "zip" = none) (ha : MA X G W [e, e2] ms) (hg : Gl X "zip" := by rfl) (hs : starEach [e, e2] X.env = (false, eval e X.env) :: starEach [e2] X.env := by rfl) (hpl : (backTo pos (starEach [e2] X.env)).any (·.1) = false := by rfl) :
    MI X G W (.Tuple elts kk tpos) (.Call (.Name "zip" p) [e, e2] [] pos) (mItL itZip ms) := by
  refine piImp (RZ.pi_zipA hg hm ha hs hpl) fun σ H R ⟨φ, ρ, st, so, pp⟩ => ?_
  refine tML_of so (Post.bind pp) fun ds st1 φ1 H1 vs x1 so1 r1 p1 => ?_
  cases r1 with
  | nil => exact p1.elim
  | cons ra rr =>
    cases rr with
    | nil => exact p1.elim
    | cons rb rr =>
      cases rr with
      | cons _ _ => exact p1.elim
      | nil =>
        have lw : ∀ {d1 d2 : D} {v1 v2 : V}, Rp X.K G φ1 H1 d1 v1 → Rp X.K G φ1 H1 d2 v2 → Post X.K G W σ φ1 H1 (bnd (lsA d1) (fun a => bnd (lsA d2) fun b => ret (Itm.mk (zipL a.xs b.xs) fun st => a.ck st && b.ck st)) st1) (fun it _ φ' H' => ∀ J, (∀ fx, (∀ a ∈ fx, a ∈ G.fx ∨ H' a = none) → ItD X.K (G.fl fx) φ' H' J it) → R J H') →
            ∃ a b xs ys, [v1, v2] = [V.ref a, V.ref b] ∧ ((SqL X.K H1 a xs ∧ SqL X.K H1 b ys ∧ R (Itz X.K a b) H1) ∨ (SqT X.K H1 a xs ∧ SqT X.K H1 b ys ∧ R (RZ.ItzT X.K a b) H1)) := fun ra rb p1 => by
          obtain ⟨a, us, it, rfl, h1, q1, h2⟩ := lsA_of so1.s ra (Post.bind p1)
          obtain ⟨b, us', it', rfl, h1', q1', h2'⟩ := lsA_of so1.s rb (Post.bind q1)
          refine ⟨a, b, us, us', rfl, .inl ⟨h1, h1', postNow (W := W) (σ := σ) so1.s q1' _ fun fx hfx => ⟨fun φ' H' st' i d x s c ed => ?_, fun φ' H' st' x s c => ?_⟩⟩⟩
          · obtain ⟨c1, c2⟩ := Bool.and_eq_true_iff.mp c
            obtain ⟨z, z', ez, ez', rfl⟩ := zipL_at _ _ i d ed
            obtain ⟨ws, w1, w2⟩ := h2 fx hfx φ' H' st' x s c1
            obtain ⟨ws', w1', w2'⟩ := h2' fx hfx φ' H' st' x s c2
            obtain ⟨v, h3, h4⟩ := w2.get ez
            obtain ⟨v', h3', h4'⟩ := w2'.get ez'
            refine ⟨⟨ws, ws', v, v', w1, w1', h3, h3'⟩, fun y H2 hy => ?_⟩
            obtain ⟨T, u, u', rfl, nT, rfl, hu, hu'⟩ := hy
            have e2 := (hu ws w1).symm.trans h3
            have e2' := (hu' ws' w1').symm.trans h3'
            cases e2
            cases e2'
            exact pair_rp nT h4 h4'
          · obtain ⟨c1, c2⟩ := Bool.and_eq_true_iff.mp c
            obtain ⟨ws, w1, w2⟩ := h2 fx hfx φ' H' st' x s c1
            obtain ⟨ws', w1', w2'⟩ := h2' fx hfx φ' H' st' x s c2
            refine ⟨ws, ws', w1, w1', ?_⟩
            show ws.length ≤ (zipL it.xs it'.xs).length ∨ ws'.length ≤ (zipL it.xs it'.xs).length
            rw [zipL_len, w2.length, w2'.length]
            omega
        rename_i d1 v1 d2 v2
        cases ra with
        | @tup xs a us hs rl =>
          cases rb with
          | @tup ys b us' hs' rl' =>
            refine ⟨a, b, us, us', rfl, .inr ⟨hs, hs', postNow (W := W) (σ := σ) so1.s p1 _ fun fx hfx => ⟨fun φ' H' st' i d x s c ed => ?_, fun φ' H' st' x s c => ?_⟩⟩⟩
            · obtain ⟨z, z', ez, ez', rfl⟩ := zipL_at _ _ i d ed
              obtain ⟨v, h3, h4⟩ := (((rl.fl hfx).mono x)).get ez
              obtain ⟨v', h3', h4'⟩ := (((rl'.fl hfx).mono x)).get ez'
              refine ⟨⟨us, us', v, v', x.sqt hs, x.sqt hs', h3, h3'⟩, fun y H2 hy => ?_⟩
              obtain ⟨T, u, u', rfl, nT, rfl, hu, hu'⟩ := hy
              have e2 := (hu us (x.sqt hs)).symm.trans h3
              have e2' := (hu' us' (x.sqt hs')).symm.trans h3'
              cases e2
              cases e2'
              exact pair_rp nT h4 h4'
            · refine ⟨us, us', x.sqt hs, x.sqt hs', ?_⟩
              show us.length ≤ (zipL xs ys).length ∨ us'.length ≤ (zipL xs ys).length
              rw [zipL_len, rl.length, rl'.length]
              omega
          | _ => exact p1.elim
        | lst a b c d => exact lw (.lst a b c d) rb p1
        | cel h => exact lw (.cel h) rb p1
        | _ => exact p1.elim
theorem itD_rng {K : PySem.W.Frag} {φ1 : List Addr} {H1 : Hp} {lo : Int} {n : Nat} : ItD K G φ1 H1 (Itr lo n) ⟨rngL lo n, always⟩ := by
  refine ⟨fun φ H st i d x s c e => ?_, fun φ H st x s c => by show n ≤ (rngL lo n).length; simp [rngL]⟩
  have e' : ((List.range n).map fun i => D.int (lo + (i : Nat)))[i]? = some d := e
  rw [List.getElem?_map] at e'
  by_cases hi : i < n
  · rw [List.getElem?_range hi] at e'
    cases e'
    refine ⟨hi, fun y H' hy => ?_⟩
    obtain ⟨rfl, rfl⟩ := hy
    exact ⟨fun _ _ z => z, .int⟩
  · rw [List.getElem?_eq_none (by simpa using hi)] at e'
    cases e'
theorem itD_rngC {K : PySem.W.Frag} {φ1 : List Addr} {H1 : Hp} {lo c : Int} {n : Nat} : ItD K G φ1 H1 (Itc lo c n) ⟨rngC lo c n, always⟩ := by
  refine ⟨fun φ H st i d x s c' e => ?_, fun φ H st x s c' => by show n ≤ (rngC lo c n).length; simp [rngC]⟩
  have e' : ((List.range n).map fun i => D.int (lo + (i : Nat) * c))[i]? = some d := e
  rw [List.getElem?_map] at e'
  by_cases hi : i < n
  · rw [List.getElem?_range hi] at e'
    cases e'
    refine ⟨hi, fun y H' hy => ?_⟩
    obtain ⟨rfl, rfl⟩ := hy
    exact ⟨fun _ _ z => z, .int⟩
  · rw [List.getElem?_eq_none (by simpa using hi)] at e'
    cases e'
theorem rOk_c {j : Int} (h : rOk j = true) : -(2 ^ 62) ≤ j ∧ j < 2 ^ 62 := by
  obtain ⟨h1, h2⟩ := Bool.and_eq_true_iff.mp h
  exact ⟨of_decide_eq_true h1, of_decide_eq_true h2⟩
theorem mi_range1 (hm : X.mg "range" = none) (ha : MA X G W [e] ms) (hg : Gl X "range" := by rfl) (hs : starEach [e] X.env = [(false, eval e X.env)] := by rfl) : MI X G W tg (.Call (.Name "range" p) [e] [] pos) (mItL itR1 ms) := by
  refine piImp (pi_range1 hg hm ha hs) fun σ H R ⟨φ, ρ, st, so, pp⟩ => ?_
  refine tML_of so (Post.bind pp) fun ds st1 φ1 H1 vs x1 so1 r1 p1 => ?_
  cases r1 with
  | nil => exact p1.elim
  | cons ra rr =>
    cases ra with
    | int => cases rr with
      | nil =>
        obtain ⟨c, p2⟩ := Post.chk p1
        exact ⟨_, rfl, (rOk_c c).1, (rOk_c c).2, postNow (W := W) (σ := σ) so1.s p2 _ fun fx hfx => itD_rng⟩
      | cons _ _ => exact p1.elim
    | _ => exact p1.elim
theorem mi_range2 (hm : X.mg "range" = none) (ha : MA X G W [e, e2] ms) (hg : Gl X "range" := by rfl) (hs : starEach [e, e2] X.env = [(false, eval e X.env), (false, eval e2 X.env)] := by rfl) (hs2 : starEach [e2] X.env = [(false, eval e2 X.env)] := by rfl) : MI X G W tg (.Call (.Name "range" p) [e, e2] [] pos) (mItL itR2 ms) := by
  refine piImp (pi_range2 hg hm ha hs hs2) fun σ H R ⟨φ, ρ, st, so, pp⟩ => ?_
  refine tML_of so (Post.bind pp) fun ds st1 φ1 H1 vs x1 so1 r1 p1 => ?_
  cases r1 with
  | nil => exact p1.elim
  | cons ra rr =>
    cases ra with
    | int => cases rr with
      | nil => exact p1.elim
      | cons rb rr => cases rb with
        | int => cases rr with
          | nil =>
            obtain ⟨c, p2⟩ := Post.chk p1
            obtain ⟨c1, c2⟩ := Bool.and_eq_true_iff.mp c
            exact ⟨_, _, rfl, ⟨(rOk_c c1).1, (rOk_c c1).2, (rOk_c c2).1, (rOk_c c2).2⟩, postNow (W := W) (σ := σ) so1.s p2 _ fun fx hfx => itD_rng⟩
          | cons _ _ => exact p1.elim
        | _ => exact p1.elim
    | _ => cases rr <;> exact p1.elim
theorem mi_range3 (hm : X.mg "range" = none) (ha : MA X G W [e, e2, e3] ms) (hg : Gl X "range" := by rfl) (hs : starEach [e, e2, e3] X.env = (false, eval e X.env) :: starEach [e2, e3] X.env := by rfl) (hs2 : (backTo pos (starEach [e2, e3] X.env)).any (·.1) = false := by rfl) : MI X G W tg (.Call (.Name "range" p) [e, e2, e3] [] pos) (mItL itR3 ms) := by
  refine piImp (pi_range3 hg hm ha hs hs2) fun σ H R ⟨φ, ρ, st, so, pp⟩ => ?_
  refine tML_of so (Post.bind pp) fun ds st1 φ1 H1 vs x1 so1 r1 p1 => ?_
  have key : ∀ {i j c : Int}, Post X.K G W σ φ1 H1 (itR3 [.int i, .int j, .int c] st1) (fun it _ φ' H' => ∀ J, (∀ fx, (∀ a ∈ fx, a ∈ G.fx ∨ H' a = none) → ItD X.K (G.fl fx) φ' H' J it) → R J H') → ∃ i' j' c' n, [V.int i, V.int j, V.int c] = [V.int i', V.int j', V.int c'] ∧ RgC i' j' c' n ∧ R (Itc i' c' n) H1 := fun {i j c} p1 => by
    obtain ⟨k, p2⟩ := Post.chk p1
    obtain ⟨k1, k4⟩ := Bool.and_eq_true_iff.mp k
    obtain ⟨k2, k3⟩ := Bool.and_eq_true_iff.mp k1
    obtain ⟨k5, k6⟩ := Bool.and_eq_true_iff.mp k2
    exact ⟨i, j, c, _, rfl, ⟨of_decide_eq_true k5, of_decide_eq_true k6, k3, (Int.toNat_of_nonneg (of_decide_eq_true k4)).symm⟩, postNow (W := W) (σ := σ) so1.s p2 _ fun fx hfx => itD_rngC⟩
  cases r1 with
  | nil => exact p1.elim
  | cons ra rr =>
    cases rr with
    | nil => cases ra <;> exact p1.elim
    | cons rb rr =>
      cases rr with
      | nil => cases ra <;> first | exact p1.elim | (cases rb <;> exact p1.elim)
      | cons rc rr =>
        cases rr with
        | nil =>
          cases ra with
          | int => cases rb with
            | int => cases rc with
              | int => exact key p1
              | _ => exact p1.elim
            | _ => exact p1.elim
          | _ => exact p1.elim
        | cons _ _ => cases ra <;> first | exact p1.elim | (cases rb <;> first | exact p1.elim | (cases rc <;> exact p1.elim))
end
/-! ### isinstance of a built-in class -/
def dIsStr : D → M D
  | .str _ => ret (.bl true)
  | .fn _ => fail
  | .hof => fail
  | .cel _ => fail
  | _ => ret (.bl false)
def dIsInt : D → M D
  | .int _ => ret (.bl true)
  | .bl _ => ret (.bl true)
  | .fn _ => fail
  | .hof => fail
  | .cel _ => fail
  | _ => ret (.bl false)
def dIsBool : D → M D
  | .bl _ => ret (.bl true)
  | .fn _ => fail
  | .hof => fail
  | .cel _ => fail
  | _ => ret (.bl false)
def dIsTup : D → M D
  | .tup _ => ret (.bl true)
  | .fn _ => fail
  | .hof => fail
  | .cel _ => fail
  | _ => ret (.bl false)
def kindV (K : PySem.W.Frag) (H : Hp) (d : D) (v : V) (T : String) : Prop := TyX K H v (.type T)
/-- what the four tests say of a kind -/
theorem isi_of {d : D} {v : V} (r : Rp X.K G φ H d v) : (∀ n, d ≠ .cel n) → (∀ n, d ≠ .fn n) → d ≠ .hof → ∃ T, TyX X.K H v (.type T) ∧
    (∃ b, kitB T "str" = some b ∧ dIsStr d st = .ok (.bl b) st) ∧ (∃ b, kitB T "int" = some b ∧ dIsInt d st = .ok (.bl b) st) ∧ (∃ b, kitB T "bool" = some b ∧ dIsBool d st = .ok (.bl b) st) ∧ (∃ b, kitB T "tuple" = some b ∧ dIsTup d st = .ok (.bl b) st) := fun n1 n2 n3 => by
  cases r with
  | non => exact ⟨_, .base .non, ⟨false, by decide +kernel, rfl⟩, ⟨false, by decide +kernel, rfl⟩, ⟨false, by decide +kernel, rfl⟩, ⟨false, by decide +kernel, rfl⟩⟩
  | bl => exact ⟨_, .base (.bl _), ⟨false, by decide +kernel, rfl⟩, ⟨true, by decide +kernel, rfl⟩, ⟨true, by decide +kernel, rfl⟩, ⟨false, by decide +kernel, rfl⟩⟩
  | int => exact ⟨_, .base (.int _), ⟨false, by decide +kernel, rfl⟩, ⟨true, by decide +kernel, rfl⟩, ⟨false, by decide +kernel, rfl⟩, ⟨false, by decide +kernel, rfl⟩⟩
  | str => exact ⟨_, .base (.str _), ⟨true, by decide +kernel, rfl⟩, ⟨false, by decide +kernel, rfl⟩, ⟨false, by decide +kernel, rfl⟩, ⟨false, by decide +kernel, rfl⟩⟩
  | tup hs rl =>
    refine ⟨"tuple", ?_, ⟨false, by decide +kernel, rfl⟩, ⟨false, by decide +kernel, rfl⟩, ⟨false, by decide +kernel, rfl⟩, ⟨true, by decide +kernel, rfl⟩⟩
    rcases hs with (hs | ⟨o, hs⟩) | ⟨o, its, n, h1, h2, _⟩
    · exact .base (.tup hs)
    · exact .fTuple hs
    · exact .kTuple h1 h2
  | lst hs => exact ⟨_, .base (.lst hs), ⟨false, by decide +kernel, rfl⟩, ⟨false, by decide +kernel, rfl⟩, ⟨false, by decide +kernel, rfl⟩, ⟨false, by decide +kernel, rfl⟩⟩
  | scr hs =>
    refine ⟨"list", ?_, ⟨false, by decide +kernel, rfl⟩, ⟨false, by decide +kernel, rfl⟩, ⟨false, by decide +kernel, rfl⟩, ⟨false, by decide +kernel, rfl⟩⟩
    rcases hs with ⟨o, hs⟩ | hs
    · exact .base (.frz hs)
    · rcases hs (fun _ => none) with (hs | ⟨o, hs⟩) | ⟨o, its, n, h1, h2, _⟩
      · cases hs
      · cases hs
      · exact .kList h1 h2
  | cel => exact absurd rfl (n1 _)
  | fn => exact absurd rfl (n2 _)
  | hof => exact absurd rfl n3
section
variable {e : Expr} {m : Env' → M D} {T : String} {g : D → M D} {x : Str} {p p2 pos : Pos}
theorem me_isi (hx : x = Str.ofString T) (hT : bootBuiltins x = some (.type T)) (hg : ∀ d v φ H st, Rp X.K G φ H d v → (g d st = .bad) ∨ ∃ T' b, TyX X.K H v (.type T') ∧ kitB T' T = some b ∧ g d st = .ok (.bl b) st) (h1 : X.mg "isinstance" = none) (h2 : X.mg x = none) (h : ME X G W e m)
    (g1 : Gl X "isinstance" := by rfl) (g2 : Gl X x := by rfl) (hn : x ≠ "__name__" := by decide) (hdb : (x == ("__debug__" : Str)) = false := by decide)
    (s1 : starEach [e, .Name x p2] X.env = (false, eval e X.env) :: starEach [.Name x p2] X.env := by rfl) (s2 : starEach [.Name x p2] X.env = (false, eval (.Name x p2) X.env) :: starEach [] X.env := by rfl)
    (hpl : (backTo pos (starEach [.Name x p2] X.env)).any (·.1) = false := by rfl) : ME X G W (.Call (.Name "isinstance" p) [e, .Name x p2] [] pos) (m1 g m) := by
  refine peImp (pe_callB call_isi g1 h1 (by decide +kernel) (pa_cons h (pa_cons (pe_bltn (v := .ty T) g2 h2 hT rfl hn hdb) pa_nil s2) s1) (by decide) (by decide) s1 hpl) fun σ H Q ⟨φ, ρ, st, so, p⟩ => ?_
  refine tM_of so (Post.bind p) fun d1 st1 φ1 H1 v1 x1 so1 r1 p1 => ?_
  rcases hg d1 v1 φ1 H1 st1 r1 with e0 | ⟨T', b, t1, t2, t3⟩
  · rw [e0] at p1
    exact p1.elim
  · rw [t3] at p1
    exact ⟨v1, .ty T, .type T', .type T, b, rfl, .ty T, t1, kit_ty t2, p1 φ1 H1 (Ext.refl _ _) so1.s _ .bl⟩
theorem isi_str (d : D) (v : V) (φ : List Addr) (H : Hp) (st : Store) (r : Rp X.K G φ H d v) : (dIsStr d st = .bad) ∨ ∃ T' b, TyX X.K H v (.type T') ∧ kitB T' "str" = some b ∧ dIsStr d st = .ok (.bl b) st := by
  cases d with
  | cel n => exact .inl rfl
  | fn n => exact .inl rfl
  | hof => exact .inl rfl
  | _ =>
    obtain ⟨T, t, ⟨b, h1, h2⟩, _⟩ := isi_of (st := st) r (fun _ z => by cases z) (fun _ z => by cases z) (fun z => by cases z)
    exact .inr ⟨T, b, t, h1, h2⟩
theorem isi_int (d : D) (v : V) (φ : List Addr) (H : Hp) (st : Store) (r : Rp X.K G φ H d v) : (dIsInt d st = .bad) ∨ ∃ T' b, TyX X.K H v (.type T') ∧ kitB T' "int" = some b ∧ dIsInt d st = .ok (.bl b) st := by
  cases d with
  | cel n => exact .inl rfl
  | fn n => exact .inl rfl
  | hof => exact .inl rfl
  | _ =>
    obtain ⟨T, t, _, ⟨b, h1, h2⟩, _⟩ := isi_of (st := st) r (fun _ z => by cases z) (fun _ z => by cases z) (fun z => by cases z)
    exact .inr ⟨T, b, t, h1, h2⟩
theorem isi_bool (d : D) (v : V) (φ : List Addr) (H : Hp) (st : Store) (r : Rp X.K G φ H d v) : (dIsBool d st = .bad) ∨ ∃ T' b, TyX X.K H v (.type T') ∧ kitB T' "bool" = some b ∧ dIsBool d st = .ok (.bl b) st := by
  cases d with
  | cel n => exact .inl rfl
  | fn n => exact .inl rfl
  | hof => exact .inl rfl
  | _ =>
    obtain ⟨T, t, _, _, ⟨b, h1, h2⟩, _⟩ := isi_of (st := st) r (fun _ z => by cases z) (fun _ z => by cases z) (fun z => by cases z)
    exact .inr ⟨T, b, t, h1, h2⟩
theorem isi_tup (d : D) (v : V) (φ : List Addr) (H : Hp) (st : Store) (r : Rp X.K G φ H d v) : (dIsTup d st = .bad) ∨ ∃ T' b, TyX X.K H v (.type T') ∧ kitB T' "tuple" = some b ∧ dIsTup d st = .ok (.bl b) st := by
  cases d with
  | cel n => exact .inl rfl
  | fn n => exact .inl rfl
  | hof => exact .inl rfl
  | _ =>
    obtain ⟨T, t, _, _, _, ⟨b, h1, h2⟩⟩ := isi_of (st := st) r (fun _ z => by cases z) (fun _ z => by cases z) (fun z => by cases z)
    exact .inr ⟨T, b, t, h1, h2⟩
end
/-! ### raise X('..') -/
def sRaise (c : Nat) : MS := fun ρ st => .exc c ρ st
theorem st_raise {x m : Str} {j c : Nat} {C : Addr} {p p2 pos pos2 : Pos} {bmB : List Value} {B newId initId : String} (hc : X.calm = true) (tk : L2N.Takes X W) (F : ExcBaseFacts B newId initId bmB) (q : PySem.W.excIn X.K C bmB newId = true) (gC : X.mg x = some (.ref C)) (kC : PySem.W.keepIn X.K (.ref C) = true)
    (r : Raises X (.ref C)) (hC : G.tb.exs c = C) (hg : Gl X x := by rfl) (hdb : (x == ("__debug__" : Str)) = false := by decide) : ST X G W (.Raise (some (.Call (.Name x p) [.Constant (.str m) j p2] [] pos)) none pos2) (sRaise c) := by
  refine psImp (L2N.ps_raise hc tk (L2N.pmk_own F q gC kC r hg hdb)) fun De σ H ⟨φ, ρ, st, so, pp⟩ => ?_
  have := pp φ H σ (Ext.refl _ _) so
  rw [hC] at this
  exact this
end
end DL

namespace DL
open PySem PySem.Spec PyProof.Rows L2
/-! ### what the printed walks lean on -/
/-- a def of the module under its name, its promise -/
def Cal (P : Program) (w : World) (K : PySem.W.Frag) (mg : Str → Option Value) (base : Heap) (k : Nat) (x : Str) (sp : Sp) : Prop :=
  ∃ fd ps, FnOk P w K mg base (L2N.CX P w) k (He.ga K x) fd ps sp ∧ L2.Binds K fd ps [] ∧ PySem.W.keepIn K (.ref (He.ga K x)) = true ∧ mg x = some (.ref (He.ga K x))
section
variable {X : Cx} {G : Gx} {W : WX} {j k n i : Nat} {m : List D → M D} {x : Str} {p pos : Pos}
theorem me_cal {e : Expr} {es : List Expr} {ms : Env' → M (List D)} (c : Cal X.prog X.w X.K X.mg X.base k x (spM X.K G n m)) (hr : Room j X.A) (hk : k ≤ j) (tk : L2N.Takes X W) (ha : MA X G W (e :: es) ms) (hg : Gl X x := by rfl) (hdb : (x == ("__debug__" : Str)) = false := by decide)
    (he : starEach (e :: es) X.env = (false, eval e X.env) :: starEach es X.env := by rfl) (hpl : (backTo pos (starEach es X.env)).any (·.1) = false := by rfl) : ME X G W (.Call (.Name x p) (e :: es) [] pos) (mCall n m ms) := by
  obtain ⟨fd, ps, F, b, kp, mx⟩ := c
  exact me_call F (hr.mono hk) mx kp b tk ha hg hdb he hpl
theorem me_cal0 (c : Cal X.prog X.w X.K X.mg X.base k x (spM X.K G 0 m)) (hr : Room j X.A) (hk : k ≤ j) (hg : Gl X x := by rfl) (hdb : (x == ("__debug__" : Str)) = false := by decide) : ME X G W (.Call (.Name x p) [] [] pos) (mCall0 m) := by
  obtain ⟨fd, ps, F, b, kp, mx⟩ := c
  exact me_call0 F (hr.mono hk) mx kp b hg hdb
/-- a number of the module -/
theorem me_gi {v : Int} (h : ∃ t, X.mg x = some (.int v t)) (hg : Gl X x := by rfl) (hdb : (x == ("__debug__" : Str)) = false := by decide) : ME X G W (.Name x pos) (cst (.int v)) := by
  obtain ⟨t, h⟩ := h
  exact me_c (pe_glob (v := .int v) hg h ⟨t, rfl⟩ hdb) fun _ _ => .int
/-- a def as a value -/
theorem me_gfn {f : Addr} (h : X.mg x = some (.ref f)) (hf : G.tb.fns[k]? = some f) (hg : Gl X x := by rfl) (hdb : (x == ("__debug__" : Str)) = false := by decide) : ME X G W (.Name x pos) (cst (.fn k)) :=
  me_c (pe_glob (v := .ref f) hg h rfl hdb) fun _ _ => .fn hf
theorem v_ (i : Nat) (hN : X.N[i]? = some x := by rfl) (hv : Vis X.env.scope x := by first | exact Or.inl rfl | exact Or.inr (Or.inl rfl) | exact Or.inr (Or.inr rfl)) (hd : (x == ("__debug__" : Str)) = false := by decide)
    (hcd : (x == ("__classdict__" : Str)) = false := by decide) : ME X G W (.Name x pos) (vr i) := me_vr (pe_var hN hv hd hcd)
theorem g_ (i : Nat) (nd : X.N.Nodup) (hi : X.N[i]? = some x := by rfl) (hx : Loc X.env.scope x := by first | exact Or.inl rfl | exact Or.inr rfl) (hf : X.fn x = true ∨ X.env.scope.names.lookup x = some .local := by first | exact .inl rfl | exact .inr rfl) :
    GT X G (.Name x pos) (gNm i) := gt_name (pg_name nd hi hx hf)
theorem pn_ (i : Nat) (nd : X.N.Nodup) (hi : X.N[i]? = some x := by rfl) (hx : Loc X.env.scope x := by first | exact Or.inl rfl | exact Or.inr rfl) (hf : X.fn x = true ∨ X.env.scope.names.lookup x = some .local := by first | exact .inl rfl | exact .inr rfl) :
    PG X (.Name x pos) (gName i) := pg_name nd hi hx hf
end
theorem hu65 {k : Nat} {A : Around} (hr : Room k A) : A.units + 65 < cLine := by have := hr.un; omega
theorem hu64 {k : Nat} {A : Around} (hr : Room k A) : A.units + 64 < cLine := by have := hr.un; omega
/-- so many turns as the number in a slot tells -/
def fuelN (i : Nat) : Env' → Store → Nat := fun ρ _ => match ρ[i]? with
  | some (some (.int k)) => k.natAbs + 2
  | _ => 0
end DL

namespace DL
open PySem PySem.Spec PyProof.Rows L2
/-! ### values without the handed def -/
mutual
def D.nh : D → Bool
  | .hof => false
  | .tup xs => D.nhL xs
  | .lst xs => D.nhL xs
  | .scr xs => D.nhL xs
  | _ => true
def D.nhL : List D → Bool
  | [] => true
  | x :: xs => D.nh x && D.nhL xs
end
def nhF : List (Str × D) → Bool
  | [] => true
  | p :: r => D.nh p.2 && nhF r
def nhK : List (Key × D) → Bool
  | [] => true
  | p :: r => D.nh p.2 && nhK r
def Cell.nh : Cell → Bool
  | .lst xs => D.nhL xs
  | .dct kvs => nhK kvs
  | .dctL kvs => nhK kvs
  | .ins _ fs => nhF fs
def nhS : Store → Bool
  | [] => true
  | c :: r => Cell.nh c && nhS r
theorem nhS_at : ∀ {st : Store} {n : Nat} {c : Cell}, nhS st = true → st[n]? = some c → Cell.nh c = true
  | [], _, _, _, e => by simp at e
  | a :: r, 0, c, h, e => by
    have e1 : a = c := Option.some.inj e
    subst e1
    exact (Bool.and_eq_true_iff.mp h).1
  | a :: r, n + 1, c, h, e => nhS_at (Bool.and_eq_true_iff.mp h).2 (show r[n]? = some c from e)
section
variable {K : PySem.W.Frag} {G G' : Gx} {φ : List Addr} {H : Hp}
mutual
theorem Rp.sw (e : G'.tb = G.tb) (ef : G'.fx = G.fx) : ∀ {d : D} {v : V}, D.nh d = true → Rp K G φ H d v → Rp K G' φ H d v
  | _, _, _, .non => .non
  | _, _, _, .bl => .bl
  | _, _, _, .int => .int
  | _, _, _, .str h => .str h
  | .tup xs, _, h, .tup a r => .tup a (RpL.sw e ef (by simpa [D.nh] using h) r)
  | .lst xs, _, h, .lst a n z r => .lst a n (by rw [ef]; exact z) (RpL.sw e ef (by simpa [D.nh] using h) r)
  | .scr xs, _, h, .scr a r => .scr a (RpL.sw e ef (by simpa [D.nh] using h) r)
  | _, _, _, .cel h => .cel h
  | _, _, _, .fn h => .fn (by rw [e]; exact h)
  | .hof, _, h, .hof _ => by simp [D.nh] at h
theorem RpL.sw (e : G'.tb = G.tb) (ef : G'.fx = G.fx) : ∀ {ds : List D} {vs : List V}, D.nhL ds = true → RpL K G φ H ds vs → RpL K G' φ H ds vs
  | _, _, _, .nil => .nil
  | _, _, h, .cons a r => by
    have h1 := Bool.and_eq_true_iff.mp (show (_ && _) = true from h)
    exact .cons (Rp.sw e ef h1.1 a) (RpL.sw e ef h1.2 r)
end
theorem RpF.sw (e : G'.tb = G.tb) (ef : G'.fx = G.fx) : ∀ {ds : List (Str × D)} {vs : List (Str × V)}, nhF ds = true → RpF K G φ H ds vs → RpF K G' φ H ds vs
  | _, _, _, .nil => .nil
  | _, _, h, .cons a r => by
    have h1 := Bool.and_eq_true_iff.mp (show (_ && _) = true from h)
    exact .cons (Rp.sw e ef h1.1 a) (RpF.sw e ef h1.2 r)
theorem RpK.sw (e : G'.tb = G.tb) (ef : G'.fx = G.fx) : ∀ {ds : List (Key × D)} {vs : List (Key × V)}, nhK ds = true → RpK K G φ H ds vs → RpK K G' φ H ds vs
  | _, _, _, .nil => .nil
  | _, _, h, .cons a r => by
    have h1 := Bool.and_eq_true_iff.mp (show (_ && _) = true from h)
    exact .cons (Rp.sw e ef h1.1 a) (RpK.sw e ef h1.2 r)
theorem CellOk.sw (e : G'.tb = G.tb) (ef : G'.fx = G.fx) {c : Cell} {o : HO} (n : Cell.nh c = true) (h : CellOk K G φ H c o) : CellOk K G' φ H c o := by
  cases h with
  | lst r => exact .lst (r.sw e ef n)
  | dct r => exact .dct (r.sw e ef n)
  | dctZ r => exact .dctZ (r.sw e ef n)
  | ins r =>
    rw [← e]
    exact .ins (r.sw e ef n)
theorem StOk.sw {st : Store} (e : G'.tb = G.tb) (ef : G'.fx = G.fx) (n : nhS st = true) (s : StOk K G φ H st) (a : Ext G'.φ0 G'.H0 φ H) : StOk K G' φ H st where
  len := s.len
  nd := s.nd
  cell := fun i c b h1 h2 => by
    obtain ⟨o, q, r⟩ := s.cell i c b h1 h2
    exact ⟨o, q, r.sw e ef (nhS_at n h1)⟩
  tabs := by rw [e]; exact s.tabs
  anc := a
  fx := by rw [ef]; exact s.fx
  fd := by rw [ef]; exact s.fd
end
/-- neither the handed def in it, nor in what stands -/
def hfr (m : M D) : M D := fun st => match nhS st with
  | false => .bad
  | true => (match m st with
    | .ok d st' => (match D.nh d && nhS st' with
      | true => .ok d st'
      | false => .bad)
    | .exc c st' => (match nhS st' with
      | true => .exc c st'
      | false => .bad)
    | .bad => .bad)
theorem hfr_nh {m : M D} {st : Store} (h : hfr m st ≠ .bad) : nhS st = true := by
  unfold hfr at h
  cases q : nhS st with
  | true => rfl
  | false => rw [q] at h; exact absurd rfl h
theorem Post.sw {K : PySem.W.Frag} {G G' : Gx} {W : WX} {σ : St} {φ : List Addr} {H : Hp} {m : M D} {st : Store} {Q : VK} (e : G'.tb = G.tb) (ef : G'.fx = G.fx) (a : Ext G'.φ0 G'.H0 φ H)
    (h : Post K G' W σ φ H (hfr m st) fun d _ φ' H' => ∀ v, Rp K G' φ' H' d v → Q v H') : nhS st = true ∧ Post K G W σ φ H (m st) fun d _ φ' H' => ∀ v, Rp K G φ' H' d v → Q v H' := by
  have hb : hfr m st ≠ .bad := fun q => by rw [q] at h; exact h.elim
  have n := hfr_nh hb
  refine ⟨n, ?_⟩
  unfold hfr at h
  rw [n] at h
  cases q : m st with
  | ok d st' =>
    rw [q] at h
    cases k : D.nh d && nhS st' with
    | false => simp only [k] at h; exact h.elim
    | true =>
      simp only [k] at h
      obtain ⟨k1, k2⟩ := Bool.and_eq_true_iff.mp k
      exact fun φ2 H2 x s v r => h φ2 H2 x (s.sw e ef k2 (a.trans x)) v (r.sw e ef k1)
  | exc c st' =>
    rw [q] at h
    cases k : nhS st' with
    | false => simp only [k] at h; exact h.elim
    | true =>
      simp only [k] at h
      intro φ2 H2 x s
      have := h φ2 H2 x (s.sw e ef k (a.trans x))
      rw [e] at this
      exact this
  | bad => rw [q] at h; exact h.elim
/-! ### the end of a def's body, from its run -/
theorem runB_post {K : PySem.W.Frag} {G : Gx} {E : XK} {φ : List Addr} {H : Hp} {fr : Bool} {len n : Nat} {b : MS} {ds : List D} {st0 : Store} {Q : VK} (so : StOk K G φ H st0)
    (p : Post K G (WofE E) [] φ H (runB fr len n b ds st0) fun d _ φ' H' => ∀ v, Rp K G φ' H' d v → Q v H') : PostS K G (WofE E) φ H (b (ds.map some ++ List.replicate (len - n) none) st0) { nx := fun _ H' => Q .non H', rt := Q } := by
  unfold runB at p
  cases c : decide (ds.length = n) with
  | false => rw [c] at p; exact p.elim
  | true =>
    rw [c] at p
    cases q : b (ds.map some ++ List.replicate (len - n) none) st0 with
    | nx ρ' st' =>
      rw [q] at p
      intro φ' H' σ' x' s'
      cases fr with
      | true => exact endOk_post so x' s'.s .non p
      | false => exact p φ' H' x' s'.s _ .non
    | rt d st' =>
      rw [q] at p
      intro φ' H' v x' s' r
      cases fr with
      | true => exact endOk_post so x' s' r p
      | false => exact p φ' H' x' s' _ r
    | exc c ρ' st' =>
      rw [q] at p
      intro φ' H' σ' x' s'
      cases fr with
      | true => exact endEx_post (σ := []) so x' s'.s p
      | false => exact p φ' H' x' s'.s
    | bk _ _ => rw [q] at p; exact p.elim
    | ct _ _ => rw [q] at p; exact p.elim
    | bad => rw [q] at p; exact p.elim
/-! ### a lambda is made -/
section
variable {X : Cx} {pins : List (Addr × Obj)} {σ : L2.St} {H : Hp} {s : Shared}
/-- what the making leaves -/
def LamH (P c' : Addr) (q : Str) (H H1 : Hp) : Prop := H1 = H ∨ ∃ ps more, H P = some (.tbl ps) ∧ H c' = none ∧ H1 = upd (upd H P (.tbl (ps ++ more))) c' (LamX.CodeO c' q)
theorem LamH.keep {P c' : Addr} {q : Str} {H H1 : Hp} (l : LamH P c' q H H1) {b : Addr} {o : HO} (h : H b = some o) (n : ∀ ps, o ≠ .tbl ps) : H1 b = some o := by
  rcases l with rfl | ⟨ps, more, e1, e2, rfl⟩
  · exact h
  · rw [upd_ne (ne_of_none h e2), upd_ne (fun z => by rw [z, e1] at h; exact n ps (Option.some.inj h).symm)]
    exact h
theorem LamH.ext {P c' : Addr} {q : Str} {H H1 : Hp} {φ : List Addr} (l : LamH P c' q H H1) : Ext φ H φ H1 := by
  refine ⟨⟨[], by simp, by simp⟩, fun a o h _ n => l.keep h n, fun a xs h => l.keep h (fun _ z => by cases z), fun a o u h => l.keep h (fun _ z => by cases z), fun a h => ?_⟩
  rcases l with rfl | ⟨ps, more, e1, e2, rfl⟩
  · exact h
  · by_cases h1 : a = c'
    · rw [h1, upd_same]
      simp
    · rw [upd_ne h1]
      by_cases h2 : a = P
      · rw [h2, upd_same]
        simp
      · rw [upd_ne h2]
        exact h
theorem lam_makeD {T : List (Addr × Str)} {c P : Addr} {params : Arguments} {body : Expr} {scope : Scope} {pos : Pos} {E : Value → Shared → Prop} {Q : Value → Shared → Prop} (I : Inv X pins σ H s) (B : LamX.TabB X.base X.mg c P) (hco : X.env.code = .ref c)
    (hm : (P, X.env.qual ++ "<lambda>") ∈ T) (hu : ∀ y ∈ T, y.1 = P → y.2 = X.env.qual ++ "<lambda>") (hT : LamX.Tabs T H) (hde : defaultsOf params X.env = ([], [])) (hfr : ∀ y ∈ scope.names, y.2 = .free → ∃ u, X.env.cells.lookup y.1 = some u)
    (h : ∀ (f c' : Addr) (pm ctv : Value) (H1 : Hp) (s' : Shared), Inv X pins σ H1 s' → LamH P c' (X.env.qual ++ "<lambda>") H H1 → LamX.Tabs T H1 →
      s'.heap.get? f = some (PySem.W.kla_obj "<lambda>" (X.env.qual ++ "<lambda>") params body scope (cloFrom X.env.cells scope.names []) pm c' ctv) → H1 f = none → f ∉ frs X.stack → H1 c' = some (LamX.CodeO c' (X.env.qual ++ "<lambda>")) → s.heap.objs.size ≤ f → Q (.ref f) s') :
    wpAny (model X.prog X.w) X.A (eval (.Lambda params body scope pos) X.env) Q E s := by
  obtain ⟨tb, eP, tri, inT⟩ := hT _ hm
  have gP : s.heap.get? P = some { cls := .none, data := .fields tb } := I.hok P _ eP
  have out : ∀ f, s.heap.objs.size ≤ f → f ∉ frs X.stack := fun f hf z => (List.mem_cons.mp (I.stkSub _ z)).elim (fun e => absurd (Nat.lt_of_lt_of_le I.lt (e ▸ hf)) (Nat.lt_irrefl _)) fun e => I.nofs hf e
  refine PySem.W.kla_eval hde ?_
  cases q : codeAmong pos tb.toList with
  | some cv =>
    obtain ⟨c', rfl, hc⟩ := inT pos cv q
    exact PySem.W.kla_makeFunctionHit (mg := X.mg) (c := c) (P := P) (ps := tb) (closure_ok hfr) I.ok.glob (I.mod.glob.keeps I.bk) hco (B.code.keeps I.bk) gP tri q (B.bm.keeps I.bk) fun ctv g tk up sz =>
      h g.objs.size c' _ ctv H _ (I.kept (t' := tk) fun b o e => Heap.get?_push_of_some _ (up b o e)) (.inl rfl) hT (Heap.get?_push_size _ rfl) (I.hok.fresh sz) (out _ sz) hc sz
  | none =>
    refine PySem.W.kla_makeFunction (mg := X.mg) (c := c) (P := P) (ps := tb) (closure_ok hfr) I.ok.glob (I.mod.glob.keeps I.bk) hco (B.code.keeps I.bk) gP tri q B.gP (B.bm.keeps I.bk) fun c' ctv g tk up ge lt rec tbl => ?_
    obtain ⟨c2, oc, vs, t, ec, g2, d2, v2⟩ := rec
    cases ec
    have sz : s.heap.objs.size ≤ g.objs.size := Nat.le_trans ge (Nat.le_of_lt lt)
    have nc : H c' = none := I.hok.fresh ge
    have lh : LamH P c' (X.env.qual ++ "<lambda>") H (upd (upd H P (.tbl (tb ++ #[rawInt pos.line, rawInt pos.col, .ref c']))) c' (LamX.CodeO c' (X.env.qual ++ "<lambda>"))) := .inr ⟨tb, _, eP, nc, rfl⟩
    have J := LamX.inv_table (q := X.env.qual ++ "<lambda>") (t' := tk) (more := #[rawInt pos.line, rawInt pos.col, .ref c']) (h' := g.push (PySem.W.kla_obj "<lambda>" (X.env.qual ++ "<lambda>") params body scope (cloFrom X.env.cells scope.names []) ((X.mg "__name__").getD .none) c' ctv)) I eP
      (fun b o hb e => Heap.get?_push_of_some _ (up b o hb e)) (Heap.get?_push_of_some _ tbl) ge ⟨oc, vs, t, Heap.get?_push_of_some _ g2, d2, v2⟩
    have el : (tb ++ #[rawInt pos.line, rawInt pos.col, .ref c']).toList = tb.toList ++ [rawInt pos.line, rawInt pos.col, .ref c'] := by simp
    have nf : g.objs.size ≠ c' := Nat.ne_of_gt lt
    have nP : g.objs.size ≠ P := Nat.ne_of_gt (Nat.lt_of_lt_of_le (Heap.lt_size gP) sz)
    have cP : P ≠ c' := ne_of_none eP nc
    refine h g.objs.size c' _ ctv _ _ J lh (fun y hy => ?_) (Heap.get?_push_size _ rfl) (by rw [upd_ne nf, upd_ne nP]; exact I.hok.fresh sz) (out _ sz) upd_same sz
    by_cases hb : y.1 = P
    · refine ⟨tb ++ #[rawInt pos.line, rawInt pos.col, .ref c'], by rw [hb, upd_ne cP, upd_same], by rw [el]; exact PySem.TriplesOk_snoc _ _ _ _ tri, fun p2 cv hcv => ?_⟩
      rw [el] at hcv
      rw [hu y hy hb]
      rcases LamX.among_app _ tri hcv with z | z
      · obtain ⟨c0, a1, a2⟩ := inT p2 cv z
        exact ⟨c0, a1, lh.keep a2 LamX.codeO_ne⟩
      · exact ⟨c', z, upd_same⟩
    · obtain ⟨tb2, a1, a2, a3⟩ := hT y hy
      refine ⟨tb2, by rw [upd_ne (ne_of_none a1 nc), upd_ne hb]; exact a1, a2, fun p2 cv hcv => ?_⟩
      obtain ⟨c0, b1, b2⟩ := a3 p2 cv hcv
      exact ⟨c0, b1, lh.keep b2 LamX.codeO_ne⟩
end
end DL

namespace DL
open PySem PySem.Spec PyProof.Rows L2
/-! ### a lambda without parameters, handed to a def that calls it -/
/-- the context of the lambda's body -/
abbrev lamN (X : Cx) (A : Around) (outer : List Env) (s : Shared) (H : Hp) (E : XK) (scope : Scope) (f c' : Addr) : Cx :=
  (LamX.lamCx X A outer s H E scope f c').tr ([] ++ []) fun e s' => wpAny (model X.prog X.w) (A.deeper (LamX.lamEnv X scope s.heap.objs.size f c')) (leaving (LamX.lamEnv X scope s.heap.objs.size f c') e)
    (fun _ s'' => L2N.CX X.prog X.w outer H s E e s'') (fun e' s'' => L2N.CX X.prog X.w outer H s E e' s'') s'
/-- the handed def as the callee sees it: in slot 0 -/
def actM (m : M D) (ρ : Env') : M D := match ρ[0]? with
  | some (some D.hof) => hfr m
  | _ => fail
section
variable {X : Cx} {pins : List (Addr × Obj)} {σ : L2.St} {H : Hp} {s : Shared} {G : Gx} {φ : List Addr} {ρ : Env'} {st : Store}
theorem ext_no {p : Addr} {q : Str} (so : StOk X.K G φ H st) (h : H p = some (LamX.CodeO p q)) : p ∉ φ := fun hm => by
  obtain ⟨i, hi, e⟩ := List.getElem_of_mem hm
  have h2 : i < st.length := by rw [← so.len]; exact hi
  obtain ⟨o, e1, r⟩ := so.cell i st[i] p (List.getElem?_eq_getElem h2) (by rw [List.getElem?_eq_getElem hi, e])
  rw [h] at e1
  cases e1
  unfold LamX.CodeO at r
  generalize st[i] = cc at r
  cases r
/-- the callee's world -/
abbrev Gx.hand (G : Gx) (f : Addr) (φ : List Addr) (H : Hp) : Gx := { G with hf := some f, φ0 := φ, H0 := H }
theorem act_of {Ng : List Str} {qg : Str} {sg : Scope} {g f c' : Addr} {cdg pm ctv : Value} {params : Arguments} {body : Expr} {scope : Scope} {k : Nat} {a : Str} {Eg : XK} {m : Env' → M D}
    (I : Inv X pins σ H s) (L : LamX.LamS X.env.scope scope) (hf : s.heap.get? f = some (PySem.W.kla_obj "<lambda>" (X.env.qual ++ "<lambda>") params body scope (cloFrom X.env.cells scope.names []) pm c' ctv)) (hfn : H f = none) (hfs : f ∉ frs X.stack)
    (hc : H c' = some (LamX.CodeO c' (X.env.qual ++ "<lambda>")))
    (hbi : bindArgs (PySem.W.kla_fn "<lambda>" (X.env.qual ++ "<lambda>") params body scope (cloFrom X.env.cells scope.names []) pm (.ref c') ctv) ⟨[], []⟩ = pure [])
    (hr : Room (k + 1) (X.A.deeper (envOfC qg sg s.heap.objs.size g cdg)))
    (hbody : ∀ (A : Around) (outer : List Env) (s : Shared) (H : Hp) (E : XK), Room k (A.deeper (LamX.lamEnv X scope s.heap.objs.size f c')) → ME (lamN X A outer s H E scope f c') G (WofE E) body m)
    (so : SOk X.K G φ H σ ρ st) (hN : Ng[0]? = some a) (hv : Vis sg a) (hd : (a == ("__debug__" : Str)) = false) (hcd : (a == ("__classdict__" : Str)) = false)
    {W : WX} {pn : List (Addr × Obj)} {xe : Value → Shared → Prop} {p1 p2 : Pos} (tk : L2N.Takes ((cxOf (L2N.CX X.prog X.w) X.prog X.w X.K X.mg X.base Ng qg sg g cdg X.A X.stack s H Eg).tr pn xe) W) :
    ME ((cxOf (L2N.CX X.prog X.w) X.prog X.w X.K X.mg X.base Ng qg sg g cdg X.A X.stack s H Eg).tr pn xe) (G.hand f φ H) W (.Call (.Name a p1) [] [] p2) (actM (m ρ)) := by
  refine ⟨fun pz sz σz Hz Q Iz ⟨φz, ρz, stz, soz, pp⟩ => ?_⟩
  -- the callee's slot
  unfold actM at pp
  cases e0 : ρz[0]? with
  | none => rw [e0] at pp; exact pp.elim
  | some od =>
    cases od with
    | none => rw [e0] at pp; exact pp.elim
    | some d =>
      cases d with
      | hof =>
        rw [e0] at pp
        obtain ⟨v0, hs0, r0⟩ := soz.e.get 0 .hof e0
        have ev : v0 = .ref f := by
          cases r0 with
          | hof q => cases q; rfl
        subst ev
        refine wpAny_Call_Name_kw (thn ((pe_var (pos := p1) (i := 0) hN hv hd hcd).run pz sz σz Hz (fun v H1 => v = .ref f ∧ H1 = Hz) Iz ⟨.ref f, hs0, rfl, rfl⟩) fun u s1 ⟨v, H1, I1, r1, q1⟩ => ?_)
        obtain ⟨ev, eH⟩ := q1
        subst ev eH
        obtain rfl : u = Value.ref f := r1
        have of1 : s1.heap.get? f = some (PySem.W.kla_obj "<lambda>" (X.env.qual ++ "<lambda>") params body scope (cloFrom X.env.cells scope.names []) pm c' ctv) := I1.base.keep f _ hf hfn hfs (fun z => nomatch (show f ∈ ([] : List Addr) from z))
        refine PySem.W.callWith_F0 ⟨_, _, _, _, of1⟩ ?_
        have xz : Ext φ H φz H1 := soz.s.anc
        have hcz : H1 c' = some (LamX.CodeO c' (X.env.qual ++ "<lambda>")) := xz.keep _ _ hc (ext_no so.s hc) LamX.codeO_ne
        obtain ⟨⟨oc, vs, t, hoc, hdc, hvc⟩, _, _⟩ := I1.hok c' _ hcz
        have un : Un (frs X.stack) [] H H1 s.heap s1.heap := I1.base
        obtain ⟨nh, pb⟩ := Post.sw (G := G) (G' := G.hand f φ H) rfl rfl xz pp
        have sz2 : StOk X.K G φz H1 stz := soz.s.sw (G := G.hand f φ H) (G' := G) rfl rfl nh (so.s.anc.trans xz)
        have rc : codeAny (model X.prog X.w) (X.A.deeper (envOfC qg sg s.heap.objs.size g cdg)) (.call (.ref f) ⟨[], []⟩) (CR (L2N.CX X.prog X.w) (envOfC qg sg s.heap.objs.size g cdg :: X.stack) X.prog X.w H1 s1 Q (WE W σz)) s1 := by
          refine PySem.W.kla_callFunE hr.depth of1 rfl L.co L.gen rfl ⟨c', oc, vs, t, rfl, hoc, hdc, hvc⟩ ?_
          rw [hbi]
          refine wpAny_pure (wpAny_newFunctionEnv (fun y hy => (L.own y hy).2) (fun y hy => absurd hy (by simp)) (fun g1 ns sb => ⟨I1.nolimit.fresh _ sb, ?_⟩) L.kind)
          show codeAny _ _ (.expr body (LamX.lamEnv X scope s1.heap.objs.size f c')) _ _
          have kp : ∀ b o, s1.heap.get? b = some o → g1.get? b = some o := fun b o e => sb.extBut b o (Nat.ne_of_lt (Heap.lt_size e)) (Heap.get?_push_of_some _ e)
          have J := LamX.lam_start2 (E := WE W σz) (tk := s1.toks + ([] : List (Str × Value)).length) (f := f) (c' := c') I L I1.env0 hr.hd un ns kp
          have J2 := J.toTry (fun e s' => wpAny (model X.prog X.w) ((X.A.deeper (envOfC qg sg s.heap.objs.size g cdg)).deeper (LamX.lamEnv X scope s1.heap.objs.size f c')) (leaving (LamX.lamEnv X scope s1.heap.objs.size f c') e)
            (fun _ s'' => L2N.CX X.prog X.w (envOfC qg sg s.heap.objs.size g cdg :: X.stack) H1 s1 (WE W σz) e s'') (fun e' s'' => L2N.CX X.prog X.w (envOfC qg sg s.heap.objs.size g cdg :: X.stack) H1 s1 (WE W σz) e' s'') s')
          refine PySem.W.kla_codeExpr (wpAny_mono ((hbody _ _ s1 H1 (WE W σz) (hr.deeper _)).run [] _ σ H1 Q J2 ⟨φz, ρ, stz, ⟨sz2, so.e.mono xz⟩, ?_⟩) (fun v s' hq => ?_) fun e s' hq => hq)
          · cases q : m ρ stz with
            | ok d st' => rw [q] at pb; exact pb
            | exc c st' => rw [q] at pb; exact pb
            | bad => rw [q] at pb; exact pb
          · obtain ⟨w', H', J', rv, q⟩ := hq
            exact ⟨w', H', J'.os, J'.bare, J'.base, J'.hok, rv, q⟩
        refine wpAny_call (codeAny_mono rc fun r s' hq => ?_)
        cases r with
        | error e => exact L2N.passAt tk σz pz H1 s1 e s' I1 hq
        | ok fl =>
          cases fl with
          | ret u => exact I1.after hq
          | next => exact False.elim hq
          | brk => exact False.elim hq
          | cont => exact False.elim hq
      | _ => rw [e0] at pp; exact pp.elim
end
/-- f(lambda: ..) -/
def mLam (len : Nat) (bg : (Env' → M D) → MS) (m : Env' → M D) (ρ : Env') : M D := hfr fun st => runB true len 1 (bg (actM (m ρ))) [.hof] st
/-- what a def does with the def it is handed -/
def Gives (P : Program) (w : World) (K : PySem.W.Frag) (mg : Str → Option Value) (base : Heap) (k : Nat) (x a : Str) (Ng : List Str) (bg : (Env' → M D) → MS) (tb : Tb) : Prop :=
  ∃ (st : Stmt) (fd : FuncData), L2.Fun K x x st (He.ga K x) fd ∧ FnScope Ng [a] (defScope st) ∧ mg x = some (.ref (He.ga K x)) ∧ L2.Binds K fd [a] [] ∧ Vis (defScope st) a ∧
    ∀ (cdv : Value) (A : Around) (outer : List Env) (s : Shared) (H : Hp) (E : XK) (G : Gx) (act : Env' → M D), Room k (A.deeper (envOfC x (defScope st) s.heap.objs.size (He.ga K x) cdv)) → G.tb = tb →
      (∀ (W : WX) (pn : List (Addr × Obj)) (xe : Value → Shared → Prop) (p1 p2 : Pos), L2N.Takes ((cxOf (L2N.CX P w) P w K mg base Ng x (defScope st) (He.ga K x) cdv A outer s H E).tr pn xe) W →
        ME ((cxOf (L2N.CX P w) P w K mg base Ng x (defScope st) (He.ga K x) cdv A outer s H E).tr pn xe) G W (.Call (.Name a p1) [] [] p2) act) →
      SS (cxOf (L2N.CX P w) P w K mg base Ng x (defScope st) (He.ga K x) cdv A outer s H E) G (WofE E) (defBody st) (bg act)
theorem me_lam {X : Cx} {G : Gx} {W : WX} {k kb len : Nat} {x a : Str} {Ng : List Str} {bg : (Env' → M D) → MS} {c P : Addr} {params : Arguments} {body : Expr} {scope : Scope} {m : Env' → M D} {p lpos pos : Pos}
    (gv : Gives X.prog X.w X.K X.mg X.base k x a Ng bg G.tb) (hr : Room (k + 1) X.A) (hkb : kb + 1 ≤ k) (tk : L2N.Takes X W) (B : LamX.TabB X.base X.mg c P) (hco : X.env.code = .ref c) (hmT : (P, X.env.qual ++ "<lambda>") ∈ G.tb.tabs)
    (hu : ∀ y ∈ G.tb.tabs, y.1 = P → y.2 = X.env.qual ++ "<lambda>") (L : LamX.LamS X.env.scope scope)
    (hbody : ∀ (A : Around) (outer : List Env) (s : Shared) (H : Hp) (E : XK) (f c' : Addr), Room kb (A.deeper (LamX.lamEnv X scope s.heap.objs.size f c')) → ME (lamN X A outer s H E scope f c') G (WofE E) body m)
    (hde : defaultsOf params X.env = ([], []) := by rfl)
    (hbi : ∀ (q : Str) (cl : List (Str × Addr)) (pm cv ctv : Value), bindArgs (PySem.W.kla_fn "<lambda>" q params body scope cl pm cv ctv) ⟨[], []⟩ = pure [] := by intro _ _ _ _ _; rfl)
    (hlen : Ng.length = len := by rfl) (h0 : Ng[0]? = some a := by rfl) (hg : Gl X x := by rfl) (hdb : (x == ("__debug__" : Str)) = false := by decide) (hd : (a == ("__debug__" : Str)) = false := by decide) (hcd : (a == ("__classdict__" : Str)) = false := by decide) :
    ME X G W (.Call (.Name x p) [.Lambda params body scope lpos] [] pos) (mLam len bg m) := by
  obtain ⟨stg, fd, F, Sg, hm, hb, hva, give⟩ := gv
  refine ⟨fun pins s σ H Q I ⟨φ, ρ, st, so, pp⟩ => ?_⟩
  have pins2 : Nonempty Unit := ⟨()⟩
  refine wpAny_Call_Name_kw (ld_glob I hg hm ?_ hdb)
  refine PySem.W.callWith_K (h₀ := X.base) I.ok.mod.kin F.kp ?_ (by rfl) (by rfl)
  show wpAny _ _ (spliced ((false, eval (.Lambda params body scope lpos) X.env) :: backTo pos (starEach [] X.env))) _ _ s
  refine Calls.spliced_cons (lam_makeD I B hco hmT hu so.s.tabs hde (L.has I.ok) fun f c' pm ctv H1 s' I1 lh T1 hf hfn hfs hcc _ => ?_)
  refine Calls.spliced_nil ⟨I1.kIn, ?_⟩
  have x1 : Ext φ H φ H1 := lh.ext
  have so1 : SOk X.K G φ H1 σ ρ st := ⟨⟨so.s.len, so.s.nd, fun n cc b h1 h2 => by
    obtain ⟨o, e, r⟩ := so.s.cell n cc b h1 h2
    exact ⟨o, lh.keep e (fun ps z => by
      subst z
      generalize cc = c2 at r
      cases r), r.mono x1⟩, T1, so.s.anc.trans x1, fun b hb => x1.there b (so.s.fx b hb), so.s.fd⟩, so.e.mono x1⟩
  have p1 := Post.ext x1 pp
  -- what the callee is to do
  have anc : Ext φ H1 φ H1 := Ext.refl _ _
  have flip := Post.sw (G := G.hand f φ H1) (G' := G) rfl rfl so1.s.anc p1
  obtain ⟨nh, pb⟩ := flip
  have s2 : StOk X.K (G.hand f φ H1) φ H1 st := so1.s.sw (G := G) (G' := G.hand f φ H1) rfl rfl nh anc
  obtain ⟨oc, od, kV, doc, pmv, an, cdv, ct, osl, rfl, lk, hcd'⟩ := F.ex
  have rc : codeAny (model X.prog X.w) X.A (.call (.ref (He.ga X.K x)) ⟨[.ref f], []⟩) (CR (L2N.CX X.prog X.w) X.stack X.prog X.w H1 s' Q (WE W σ)) s' := by
    have hbs := hb s' [.ref f] I1.kIn rfl
    refine LamX.run_ofS (N := Ng) (ps := [a]) (us := [.ref f]) (vs := [.ref f]) lk hcd' Sg hr I1.env0 hbs (.cons rfl .nil) rfl fun hr' => ?_
    refine ⟨_, give cdv X.A X.stack s' H1 (WE W σ) (G.hand f φ H1) (actM (m ρ)) hr' rfl fun W2 pn xe p1 p2 tk2 => act_of I1 L hf hfn hfs hcc (hbi _ _ _ _ _) (hr'.mono hkb) (fun A outer s H E hr3 => hbody A outer s H E f c' hr3) so1 h0 hva hd hcd tk2, ?_⟩
    refine ⟨φ, [some .hof] ++ List.replicate (len - 1) none, st, ⟨s2, ?_⟩, ?_⟩
    · rw [← hlen]
      exact env_start (n := 1) (ds := [.hof]) (.cons (.hof rfl) .nil) rfl
    · have pq : Post X.K (G.hand f φ H1) (WofE (WE W σ)) [] φ H1 (runB true len 1 (bg (actM (m ρ))) [.hof] st) fun d _ φ' H' => ∀ v, Rp X.K (G.hand f φ H1) φ' H' d v → Q v H' := by
        cases q : runB true len 1 (bg (actM (m ρ))) [.hof] st with
        | ok d st' => rw [q] at pb; exact pb
        | exc c st' => rw [q] at pb; exact pb
        | bad => rw [q] at pb; exact pb
      exact runB_post s2 pq
  refine wpAny_call (codeAny_mono rc fun r s2 hq => ?_)
  cases r with
  | error e => exact L2N.passAt tk σ _ H1 s' e s2 I1 hq
  | ok fl =>
    cases fl with
    | ret u => exact I1.after hq
    | next => exact False.elim hq
    | brk => exact False.elim hq
    | cont => exact False.elim hq
end DL

namespace HN
open PySem PySem.Spec PyProof.Rows L2 HotX
/-! ### StopIteration while an exception is handled -/
section
variable {prog : Program} {w : World} {A : Around} {E : Value → Shared → Prop} {s : Shared} {x1 : Addr}
theorem hot_ext {h h' : Heap} (p : HotAt A x1 h) (k : ∀ o, h.get? x1 = some o → h'.get? x1 = some o) : HotAt A x1 h' := by
  obtain ⟨a, o, vs, e, d, c⟩ := p
  exact ⟨a, o, vs, k o e, d, c⟩
/-- an object of two fields is not the handled exception -/
theorem hot_ne {h : Heap} {u : Addr} {o : Obj} {f0 f1 : Value} (p : HotAt A x1 h) (e : h.get? u = some o) (d : o.data = .fields #[f0, f1]) : x1 ≠ u := by
  obtain ⟨_, q, vs, e2, d2, c⟩ := p
  rintro rfl
  rw [e] at e2
  cases e2
  rw [d] at d2
  cases d2
  cases c
theorem hot_ne_seq {h : Heap} {u : Addr} {o : Obj} {ws : Array Value} {k : Nat} (p : HotAt A x1 h) (e : h.get? u = some o) (d : o.data = .seq ws k) : x1 ≠ u := by
  obtain ⟨_, q, vs, e2, d2, c⟩ := p
  rintro rfl
  rw [e] at e2
  cases e2
  rw [d] at d2
  cases d2
theorem stop_hot {α : Type} {Q : α → Shared → Prop} (p : HotAt A x1 s.heap)
    (hE : ∀ h' e, (∀ b o, s.heap.get? b = some o → h'.get? b = some o) → (∃ o, h'.get? e = some o ∧ o.cls = .type "StopIteration") → E (.ref e) { s with heap := h' }) :
    wpAny (model prog w) A (newExc (.type "StopIteration") [] >>= fun e => (raiseNew e : Sem α)) Q E s := by
  obtain ⟨hh, oz, vz, ez, dz, cz⟩ := p
  refine wpAny_bind ?_
  simp only [newExc, newTuple]
  refine wpAny_bind (wpAny_newObj_type ?_ (by size_fits))
  refine wpAny_bind (m := firstArgMember _ _) (wpAny_of_eq (a := Value.none) (by first
    | rfl
    | (simp only [firstArgMember]; rfl)) ?_)
  refine wpAny_newObj_type ?_ (by size_fits)
  have up : ∀ b o (n1 n2 : Obj), s.heap.get? b = some o → ((s.heap.push n1).push n2).get? b = some o := fun b o n1 n2 q => Heap.get?_push_of_some n2 (Heap.get?_push_of_some n1 q)
  have e3 := up x1 oz { cls := Value.type "tuple", data := Data.seq #[] }
  have lt : x1 ≠ (s.heap.push { cls := Value.type "tuple", data := Data.seq #[] }).objs.size := Nat.ne_of_lt (Heap.lt_size (Heap.get?_push_of_some _ ez))
  refine raiseNew_hot (x1 := x1) ⟨hh, oz, vz, e3 _ ez, dz, cz⟩ lt (Heap.get?_push_size _ rfl) rfl (by first
    | (simp; done)
    | (simp; omega)
    | (simp only [Array.size_append]; simp; omega)) ?_
  refine hE _ _ (fun b o q => ?_) ⟨_, Heap.get?_update_self _ (Heap.get?_push_size _ rfl) rfl, rfl⟩
  rw [Heap.get?_update_other _ _ (Nat.ne_of_gt (Heap.lt_size (Heap.get?_push_of_some _ q)))]
  exact up b o _ _ q
/-- the end of a list's iterator -/
theorem list_end_hot {u l : Addr} {i : Nat} {its : Array Value} {Q : Value → Shared → Prop} (p : HotAt A x1 s.heap) (hu : s.heap.IsListIter u l i) (hl : s.heap.IsList l its) (hx : its[i]? = none)
    (hE : ∀ h' e, Heap.ExtBut u s.heap h' → (∃ o, h'.get? e = some o ∧ o.cls = .type "StopIteration") → E (.ref e) { s with heap := h' }) :
    wpAny (model prog w) A (Builtin.SmallTypes.nextOf (.ref u)) Q E s := by
  obtain ⟨ou, gu, cu, du⟩ := id hu
  obtain ⟨ol, gl, _, kl, dl⟩ := hl
  have nu : x1 ≠ u := hot_ne p gu du
  unfold Builtin.SmallTypes.nextOf
  refine wpAny_bind (wpAny_callSpecial?_slot (name := Str.ofString "__next__") hu.typeIs slot_listiter_next (wpAny_call_entry slot_listiter_next hu.typeIs entry_listiter_next ?_ (args_listiter_next _)))
  show wpAny _ _ (field (.ref u) 0 >>= _) _ _ s
  refine wpAny_bind (wpAny_field gu du (x := .ref l) rfl ?_)
  show wpAny _ _ (if (Value.ref l == Value.none) = true then _ else _) _ _ s
  rw [if_neg (fun z : (Value.ref l == Value.none) = true => by cases z)]
  show wpAny _ _ (field (.ref u) 1 >>= _) _ _ s
  refine wpAny_bind (wpAny_field gu du (x := .int i 0) rfl ?_)
  show wpAny _ _ (seqItems? (.ref l) >>= _) _ _ s
  refine wpAny_bind (wpAny_seqItems gl dl ?_)
  simp only [Int.toNat_natCast, hx]
  refine wpAny_bind (wpAny_rule (wpAny_bind (wpAny_setField gu du (by simp) ?_)))
  refine stop_hot (x1 := x1) (hot_ext p fun o q => (Heap.SameBut.update ..).extBut _ _ nu q) fun h' e k c => hE h' e (fun b o hb q => k b o ((Heap.SameBut.update ..).extBut b o hb q)) c
/-- the end of a tuple's iterator -/
theorem tup_end_hot {u l : Addr} {i : Nat} {its : Array Value} {Q : Option Value → Shared → Prop} (p : HotAt A x1 s.heap) (hu : IsTupIter s.heap u l i) (hl : IsTup s.heap l its) (hx : its[i]? = none)
    (hQ : ∀ h', Heap.ExtBut u s.heap h' → Q none { s with heap := h' }) : wpAny (model prog w) A (pyNext (.ref u)) Q E s := by
  obtain ⟨ou, gu, cu, du⟩ := id hu
  obtain ⟨ol, gl, _, kl, dl⟩ := hl
  have nu : x1 ≠ u := hot_ne p gu du
  unfold pyNext
  refine wpAny_bind (wpAny_attempt (wpAny_callSpecial?_slot (name := Str.ofString "__next__") hu.typeIs slot_tupleiter_next (wpAny_call_entry slot_tupleiter_next hu.typeIs entry_tupleiter_next ?_ (args_tupleiter_next _))))
  show wpAny _ _ (field (.ref u) 0 >>= _) _ _ s
  refine wpAny_bind (wpAny_field gu du (x := .ref l) rfl ?_)
  show wpAny _ _ (if (Value.ref l == Value.none) = true then _ else _) _ _ s
  rw [if_neg (fun z : (Value.ref l == Value.none) = true => by cases z)]
  show wpAny _ _ (field (.ref u) 1 >>= _) _ _ s
  refine wpAny_bind (wpAny_field gu du (x := .int i 0) rfl ?_)
  show wpAny _ _ (seqItems? (.ref l) >>= _) _ _ s
  refine wpAny_bind (wpAny_seqItems gl dl ?_)
  simp only [Int.toNat_natCast, hx]
  refine wpAny_bind (wpAny_rule (wpAny_bind (wpAny_setField gu du (by simp) ?_)))
  refine stop_hot (x1 := x1) (hot_ext p fun o q => (Heap.SameBut.update ..).extBut _ _ nu q) fun h' e k c => ?_
  obtain ⟨oe, ge, ce⟩ := c
  refine wpAny_bind (wpAny_isInstance (T := "StopIteration") (b := true) ⟨oe, ge, ce⟩ isSubtype_stop ?_)
  exact wpAny_pure (hQ h' fun b o hb q => k b o ((Heap.SameBut.update ..).extBut b o hb q))
/-- a, b = a tuple -/
theorem unpack_hot {env : Env} {elts : List Expr} {kk : Nat} {pos : Pos} {l : Addr} {its : Array Value} {Q : Unit → Shared → Prop} (p : HotAt A x1 s.heap) (hl : IsTup s.heap l its)
    (hn : (assignEach elts env).length = its.size) (hst : (assignEach elts env).findIdx? (·.1) = none)
    (h : ∀ h', Heap.ExtBut s.heap.objs.size s.heap h' → wpAny (model prog w) A (assignInOrder ((assignEach elts env).map (·.2)) its.toList) Q E { s with heap := h' }) :
    wpAny (model prog w) A (assign (.Tuple elts kk pos) env (.ref l)) Q E s := by
  have ne : l ≠ s.heap.objs.size := by
    obtain ⟨o, e, _⟩ := hl
    exact Nat.ne_of_lt (Heap.lt_size e)
  have nx : x1 ≠ s.heap.objs.size := by
    obtain ⟨_, o, _, e, _⟩ := p
    exact Nat.ne_of_lt (Heap.lt_size e)
  rw [assign_Tuple]
  refine wpAny_bind (wpAny_standAt ?_)
  unfold unpack
  rw [hn, hst]
  refine wpAny_bind (wpAny_holding ?_)
  unfold unpackItems
  refine wpAny_bind ?_
  unfold notIterableAtAll
  refine wpAny_bind (wpAny_specialOf hl.typeIs slot_tuple_iter.lookup ?_)
  refine wpAny_pure ?_
  simp only [Bool.false_eq_true, if_false]
  refine wpAny_bind (wpAny_holding (iter_tuple hl ?_))
  refine wpAny_bind (wpAny_holding (draw_tuple ne its.size 0 _ _ ⟨_, Heap.get?_push_size _ rfl, rfl, rfl⟩ (hl.push _) (by omega) fun h1 it1 sb1 => ?_))
  rw [show List.take its.size (List.drop 0 its.toList) = its.toList from by rw [List.drop_zero]; exact List.take_of_length_le (by simp)]
  rw [if_neg (by simp)]
  have l1 : IsTup h1 l its := (hl.push _).extBut sb1.extBut ne
  have p1 : HotAt A x1 h1 := hot_ext p fun o q => sb1.extBut _ _ nx (Heap.get?_push_of_some _ q)
  refine wpAny_bind (wpAny_holding (tup_end_hot p1 it1 l1 (by simp) fun h2 e2 => ?_))
  simp only [Option.isSome_none, Bool.false_eq_true, if_false]
  exact wpAny_pure (h h2 fun b o hb q => e2 b o hb (sb1.extBut b o hb (Heap.get?_push_of_some _ q)))
/-- the end of a zip whose first list is through -/
theorem zip_end_hot {z TI TO i1 i2 l1 : Addr} {k1 : Nat} {xs : Array Value} {Q : Option Value → Shared → Prop} (p : HotAt A x1 s.heap) (d1 : i1 ≠ z) (d2 : l1 ≠ z)
    (hz : IsZip s.heap z TI TO .none) (hTI : IsPair s.heap TI (.ref i1) (.ref i2)) (h1 : s.heap.IsListIter i1 l1 k1) (hl1 : s.heap.IsList l1 xs) (hx : xs[k1]? = none)
    (hQ : ∀ h', (∀ c o, c ≠ z → c ≠ i1 → s.heap.get? c = some o → h'.get? c = some o) → Q none { s with heap := h' }) : wpAny (model prog w) A (pyNext (.ref z)) Q E s := by
  have tz : s.TypeIs (.ref z) "zip" := ⟨_, hz, rfl⟩
  have nz : x1 ≠ z := by
    obtain ⟨_, o, vs, e, d, c⟩ := p
    rintro rfl
    rw [hz] at e
    cases e
    cases d
    cases c
  unfold pyNext
  refine wpAny_bind (wpAny_attempt (wpAny_callSpecial?_slot (name := Str.ofString "__next__") tz F.slot_zip_next (wpAny_call_entry F.slot_zip_next tz F.entry_zip_next ?_ (F.args_zip_next_1 _))))
  show wpAny _ _ (field (.ref z) 2 >>= _) _ _ s
  refine wpAny_bind (wpAny_field hz rfl (x := Value.bool false) rfl ?_)
  show wpAny _ _ (field (.ref z) 3 >>= _) _ _ s
  refine wpAny_bind (wpAny_field hz rfl (x := Value.ref TI) rfl ?_)
  refine wpAny_bind (wpAny_seqItems hTI rfl ?_)
  show wpAny _ _ (Builtin.SmallTypes.ownedTupleIsFree (.ref z) >>= _) _ _ s
  refine wpAny_bind ?_
  unfold Builtin.SmallTypes.ownedTupleIsFree
  refine wpAny_bind (wpAny_field hz rfl (x := Value.none) rfl (wpAny_pure ?_))
  simp only [if_true]
  refine wpAny_bind (wpAny_rule ?_)
  refine wpAny_bind (wpAny_field hz rfl (x := Value.ref TO) rfl ?_)
  refine wpAny_bind (wpAny_setField_rec hz (by simp) fun g1 hz1 sb1 => ?_)
  replace hz1 : IsZip g1 z TI TO .ellipsis := hz1
  refine wpAny_bind ?_
  simp only [List.zipIdx_cons, List.zipIdx_nil, List.forIn_cons, List.forIn_nil]
  refine wpAny_bind (wpAny_bind (wpAny_onRaise ?_))
  show wpAny _ _ (Builtin.SmallTypes.nextOf (.ref i1) >>= _) _ _ _
  refine wpAny_bind (list_end_hot (x1 := x1) (hot_ext p fun o q => sb1.extBut _ _ nz q) (h1.extBut sb1.extBut d1) (hl1.extBut sb1.extBut d2) hx fun g2 e k2 he => ?_)
  obtain ⟨oe, ge, ce⟩ := he
  have hz2 : IsZip g2 z TI TO .ellipsis := k2 _ _ d1.symm hz1
  have ez : e ≠ z := fun q => by
    subst q
    rw [hz2] at ge
    cases ge
    simp at ce
  refine wpAny_setField_rec hz2 (by simp) fun g3 _ sb3 => ?_
  refine wpAny_bind (wpAny_isInstance (T := "StopIteration") (b := true) ⟨oe, sb3.extBut _ _ ez ge, ce⟩ isSubtype_stop ?_)
  exact wpAny_pure (hQ g3 fun c o c1 c2 q => sb3.extBut _ _ c1 (k2 _ _ c2 (sb1.extBut _ _ c1 q)))
end
end HN

namespace HN
open PySem PySem.Spec PyProof.Rows L2 HotX L2H
def sel : List Str → List Bool → List Str
  | x :: xs, true :: ys => x :: sel xs ys
  | _ :: xs, false :: ys => sel xs ys
  | _, _ => []
theorem sel_len : ∀ (xs : List Str) (ys : List Bool), (sel xs ys).length ≤ xs.length
  | [], [] => Nat.le_refl _
  | [], _ :: _ => Nat.le_refl _
  | _ :: _, [] => Nat.zero_le _
  | x :: xs, true :: ys => Nat.succ_le_succ (sel_len xs ys)
  | x :: xs, false :: ys => Nat.le_succ_of_le (sel_len xs ys)
theorem sel_snoc : ∀ (xs : List Str) (ys : List Bool) (i : Nat) (x : Str) (y : Bool), xs[i]? = some x → ys[i]? = some y → sel (xs.take (i + 1)) (ys.take (i + 1)) = sel (xs.take i) (ys.take i) ++ (match y with | true => [x] | false => [])
  | [], _, _, _, _, h, _ => by simp at h
  | _ :: _, [], _, _, _, _, h => by simp at h
  | a :: xs, b :: ys, 0, x, y, h1, h2 => by
    simp at h1 h2
    subst h1 h2
    cases b <;> simp [sel]
  | a :: xs, b :: ys, i + 1, x, y, h1, h2 => by
    have := sel_snoc xs ys i x y (by simpa using h1) (by simpa using h2)
    rw [List.take_succ_cons, List.take_succ_cons, List.take_succ_cons, List.take_succ_cons]
    cases b with
    | true =>
      show a :: sel _ _ = a :: sel _ _ ++ _
      rw [this]
      rfl
    | false => exact this
section
variable {X : Cx}
/-- the zip at turn i -/
structure ZS (h : Heap) (z TI TO i1 i2 a b : Addr) (i : Nat) : Prop where
  z : IsZip h z TI TO .none
  ti : IsPair h TI (.ref i1) (.ref i2)
  to : ∃ x y, IsPair h TO x y
  l1 : h.IsListIter i1 a i
  l2 : h.IsListIter i2 b i
theorem ZS.at {h h' : Heap} {z TI TO i1 i2 a b : Addr} {i : Nat} (s : ZS h z TI TO i1 i2 a b i) (k : ∀ c ∈ [z, TI, TO, i1, i2], ∀ o, h.get? c = some o → h'.get? c = some o) : ZS h' z TI TO i1 i2 a b i := by
  obtain ⟨x, y, q⟩ := s.to
  exact ⟨k z (by simp) _ s.z, k TI (by simp) _ s.ti, ⟨x, y, k TO (by simp) _ q⟩, s.l1.at fun o e => k i1 (by simp) o e, s.l2.at fun o e => k i2 (by simp) o e⟩
theorem ZS.obj {h : Heap} {z TI TO i1 i2 a b : Addr} {i : Nat} (s : ZS h z TI TO i1 i2 a b i) : ∀ c ∈ [z, TI, TO, i1, i2], ∃ o, h.get? c = some o ∧ ∀ v, o.data ≠ .cell v := fun c hc => by
  obtain ⟨x, y, q⟩ := s.to
  obtain ⟨o1, e1, _, d1⟩ := s.l1
  obtain ⟨o2, e2, _, d2⟩ := s.l2
  simp only [List.mem_cons, List.not_mem_nil, or_false] at hc
  rcases hc with rfl | rfl | rfl | rfl | rfl
  · exact ⟨_, s.z, fun v => nofun⟩
  · exact ⟨_, s.ti, fun v => nofun⟩
  · exact ⟨_, q, fun v => nofun⟩
  · exact ⟨o1, e1, fun v n => by rw [d1] at n; cases n⟩
  · exact ⟨o2, e2, fun v n => by rw [d2] at n; cases n⟩
/-- the pinned exception, in a block -/
theorem blk_pin {pins : List (Addr × Obj)} {σ : L2.St} {H : Hp} {s s' : Shared} {scope : Scope} {cenv : Env} {fp : List Addr} {p : Addr × Obj} {τ : L2.St} (I : Inv X pins σ H s) (hp : p ∈ X.pn) (J : Inv (X.blk s H scope cenv fp) [] τ H s') (hc : cenv.locals = s.heap.objs.size)
    (k : ∀ b o, s.heap.get? b = some o → s'.heap.get? b = some o) : Inv (X.blk s H scope cenv fp) [p] τ H s' := by
  obtain ⟨g, f, nl, nf, nc⟩ := I.pin p (List.mem_append_left _ hp)
  refine ⟨J.ok, J.os, J.bare, J.base, J.loc, J.cell, J.free, J.freeC, fun q hq => ?_, J.hok, J.len⟩
  have e : q = p := by simpa using (show q ∈ ([] : List (Addr × Obj)) ++ [p] from hq)
  subst e
  refine ⟨k _ _ g, f, ?_, fun hm => (List.mem_cons.mp (I.stkSub q.1 hm)).elim nl nf, nc⟩
  show q.1 ≠ cenv.locals
  rw [hc]
  exact Nat.ne_of_lt (Heap.lt_size g)
theorem names_comp {p : Addr × Obj} (hp : p ∈ X.pn) (hot : Hot1 X.A p) (nd : X.N.Nodup) {lab good : Str} {i0 i1 : Nat} (h0 : X.N[i0]? = some lab) (h1 : X.N[i1]? = some good) {scope : Scope} (ok : BlkOk X.N X.env.scope scope [(lab, i0), (good, i1)]) {e1 e2 : Expr} {t1 : TA} {q1 q2 q3 q4 q5 q6 q7 pos : Pos} {kk : Nat}
    (ha : PA X [e1, e2] t1) (hg : Gl X "zip") (hm : X.mg "zip" = none) (hs : starEach [e1, e2] X.env = (false, eval e1 X.env) :: starEach [e2] X.env) (hpl : (backTo q6 (starEach [e2] X.env)).any (·.1) = false)
    (hfo : ∀ x, foldedSetIterable (.Call (.Name "zip" q5) [e1, e2] [] q6) X.env x = pure x)
    (pg : ∀ (s : Shared) (H : Hp) (C : Addr) (cl : List (Str × Addr)) (fp : List Addr), PGs (X.blk s H scope (compEnvC scope cl C X.env) fp) [.Name lab q2, .Name good q3] (gCons (gName i0) (gCons (gName i1) gNil)))
    (hn : ∀ (cl : List (Str × Addr)) (C : Addr), (assignEach [.Name lab q2, .Name good q3] (compEnvC scope cl C X.env)).length = 2 ∧ (assignEach [.Name lab q2, .Name good q3] (compEnvC scope cl C X.env)).findIdx? (·.1) = none)
    (pt : ∀ (s : Shared) (H : Hp) (C : Addr) (cl : List (Str × Addr)) (fp : List Addr), PTs (X.blk s H scope (compEnvC scope cl C X.env) fp) [.Name good q7] (fun σ H Q => ∃ b, σ[i1]? = some (some (.bl b)) ∧ Q b H))
    (pe : ∀ (s : Shared) (H : Hp) (C : Addr) (cl : List (Str × Addr)) (fp : List Addr), PE (X.blk s H scope (compEnvC scope cl C X.env) fp) (.Name lab q1) (tVar i0)) :
    PE X (.ListComp (.Name lab q1) [⟨.Tuple [.Name lab q2, .Name good q3] kk q4, .Call (.Name "zip" q5) [e1, e2] [] q6, [.Name good q7], 0⟩] scope pos)
      (fun σ H Q => t1 σ H fun vs H1 => ∃ a b xs ys, vs = [.ref a, .ref b] ∧ SqL X.K H1 a (xs.map V.str) ∧ SqL X.K H1 b (ys.map V.bl) ∧ xs.length = ys.length ∧ xs.length ≤ 1000 ∧ i0 < σ.length ∧ i1 < σ.length ∧ i0 ≠ i1 ∧
        ∀ D H2, H1 D = none → (∀ c o, H1 c = some o → H2 c = some o) → H2 D = some (.lst ((sel xs ys).map V.str)) → Q (.ref D) H2) := by
  refine ⟨fun pins s σ H Q I h => ?_⟩
  have fr : ∀ y ∈ scope.names, y.2 = .free → ∃ c, X.env.cells.lookup y.1 = some c := fun y hy e => (ok.free y hy e).elim (fun k => I.ok.has _ (.inl k)) fun k => I.ok.has _ (.inr k)
  rw [eval_ListComp]
  refine wpAny_comprehension_free (use := none) rfl hfo (closure_ok fr) ok.kind (fun y hy e => by rw [ok.uniq y hy, e]) ?_
  refine Call_ (ld_blt I hg hm PyProof.Rows.boot_zip (PyProof.Rows.callWith_type1 (thn (ha.run q6 pins s σ H _ I h) fun us s1 ⟨vs, H1, I1, r1, z1⟩ => ?_) hs hpl))
  obtain ⟨a, b, xs, ys, rfl, qa, qb, hlen, hle, hi0, hi1, hne, z1⟩ := z1
  cases r1 with
  | cons ra rr => cases rr with
    | cons rb rr => cases rr with
      | nil =>
        cases ra
        cases rb
        obtain ⟨ia, va, pa, _⟩ := I1.list qa
        obtain ⟨ib, vb, pb, _⟩ := I1.list qb
        refine call_zip_2 pa.isList pb.isList fun g hz hTI hTO hl1 hl2 hsz hk => wpAny_pyIter_zip hz ?_
        have ap := PySem.W.ktu_apart s1.heap.objs.size a b pa.lt pb.lt
        have zs0 : ZS g (s1.heap.objs.size + 4) (s1.heap.objs.size + 2) (s1.heap.objs.size + 3) s1.heap.objs.size (s1.heap.objs.size + 1) a b 0 := ⟨hz, hTI, ⟨_, _, hTO⟩, hl1, hl2⟩
        have old : ∀ c, c ∈ [s1.heap.objs.size + 4, s1.heap.objs.size + 2, s1.heap.objs.size + 3, s1.heap.objs.size, s1.heap.objs.size + 1] → s1.heap.objs.size ≤ c ∧ c < s1.heap.objs.size + 5 := fun c hc => by
          simp only [List.mem_cons, List.not_mem_nil, or_false] at hc
          omega
        have I2 : Inv X pins σ H1 { s1 with heap := g } := I1.kept (t' := s1.toks) hk
        have f2 : ∀ c, c ∈ [s1.heap.objs.size + 4, s1.heap.objs.size + 2, s1.heap.objs.size + 3, s1.heap.objs.size, s1.heap.objs.size + 1] → FpOk X pins H1 c := fun c hc => I1.fpOk (old c hc).1 (I1.hok.fresh (old c hc).1)
        generalize hz5 : s1.heap.objs.size + 4 = z at *
        generalize hTI5 : s1.heap.objs.size + 2 = TI at *
        generalize hTO5 : s1.heap.objs.size + 3 = TO at *
        generalize hi25 : s1.heap.objs.size + 1 = j2 at *
        generalize hi15 : s1.heap.objs.size = j1 at *
        refine wpAny_newObj_type (newEnv_comp ?_) (by show 0 ≤ sizeLine; decide)
        -- the new list
        generalize hD : g.objs.size = D
        have nD : H1 D = none := I2.hok.fresh (Nat.le_of_eq hD)
        generalize hs3 : ({ s1 with heap := g.push { cls := .type "list", data := .seq ([] : List Value).toArray } } : Shared) = s3
        have h3 : s3.heap = g.push { cls := .type "list", data := .seq ([] : List Value).toArray } := by rw [← hs3]
        have I3 : Inv X pins σ (upd H1 D (.lst [])) s3 := by
          rw [← hs3]
          refine I2.laid (t' := s1.toks) (fun c o e => Heap.get?_push_of_some _ e) (Nat.le_of_eq hD) ⟨Nat.zero_le _, [], 0, .nil, ?_⟩
          rw [← hD]
          exact Heap.get?_push_size _ rfl
        have f3 : ∀ c ∈ [z, TI, TO, j1, j2], FpOk X pins (upd H1 D (.lst [])) c ∧ c < s3.heap.objs.size := fun c hc => by
          have l := (old c hc).2
          rw [← hsz] at l
          refine ⟨⟨?_, (f2 c hc).2⟩, by rw [h3, Heap.size_push]; exact Nat.lt_succ_of_lt l⟩
          rw [upd_ne (by rw [← hD]; exact Nat.ne_of_lt l)]
          exact (f2 c hc).1
        have zs3 : ZS s3.heap z TI TO j1 j2 a b 0 := zs0.at fun c _ o e => by
          rw [h3]
          exact Heap.get?_push_of_some _ e
        have B0 := block_start I3 ok nd f3
        have B1 := blk_pin I3 hp B0 rfl fun c o e => pushCells_keeps _ _ _ _ (Heap.get?_push_of_some _ e)
        have xg := pg s3 (upd H1 D (.lst [])) s3.heap.objs.size (cellsFrom (s3.heap.objs.size + 1) scope.names (cloFrom X.env.cells scope.names [])) [z, TI, TO, j1, j2]
        have xn := hn (cellsFrom (s3.heap.objs.size + 1) scope.names (cloFrom X.env.cells scope.names [])) s3.heap.objs.size
        have xt := pt s3 (upd H1 D (.lst [])) s3.heap.objs.size (cellsFrom (s3.heap.objs.size + 1) scope.names (cloFrom X.env.cells scope.names [])) [z, TI, TO, j1, j2]
        have xe := pe s3 (upd H1 D (.lst [])) s3.heap.objs.size (cellsFrom (s3.heap.objs.size + 1) scope.names (cloFrom X.env.cells scope.names [])) [z, TI, TO, j1, j2]
        have nf : ∀ c ∈ [z, TI, TO, j1, j2], (upd H1 D (.lst [])) c = none := fun c hc => (f3 c hc).1.1
        show codeAny _ _ (.compStart _ 0 (.ref z) (.ref D) (compEnvC scope (cellsFrom (s3.heap.objs.size + 1) scope.names (cloFrom X.env.cells scope.names [])) s3.heap.objs.size X.env)) (compPost (model X.prog X.w) X.A X.xe none (EP X pins σ Q) (.ref D) s3.heap.objs.size) { s3 with heap := pushCells (s3.heap.push { cls := .type "dict", data := .dict #[] }) scope.names }
        generalize hce : compEnvC scope (cellsFrom (s3.heap.objs.size + 1) scope.names (cloFrom X.env.cells scope.names [])) s3.heap.objs.size X.env = ce at B0 B1 xg xn xt xe ⊢
        have cL : ce.locals = s3.heap.objs.size := by
          subst hce
          rfl
        have zs4 : ZS (pushCells (s3.heap.push { cls := .type "dict", data := .dict #[] }) scope.names) z TI TO j1 j2 a b 0 := zs3.at fun c _ o e => pushCells_keeps _ _ _ _ (Heap.get?_push_of_some _ e)
        generalize hs4 : ({ s3 with heap := pushCells (s3.heap.push { cls := .type "dict", data := .dict #[] }) scope.names } : Shared) = s4 at B0 B1 ⊢
        have zs5 : ZS s4.heap z TI TO j1 j2 a b 0 := by
          rw [← hs4]
          exact zs4
        generalize hH3 : upd H1 D (.lst []) = H3 at I3 B0 B1 xg xn xt xe nf f3
        have stat : ∀ {τ : L2.St} {H' : Hp} {s' : Shared}, Inv (X.blk s3 H3 scope ce [z, TI, TO, j1, j2]) [p] τ H' s' → (∀ c ∈ [z, TI, TO, j1, j2], H' c = none) → ∀ c ∈ [z, TI, TO, j1, j2], FpOk (X.blk s3 H3 scope ce [z, TI, TO, j1, j2]) [p] H' c := fun {τ H' s'} J hn c hc =>
          ⟨hn c hc, (J.ok.exf c hc).1, J.ok.exfs c hc, .inl hc, fun x u e => (J.ok.exf c hc).2 x u e, fun q hq => by
            have e : q = p := by simpa using (show q ∈ ([] : List (Addr × Obj)) ++ [p] from hq)
            subst e
            exact fun z => (f3 c hc).1.2.2.2.2.2 q (List.mem_append_left _ hp) z⟩
        let fp := [z, TI, TO, j1, j2]
        let own := [(lab, i0), (good, i1)].map (·.2)
        let Pv : Nat → Hp → Prop := fun i H' => (∀ c o, H1 c = some o → H' c = some o) ∧ H' D = some (.lst ((sel (xs.take i) (ys.take i)).map V.str))
        have lst : ∀ {i : Nat} {H' : Hp}, Pv i H' → SqL X.K H' a (xs.map V.str) ∧ SqL X.K H' b (ys.map V.bl) := fun {i H'} q => by
          refine ⟨?_, ?_⟩
          · rcases qa with (e | ⟨o, e⟩) | e
            · exact .inl (.inl (q.1 _ _ e))
            · exact .inl (.inr ⟨o, q.1 _ _ e⟩)
            · exact .inr e
          · rcases qb with (e | ⟨o, e⟩) | e
            · exact .inl (.inl (q.1 _ _ e))
            · exact .inl (.inr ⟨o, q.1 _ _ e⟩)
            · exact .inr e
        have loop : codeAny (model X.prog X.w) X.A (.compLoop (.ListComp (.Name lab q1) [⟨.Tuple [.Name lab q2, .Name good q3] kk q4, .Call (.Name "zip" q5) [e1, e2] [] q6, [.Name good q7], 0⟩] scope pos) 0 (.ref z) (.ref D) ce) (compPost (model X.prog X.w) X.A X.xe none (EP X pins σ Q) (.ref D) s3.heap.objs.size) s4 := by
          refine compLoop_any (fun n s' => ∃ i H', n = xs.length - i ∧ i ≤ xs.length ∧ Inv (X.blk s3 H3 scope ce fp) [p] (wipe σ own) H' s' ∧ ZS s'.heap z TI TO j1 j2 a b i ∧ (∀ c ∈ fp, H' c = none) ∧ Pv i H') ?_ xs.length ⟨0, H3, by simp, Nat.zero_le _, B1, zs5, nf, ?_, ?_⟩
          · rintro n s5 ⟨i, H5, rfl, hi, I5, Z5, n5, P5⟩
            obtain ⟨la, lb⟩ := lst P5
            obtain ⟨ja, wa, ga, _⟩ := I5.list la
            obtain ⟨jb, wb, gb, _⟩ := I5.list lb
            have ka := wa.length
            have kb := wb.length
            rw [List.length_map] at ka kb
            by_cases hlt : i < xs.length
            · have hlt2 : i < ys.length := by omega
              obtain ⟨u, eu, ru⟩ := wa.get (show (xs.map V.str)[i]? = some (.str xs[i]) by simp [hlt])
              obtain ⟨u2, eu2, ru2⟩ := wb.get (show (ys.map V.bl)[i]? = some (.bl ys[i]) by simp [hlt2])
              obtain ⟨x0, y0, hTO6⟩ := Z5.to
              refine wpAny_pyNext_zip_item ap Z5.z Z5.ti hTO6 Z5.l1 Z5.l2 ga.isList gb.isList (x := u) (y := u2) (by simpa using eu) (by simpa using eu2) fun g' z' TO' l1' l2' hT hsz' hk' => ?_
              refine wpAny_letOwnedTupleGo_zip (s := { s5 with heap := g' }) z' fun g2 z2 sb => ?_
              have hzl : z < s5.heap.objs.size := Heap.lt_size Z5.z
              have hT2 : g2.get? s5.heap.objs.size = some { cls := .type "tuple", data := .seq #[u, u2] } := (sb.2 _ (Nat.ne_of_gt hzl)).trans hT
              have I6 : Inv (X.blk s3 H3 scope ce fp) [p] (wipe σ own) (upd H5 s5.heap.objs.size (.tup [V.str xs[i], V.bl ys[i]])) { s5 with heap := g2 } :=
                I5.turnedNew (t' := s5.toks) (ch := fp) (fun c o hb q => (sb.2 c (fun e => hb (by simp [fp, e]))).trans (hk' c o (fun e => hb (by simp [fp, e])) (fun e => hb (by simp [fp, e])) (fun e => hb (by simp [fp, e])) (fun e => hb (by simp [fp, e])) q)) (stat I5 n5) (Nat.le_refl _)
                  ⟨by show 2 ≤ sizeLine; decide, [u, u2], .cons ru (.cons ru2 .nil), ⟨_, hT2, rfl, _, rfl⟩⟩
              have Z6 : ZS g2 z TI TO j1 j2 a b (i + 1) := ⟨z2, (sb.2 _ ap.TIz).trans (hk' _ _ ap.TIz ap.TITO ap.TIi1 ap.TIi2 Z5.ti), ⟨u, u2, (sb.2 _ ap.TOz).trans TO'⟩, l1'.at fun o q => (sb.2 _ ap.i1z).trans q, l2'.at fun o q => (sb.2 _ ap.i2z).trans q⟩
              have nT : H5 s5.heap.objs.size = none := I5.hok.fresh (Nat.le_refl _)
              have n6 : ∀ c ∈ fp, (upd H5 s5.heap.objs.size (.tup [V.str xs[i], V.bl ys[i]])) c = none := fun c hc => by
                obtain ⟨o, e, _⟩ := Z5.obj c hc
                rw [upd_ne (Nat.ne_of_lt (Heap.lt_size e))]
                exact n5 c hc
              have P6 : Pv i (upd H5 s5.heap.objs.size (.tup [V.str xs[i], V.bl ys[i]])) := by
                refine ⟨fun c o e => ?_, ?_⟩
                · rw [upd_ne (ne_of_none (P5.1 c o e) nT)]
                  exact P5.1 c o e
                · rw [upd_ne (ne_of_none P5.2 nT)]
                  exact P5.2
              generalize hH6 : upd H5 s5.heap.objs.size (.tup [V.str xs[i], V.bl ys[i]]) = H6 at I6 n6 P6
              have qT : SqT X.K H6 s5.heap.objs.size [V.str xs[i], V.bl ys[i]] := by
                rw [← hH6]
                exact .inl (.inl upd_same)
              have I7 := I6.pinned (stat I6 n6) Z6.obj
              generalize hs6 : ({ s5 with heap := g2 } : Shared) = s6 at I6 I7 ⊢
              have eg : s6.heap = g2 := by rw [← hs6]
              rw [← eg] at Z6
              obtain ⟨its, rv, pT, _⟩ := I7.tuple qT
              have hot7 : HotAt X.A p.1 s6.heap := by
                obtain ⟨v1, d1, c1⟩ := hot.2
                exact ⟨hot.1, p.2, v1, (I7.pin p (List.mem_append_right _ (List.mem_append_left _ List.mem_cons_self))).1, d1, c1⟩
              refine unpack_hot (x1 := p.1) hot7 pT (by rw [xn.1]; simp [← rv.length]) xn.2 fun g3 k3 => ?_
              rw [eg] at I7
              have I8 : Inv (X.blk s3 H3 scope ce fp) ([p] ++ pinsAt fp g2) (wipe σ own) H6 { s6 with heap := g3 } := I7.kept (t' := s6.toks) fun c o e => k3 c o (Nat.ne_of_lt (Heap.lt_size e)) e
              have wl : (wipe σ own).length = σ.length := wipe_length σ own
              refine thnF (xg.run _ _ (wipe σ own) H6 _ _ (fun σ' H' => σ' = ((wipe σ own).set i0 (some (.str xs[i]))).set i1 (some (.bl ys[i])) ∧ H' = H6) I8 (by simpa using rv) ⟨_, _, rfl, _, _, rfl, rfl, rfl, rfl⟩) fun _ s8 ⟨σ8, H8, I9, e8, eH⟩ => ?_
              subst e8 eH
              have at1 : (((wipe σ own).set i0 (some (.str xs[i]))).set i1 (some (.bl ys[i])))[i1]? = some (some (V.bl ys[i])) := by
                rw [List.getElem?_set_self (by rw [List.length_set, wl]; exact hi1)]
              have at0 : (((wipe σ own).set i0 (some (.str xs[i]))).set i1 (some (.bl ys[i])))[i0]? = some (some (V.str xs[i])) := by
                rw [List.getElem?_set_ne (Ne.symm hne), List.getElem?_set_self (by rw [wl]; exact hi0)]
              refine thnF (xt.run _ s8 _ H8 (fun bb H' => bb = ys[i] ∧ H' = H8) I9 ⟨ys[i], at1, rfl, rfl⟩) fun bb s9 ⟨H9, I10, ebb, eH9⟩ => ?_
              subst eH9
              have sn := sel_snoc xs ys i xs[i] ys[i] (by simp [hlt]) (by simp [hlt2])
              have fin : ∀ {s' : Shared} {H' : Hp}, Inv (X.blk s3 H3 scope ce fp) ([p] ++ pinsAt fp g2) (((wipe σ own).set i0 (some (.str xs[i]))).set i1 (some (.bl ys[i]))) H' s' → Pv (i + 1) H' → ∃ m, m < xs.length - i ∧ ∃ i H', m = xs.length - i ∧ i ≤ xs.length ∧ Inv (X.blk s3 H3 scope ce fp) [p] (wipe σ own) H' s' ∧ ZS s'.heap z TI TO j1 j2 a b i ∧ (∀ c ∈ fp, H' c = none) ∧ Pv i H' := fun {s' H'} J PP => by
                have pin' : ∀ c ∈ fp, ∀ o, g2.get? c = some o → s'.heap.get? c = some o ∧ H' c = none := fun c hc o e =>
                  let y := J.pin (c, o) (List.mem_append_right _ (List.mem_append_right _ (mem_pinsAt hc e)))
                  ⟨y.1, y.2.1⟩
                rw [eg] at Z6
                refine ⟨xs.length - (i + 1), by omega, i + 1, H', rfl, hlt, (J.unpinned (pins := [p])).weak (by rw [List.length_set, List.length_set]) (fun j v e => ?_), Z6.at fun c hc o e => (pin' c hc o e).1, fun c hc => ?_, PP⟩
                · have nj := (wipe_some e).2
                  have n0 : i0 ≠ j := fun q => nj (by simp [own, q])
                  have n1 : i1 ≠ j := fun q => nj (by simp [own, q])
                  rw [List.getElem?_set_ne n1, List.getElem?_set_ne n0]
                  exact e
                · obtain ⟨o, e, _⟩ := Z6.obj c hc
                  exact (pin' c hc o e).2
              cases hb : ys[i] with
              | false =>
                rw [hb] at ebb sn
                subst ebb
                simp only [Bool.false_eq_true, if_false]
                rw [hb] at fin I10
                refine fin I10 ⟨P6.1, ?_⟩
                rw [sn, List.append_nil]
                exact P6.2
              | true =>
                rw [hb] at ebb sn at0
                subst ebb
                simp only [if_true]
                rw [hb] at fin I10
                refine thnF (xe.run _ s9 _ H9 (fun v H' => v = .str xs[i] ∧ H' = H9) I10 ⟨_, at0, rfl, rfl⟩) fun y s10 ⟨yv, H10, I11, r11, e11, eH11⟩ => ?_
                subst e11 eH11
                have lz : ((sel (xs.take i) (ys.take i)).map V.str).length < sizeLine := by
                  have h1 := sel_len (xs.take i) (ys.take i)
                  rw [List.length_take] at h1
                  rw [List.length_map, sizeLine_eq]
                  omega
                refine app_ok (X := X.blk s3 H3 scope ce fp) I11 P6.2 lz r11 fun s11 I12 => fin I12 ⟨fun c o e => ?_, ?_⟩
                · rw [upd_ne (ne_of_none e nD)]
                  exact P6.1 c o e
                · rw [upd_same, sn, List.map_append]
                  rfl
            · have ei : i = xs.length := by omega
              subst ei
              have hot5 : HotAt X.A p.1 s5.heap := by
                obtain ⟨v1, d1, c1⟩ := hot.2
                exact ⟨hot.1, p.2, v1, (I5.pin p (List.mem_append_right _ List.mem_cons_self)).1, d1, c1⟩
              refine zip_end_hot (x1 := p.1) hot5 ap.i1z ap.l1z Z5.z Z5.ti Z5.l1 ga.isList (by simp [← ka]) fun g' k' => ?_
              have I6 : Inv (X.blk s3 H3 scope ce fp) [p] (wipe σ own) H5 { s5 with heap := g' } := I5.turnedL (t' := s5.toks) (ch := fp) (fun c o hb q => k' c o (fun e => hb (by simp [fp, e])) (fun e => hb (by simp [fp, e])) q) (stat I5 n5)
              generalize hs6 : ({ s5 with heap := g' } : Shared) = s6 at I6 ⊢
              have I7 : Inv X pins σ H5 s6 := I3.call' (ch := fp) I6.os I6.base I6.hok I6.bare fun c hc => ⟨(f3 c hc).1.2.2.2.1, (f3 c hc).1.2.1, (f3 c hc).1.2.2.2.2.1, (f3 c hc).1.2.2.2.2.2⟩
              have nC : H5 s3.heap.objs.size = none := by
                have q : H5 ce.locals = none := I6.free
                rw [cL] at q
                exact q
              obtain ⟨m, hm6, _⟩ := I6.loc
              have hm6 : s6.heap.Ns ce.locals m := hm6
              rw [cL] at hm6
              obtain ⟨f0, f1, f2', f3', f4, f5⟩ := I3.fpOk (H' := H5) (Nat.le_refl _) nC
              refine ⟨m, hm6, fun g'' sb => ⟨.ref D, H5, I7.turned (t' := s6.toks) (fun c o hc e => (sb.2 c hc).trans e) f0 f1 f3' f4 f5, rfl, z1 D H5 nD P5.1 ?_⟩⟩
              have := P5.2
              rw [List.take_length, hlen, List.take_length] at this
              exact this
          · intro c o e
            rw [← hH3, upd_ne (ne_of_none e nD)]
            exact e
          · rw [← hH3, upd_same]
            rfl
        exact codeAny_compStart_list loop (wpAny_pyIter_zip zs5.z loop)
end
end HN

namespace HN
open PySem PySem.Spec PyProof.Rows L2 HotX L2H
section
variable {Y : Cx} {p : Addr × Obj} {D : Addr} {x ev : Str} {q1 q2 q3 q4 : Pos} {es : List Expr} {bs : List Bool} {b : Bool}
theorem isE_at (hp : p ∈ Y.pn) (C : ExcC Y.K D) (hz : Zc (.ref D) none p.2) (hf : ∃ vs, p.2.data = .fields vs) : CallR Y (.builtin "isinstance") (rIsE Y.K D p.1) := by
  intro pz sz σz Hz us ws Qz J r hq
  obtain ⟨cc, cw, bb, rfl, hw, ek, q⟩ := hq
  cases r with
  | cons r1 rr => cases rr with
    | cons r2 rr => cases rr with
      | nil =>
        cases r1
        have e2 := hw _ r2
        subst e2
        have g := (J.pin p (List.mem_append_left _ hp)).1
        obtain ⟨pa, po⟩ := p
        obtain ⟨oc, od, oda, osl⟩ := po
        obtain ⟨vs, ev⟩ := hf
        obtain ⟨z1, z2⟩ := hz
        dsimp only at z1 z2 ev g
        subst z1 z2 ev
        exact PySem.W.kia_one (H := fun h => PySem.W.InstAt h pa _ D none) (PySem.W.handS_kitx_exc C.hg C.hk C.hs C.hd C.ha C.hn C.ht C.hm) J.kIn ⟨g, rfl, rfl, trivial⟩ ek (fun z => nomatch z) fun tk => ⟨.bl bb, Hz, J.kept (t' := tk) fun _ _ z => z, rfl, q⟩
def tBs (a : Addr) (bs : List Bool) : TA := fun σ H Q => σ[0]? = some (some (.ref a)) ∧ Q (bs.map V.bl) H
theorem paI {es : List Expr} {t t' : TA} (h : PA Y es t) (i : ∀ σ H Q, t' σ H Q → t σ H Q) : PA Y es t' := ⟨fun a pins s σ H Q I q => h.run a pins s σ H Q I (i σ H Q q)⟩
theorem nb_nil {a : Addr} : PA Y [] (tBs a []) := paI pa_nil fun σ H Q q => q.2
theorem nb_step {e : Expr} {r : List V → Hp → VK → Prop} {a : Addr} {c : V} (hr : r = rIsE Y.K D a) (h : PE Y e (tCB r (tCons (tVar 0) (tCons (tC c) tNil)))) (cw : Value) (hw : ∀ u, RelV c u → u = cw) (k : PySem.W.kitOne Y.K (.ref D) cw = some b) (hs : PA Y es (tBs a bs))
    (he : starEach (e :: es) Y.env = (false, eval e Y.env) :: starEach es Y.env) : PA Y (e :: es) (tBs a (b :: bs)) := by
  subst hr
  exact paI (pa_cons h hs he) fun σ H Q q => ⟨_, q.1, c, cw, b, rfl, hw, k, q.1, q.2⟩
theorem nb_ref (hE : CallR Y (.builtin "isinstance") (rIsE Y.K D p.1)) (hm : Y.mg "isinstance" = none) {c : Addr} (hx : Y.mg x = some (.ref c)) (k : PySem.W.kitOne Y.K (.ref D) (.ref c) = some b) (hs : PA Y es (tBs p.1 bs)) (hN : Y.N[0]? = some ev := by rfl) (hv : Vis Y.env.scope ev := by exact Or.inl rfl)
    (gi : Gl Y "isinstance" := by rfl) (gx : Gl Y x := by rfl) (d1 : (x == ("__debug__" : Str)) = false := by decide) (d2 : (ev == ("__debug__" : Str)) = false := by decide) (d3 : (ev == ("__classdict__" : Str)) = false := by decide) :
    PA Y (.Call (.Name "isinstance" q1) [.Name ev q2, .Name x q3] [] q4 :: es) (tBs p.1 (b :: bs)) :=
  nb_step rfl (pe_callB hE gi hm (by kernel_rfl) (pa_cons (pe_var hN hv d2 d3) (pa_cons (pe_glob (v := .ref c) gx hx rfl d1) pa_nil (by rfl)) (by rfl)) (by decide) (by decide) (by rfl) (by rfl)) (.ref c) (fun _ e => e) k hs (by rfl)
theorem nb_ty (hE : CallR Y (.builtin "isinstance") (rIsE Y.K D p.1)) (hm : Y.mg "isinstance" = none) {T : String} (hx : Y.mg x = none) (hb : bootBuiltins x = some (.type T)) (k : PySem.W.kitOne Y.K (.ref D) (.type T) = some b) (hs : PA Y es (tBs p.1 bs)) (hN : Y.N[0]? = some ev := by rfl) (hv : Vis Y.env.scope ev := by exact Or.inl rfl)
    (gi : Gl Y "isinstance" := by rfl) (gx : Gl Y x := by rfl) (d0 : x ≠ "__name__" := by decide) (d1 : (x == ("__debug__" : Str)) = false := by decide) (d2 : (ev == ("__debug__" : Str)) = false := by decide) (d3 : (ev == ("__classdict__" : Str)) = false := by decide) :
    PA Y (.Call (.Name "isinstance" q1) [.Name ev q2, .Name x q3] [] q4 :: es) (tBs p.1 (b :: bs)) :=
  nb_step rfl (pe_callB hE gi hm (by kernel_rfl) (pa_cons (pe_var hN hv d2 d3) (pa_cons (pe_bltn (v := .ty T) gx hx hb rfl d0 d1) pa_nil (by rfl)) (by rfl)) (by decide) (by decide) (by rfl) (by rfl)) (.type T) (fun _ e => e) k hs (by rfl)
end
/-! ### what its body does -/
/-- the reading of the comprehension -/
def tZip (K : PySem.W.Frag) (i0 i1 : Nat) (t1 : TA) : TE := fun σ H Q => t1 σ H fun vs H1 => ∃ a b xs ys, vs = [.ref a, .ref b] ∧ SqL K H1 a (xs.map V.str) ∧ SqL K H1 b (ys.map V.bl) ∧ xs.length = ys.length ∧ xs.length ≤ 1000 ∧ i0 < σ.length ∧ i1 < σ.length ∧ i0 ≠ i1 ∧
  ∀ D H2, H1 D = none → (∀ c o, H1 c = some o → H2 c = some o) → H2 D = some (.lst ((sel xs ys).map V.str)) → Q (.ref D) H2
def tSplit (to te : TE) : TE := tM1 (fun x xs H Q => ∃ a b, x = .str a ∧ xs = [.str b] ∧ (b.length == 0) = false ∧ a.length + 2 ≤ sizeLine ∧ rNewStrs (Txt.split a b) H Q) to te
def tJoin (K : PySem.W.Frag) (to te : TE) : TE := tM1 (fun x xs H Q => ∃ a p, ∃ ys : List Str, x = .str a ∧ xs = [.ref p] ∧ (SqL K H p (ys.map V.str) ∨ SqT K H p (ys.map V.str)) ∧ (ys.map (·.length)).sum + ys.length * a.length ≤ 16777216 ∧ Q (.str (Txt.join a ys)) H) to te
def tNames (K : PySem.W.Frag) (a : Addr) (bs : List Bool) (L B : Str) : TS :=
  tSeq (tAsg (tLst (tBs a bs)) (gName 1)) (tSeq (tAsg (tC (.str L)) (gName 2)) (tRet (tJoin K (tC (.str B)) (tZip K 3 4 (tCons (tSplit (tVar 2) (tC (.str B))) (tCons (tVar 1) tNil))))))
/-- the text it makes -/
def namesT (bs : List Bool) (L B : Str) : Str := Txt.join B (sel (Txt.split L B) bs)
theorem names_read {K : PySem.W.Frag} {a : Addr} {bs : List Bool} {L B : Str} {D : Ends} {σ : L2.St} {H : Hp} (hl : σ.length = 5) (h0 : σ[0]? = some (some (.ref a))) (hB : (B.length == 0) = false) (hL : L.length ≤ 1000) (hn : (Txt.split L B).length = bs.length) (hb : bs.length ≤ 1000)
    (hz : ((sel (Txt.split L B) bs).map (·.length)).sum + (sel (Txt.split L B) bs).length * B.length ≤ 16777216) (q : ∀ H', (∀ c o, H c = some o → H' c = some o) → D.rt (.str (namesT bs L B)) H') : tNames K a bs L B D σ H := by
  have sz : 1002 ≤ sizeLine := by rw [sizeLine_eq]; decide
  refine ⟨h0, by rw [List.length_map]; omega, fun p1 n1 => ?_⟩
  refine ⟨⟨B, rfl⟩, ?_⟩
  refine ⟨.str L, by rw [List.getElem?_set_self (by rw [List.length_set, hl]; decide)], ⟨L, rfl⟩, ?_⟩
  refine ⟨L, B, rfl, rfl, hB, by omega, fun p2 n2 => ?_⟩
  refine ⟨_, by rw [List.getElem?_set_ne (by decide), List.getElem?_set_self (by rw [hl]; decide)], ?_⟩
  refine ⟨p2, p1, Txt.split L B, bs, rfl, .inl (.inl upd_same), .inl (.inl ?_), hn, by omega, by rw [List.length_set, List.length_set, hl]; decide, by rw [List.length_set, List.length_set, hl]; decide, by decide, fun D2 H2 nD k e => ?_⟩
  · rw [upd_ne (ne_of_none upd_same n2), upd_same]
  · refine ⟨B, D2, sel (Txt.split L B) bs, rfl, rfl, .inl (.inl (.inl e)), hz, q H2 fun c o e2 => k c o ?_⟩
    have e3 : upd H p1 (HO.lst (bs.map V.bl)) c = some o := by
      rw [upd_ne (ne_of_none e2 n1)]
      exact e2
    rw [upd_ne (ne_of_none e3 n2)]
    exact e3
end HN
namespace HN
open PySem PySem.Spec PyProof.Rows L2
theorem pt_good {X : Cx} {e : Expr} {i : Nat} (h : PE X e (tVar i)) (he : ∀ whole, isTrue e X.env whole = (do let v ← whole; standAt e.pos; holding [v] (truthy v)) := by intro _; rfl) : PTs X [e] (fun σ H Q => ∃ b, σ[i]? = some (some (.bl b)) ∧ Q b H) := by
  refine pts_one ⟨fun pins s σ H Q I ⟨b, e, q⟩ => (pt_val h he).run pins s σ H Q I ?_⟩
  exact ⟨_, e, b, rfl, q⟩
end HN

namespace DL
open PySem PySem.Spec PyProof.Rows L2 L2H
/-! ### the def that tells an error's names -/
structure NamesC (P : Program) (w : World) (K : PySem.W.Frag) (mg : Str → Option Value) (base : Heap) (k : Nat) (x : Str) (D : Addr) (text : Str) : Prop where
  run : ∀ (A : Around) (outer : List Env) (s : Shared) (H : Hp) (p : Addr × Obj) (Q : VK) (E : XK), RoomH k A → Hot1 A p → PinOk outer H s p → Env0 P w K mg base A outer s H → Zc (.ref D) none p.2 → (∃ vs, p.2.data = .fields vs) →
    (∀ H', (∀ c o, H c = some o → H' c = some o) → Q (.str text) H') → codeAny (model P w) A (.call (.ref (He.ga K x)) ⟨[.ref p.1], []⟩) (CR (L2N.CX P w) outer P w H s Q E) s
  mx : mg x = some (.ref (He.ga K x))
  kp : PySem.W.keepIn K (.ref (He.ga K x)) = true
theorem names_mk {P : Program} {w : World} {K : PySem.W.Frag} {mg : Str → Option Value} {base : Heap} {k : Nat} {x ev : Str} {D : Addr} {st : Stmt} {fd : FuncData} {N : List Str} {bs : List Bool} {L B : Str} (F : L2.Fun K x x st (He.ga K x) fd) (S : FnScope N [ev] (defScope st)) (hm : mg x = some (.ref (He.ga K x))) (hb : L2.Binds K fd [ev] [])
    (hN : N.length = 5) (hB : (B.length == 0) = false) (hL : L.length ≤ 1000) (hn : (Txt.split L B).length = bs.length) (hbs : bs.length ≤ 1000) (hz : ((HN.sel (Txt.split L B) bs).map (·.length)).sum + (HN.sel (Txt.split L B) bs).length * B.length ≤ 16777216)
    (hbody : ∀ (cdv : Value) (A : Around) (outer : List Env) (s : Shared) (H : Hp) (E : XK) (p : Addr × Obj), Hot1 A p → Zc (.ref D) none p.2 → (∃ vs, p.2.data = .fields vs) → RoomH k (A.deeper (envOfC x (defScope st) s.heap.objs.size (He.ga K x) cdv)) →
      PSs (cxH (L2N.CX P w) P w K mg base N x (defScope st) (He.ga K x) cdv A outer s H E p) (defBody st) (HN.tNames K p.1 bs L B)) : NamesC P w K mg base (k + 1) x D (HN.namesT bs L B) := by
  refine ⟨fun A outer s H p Q E hr hot pin e0 zc fl hq => ?_, hm, F.kp⟩
  obtain ⟨oc, od, kV, doc, pm, an, cdv, ct, osl, rfl, lk, hcd⟩ := F.ex
  have kx : K.In s.heap := e0.mod.kin.keeps fun b o e => (e0.bs b o e).1
  have nolim : s.heap.NoLimit := e0.mod.nolimit.keeps fun b o e => (e0.bs b o e).1
  have kinds : ∀ y ∈ ([ev].zip [Value.ref p.1]), (defScope st).names.lookup y.1 = some .local ∨ ((defScope st).names.lookup y.1 = some .cell ∧ ((cellsFrom (s.heap.objs.size + 1) (defScope st).names []).lookup y.1).isSome = true) := fun y hy => by
    obtain ⟨n, v⟩ := y
    exact (S.par n (List.of_mem_zip hy).1).imp id fun q => ⟨q, PySem.W.cellsFrom_some _ _ _ (.inl q)⟩
  have hb1 := hb s [.ref p.1] kx rfl
  rw [List.append_nil] at hb1
  refine codeAny_call_function hr.depth (kx _ _ lk) rfl S.co S.gen rfl (PySem.W.codeRec_of kx hcd) (hb1 _ _ _ _ ?_)
  refine wpAny_newFunctionEnv_cells S.kind kinds fun env he s1 xc => ?_
  subst he
  refine ⟨nolim.keeps xc.toInCall.keep, codeAny_func ?_⟩
  have I := inv_startH (CX := L2N.CX P w) (P := P) (w := w) (K := K) (mg := mg) (base := base) (f := He.ga K x) (cd := cdv) (A := A) (E := E) (qual := x) S pin e0 (vs := [V.ref p.1]) rfl (.cons rfl .nil) xc
  have hst : (L2.start N [V.ref p.1]).length = 5 := by
    unfold L2.start
    rw [List.length_append, List.length_map, List.length_replicate, hN]
    rfl
  have hs0 : (L2.start N [V.ref p.1])[0]? = some (some (V.ref p.1)) := rfl
  have B0 := hbody cdv A outer s H E p hot zc fl (hr.deeper _)
  refine wpAny_mono (B0.run [] s1 (L2.start N [V.ref p.1]) H { nx := fun _ _ => False, rt := Q } I (HN.names_read hst hs0 hB hL hn hbs hz hq)) (fun fl s' hs => ?_) fun e s' hs => hs
  cases fl with
  | ret u =>
    obtain ⟨v, σ', H', J, rv, q⟩ := hs
    exact ⟨v, H', J.os, J.bare, J.base, J.hok, rv, q⟩
  | next =>
    obtain ⟨_, _, _, q⟩ := hs
    exact q.elim
  | brk =>
    obtain ⟨_, _, _, q⟩ := hs
    exact False.elim q
  | cont =>
    obtain ⟨_, _, _, q⟩ := hs
    exact False.elim q
section
variable {X : Cx} {G : Gx} {W : WX} {k i : Nat} {x ev : Str} {D : Addr} {text : Str} {q1 q2 pos : Pos}
/-- the suite's expression: what it gives of an error of the class at D -/
def SuE (X : Cx) (G : Gx) (i : Nat) (D : Addr) (e : Expr) (h : DL.D) : Prop := ∀ (a : Addr) (oe : Obj) (pn : List (Addr × Obj)), L2N.Zn (.ref D) none oe → (∃ vs, oe.data = .fields vs) →
  PE (X.suite a ((a, oe) :: pn)) e (fun σ H Q => σ[i]? = some (some (.ref a)) ∧ ∀ H' v, (∀ b o, H b = some o → H' b = some o) → (∀ φ, Rp X.K G φ H' h v) → Q v H')
theorem su_names {s : List Nat} (c : NamesC X.prog X.w X.K X.mg X.base k x D text) (hr : RoomH k X.A) (ht : text = ⟨s.toArray⟩) (hs : (s.all fun c => decide (c < 0x110000)) = true) (hN : X.N[i]? = some ev) (hv : Vis X.env.scope ev) (hg : Gl X x := by rfl) (hdb : (x == ("__debug__" : Str)) = false := by decide)
    (d2 : (ev == ("__debug__" : Str)) = false := by decide) (d3 : (ev == ("__classdict__" : Str)) = false := by decide) (hst : starEach [.Name ev q2] X.env = (false, eval (.Name ev q2) X.env) :: starEach [] X.env := by rfl) : SuE X G i D (.Call (.Name x q1) [.Name ev q2] [] pos) (.str s) := by
  subst ht
  intro a oe pn zn fl
  refine ⟨fun pins st σ H Q I ⟨h0, hq⟩ => ?_⟩
  refine wpAny_Call_Name_kw (ld_glob I hg c.mx ?_ hdb)
  refine PySem.W.callWith_K (h₀ := X.base) I.ok.mod.kin c.kp ?_ (by exact hst) (by rfl)
  show wpAny _ _ (spliced (backTo pos (starEach [.Name ev q2] X.env))) _ _ st
  rw [hst]
  show wpAny _ _ (spliced ((false, eval (.Name ev q2) X.env) :: backTo pos (starEach [] X.env))) _ _ st
  refine Calls.spliced_cons (thn ((pe_var (X := X.suite a ((a, oe) :: pn)) (pos := q2) (i := i) hN hv d2 d3).run pins st σ H (fun v H1 => v = .ref a ∧ H1 = H) I ⟨.ref a, h0, rfl, rfl⟩) fun u s1 ⟨v, H1, I1, r1, e1, e2⟩ => ?_)
  subst e1 e2
  obtain rfl : u = Value.ref a := r1
  refine Calls.spliced_nil ⟨I1.kIn, ?_⟩
  have P1 := I1.pin (a, oe) (List.mem_append_left _ List.mem_cons_self)
  have pin : PinOk (X.suite a ((a, oe) :: pn)).stack H1 s1 (a, oe) := ⟨P1.1, P1.2.1, fun hm => (List.mem_cons.mp (I1.stkSub a hm)).elim P1.2.2.1 P1.2.2.2.1, P1.2.2.2.2⟩
  have hot : Hot1 (X.suite a ((a, oe) :: pn)).A (a, oe) := ⟨rfl, by
    obtain ⟨vs, e⟩ := fl
    obtain ⟨_, _, z⟩ := zn
    exact ⟨vs, e, z vs e⟩⟩
  have rc := c.run (X.suite a ((a, oe) :: pn)).A X.stack s1 H1 (a, oe) Q (fun _ _ _ => False) ⟨hr.dp, hr.un⟩ hot pin I1.env0 zn.zc fl fun H' k2 => hq H' _ k2 fun _ => .str hs
  refine wpAny_call (codeAny_mono rc fun r s2 h2 => ?_)
  cases r with
  | error e =>
    obtain ⟨_, _, _, _, _, _, _, _, _, _, _, _, z⟩ := h2
    exact z.elim
  | ok fl =>
    cases fl with
    | ret u => exact I1.after h2
    | next => exact False.elim h2
    | brk => exact False.elim h2
    | cont => exact False.elim h2
theorem su_pair {e : Expr} {h : DL.D} {j kk : Nat} {cp : Pos} (s : SuE X G i D e h) (he : ∀ env, env = X.env → starEach [e] env = (false, eval e env) :: starEach [] env) (hz : ∀ env, env = X.env → starEach [.Constant .none j cp, e] env = (false, eval (.Constant .none j cp) env) :: starEach [e] env) : SuE X G i D (.Tuple [.Constant .none j cp, e] kk pos) (.tup [.non, h]) := by
  intro a oe pn zn fl
  refine peImp (pe_tup (pa_cons pe_non (pa_cons (s a oe pn zn fl) pa_nil (he _ rfl)) (hz _ rfl))) fun σ H Q ⟨h0, hq⟩ => ?_
  refine ⟨h0, fun H' v k r => ⟨by show 2 ≤ sizeLine; rw [sizeLine_eq]; decide, fun p np => hq _ _ (fun b o e => ?_) fun φ => .tup (SqT.of upd_same) (.cons .non (.cons ((r φ).mono (Ext.new np)) .nil))⟩⟩
  rw [upd_ne (ne_of_none (k b o e) np)]
  exact k b o e
end
/-! ### try, except x as n: return e -/
def sTry (nE i : Nat) (b : MS) (h : Nat → D) : MS := fun ρ st => match b ρ st with
  | .exc c ρ' st' => (match decide (c < nE) && decide (i < ρ'.length) with
    | true => .rt (h c) st'
    | false => .bad)
  | r => r
theorem st_try {X : Cx} {G : Gx} {W : WX} {x n : Str} {c : Addr} {i nE : Nat} {body : List Stmt} {e : Expr} {np pr pos' pos : Pos} {b : MS} {h : Nat → D} (hs : X.stack = X.env :: X.outer) (hf : X.env.frame = some X.env.locals) (hN : X.N.Nodup) (hi : X.N[i]? = some n) (hln : X.env.kindOf n = some .local)
    (hc : L2.Names X x (.ref c)) (tk : L2N.Takes X W) (hb : ∀ (W : WX) (pn : List (Addr × Obj)) (xe : Value → Shared → Prop), L2N.Takes (X.tr pn xe) W → PassesOwn (model X.prog X.w) X.A X.env xe → SS (X.tr pn xe) G W body b)
    (hsu : ∀ j, j < nE → PySem.W.exmOne X.K (.ref (G.tb.exs j)) (.ref c) = some true ∧ SuE X G i (G.tb.exs j) e (h j)) :
    ST X G W (.Try body [.ExceptHandler (some (.Name x np)) (some n) [.Return (some e) pr] pos'] [] [] pos) (sTry nE i b h) := by
  let ts : Addr → Value → Option Addr → TS := fun a cls d De σ H => ∃ j, j < nE ∧ cls = .ref (G.tb.exs j) ∧ d = none ∧ σ[i]? = some (some (.ref a)) ∧ ∀ H' v, (∀ b o, H b = some o → H' b = some o) → (∀ φ, Rp X.K G φ H' (h j) v) → De.rt v H'
  refine psImp (L2N.ps_try_as (ts := ts) (tb := fun W => tMS X.K G W b) (Wout := W) hs hf hN hi hln hc tk hb fun a oe cls d pn zn fl => ⟨fun pins s σ H De I q => ?_⟩) fun De σ H ⟨φ, ρ, st, so, p⟩ => ⟨φ, ρ, st, so, ?_⟩
  · obtain ⟨j, hj, e1, e2, h0, hq⟩ := q
    subst e1 e2
    exact (pss_one (ps_ret ((hsu j hj).2 a oe pn zn fl))).run pins s σ H De I ⟨h0, hq⟩
  · unfold sTry at p
    cases q : b ρ st with
    | nx ρ' st' => rw [q] at p; exact p
    | rt d st' => rw [q] at p; exact p
    | bk ρ' st' => rw [q] at p; exact p
    | ct ρ' st' => rw [q] at p; exact p
    | bad => rw [q] at p; exact p
    | exc cc ρ' st' =>
      rw [q] at p
      intro φ2 H2 σ2 x2 so2
      cases hj : decide (cc < nE) && decide (i < ρ'.length) with
      | false => simp only [hj] at p; exact p.elim
      | true =>
        simp only [hj] at p
        obtain ⟨hj1, hj2⟩ := Bool.and_eq_true_iff.mp hj
        have hj' := of_decide_eq_true hj1
        have hl : i < σ2.length := by
          rw [so2.e.len]
          exact of_decide_eq_true hj2
        refine ⟨true, (hsu cc hj').1, fun _ a na => ⟨cc, hj', rfl, rfl, by rw [List.getElem?_set_self hl], fun H3 v k r => ?_⟩, fun z => by cases z⟩
        exact p φ2 H3 v (x2.trans (Ext.of_same k)) (so2.s.same k) (r φ2)
end DL

namespace DL
open PySem PySem.Spec PyProof.Rows L2
section
variable {X : Cx} {G : Gx} {W : WX} {σ : St} {φ : List Addr} {H : Hp} {st : Store}
/-! ### str(i), int(s) of one figure -/
def dStr1 : D → M D
  | .int i => chk (decide (0 ≤ i) && decide (i < 10)) (ret (.str [48 + i.toNat]))
  | .str s => ret (.str s)
  | _ => fail
theorem fig (n : Nat) (h : n < 10) : ((toString (n : Int) : String) : Str) = ⟨#[48 + n]⟩ := by
  match n, h with
  | 0, _ | 1, _ | 2, _ | 3, _ | 4, _ | 5, _ | 6, _ | 7, _ | 8, _ | 9, _ => decide +kernel
theorem fig2 (n : Nat) (h : n < 10) : PySem.intText? ⟨#[48 + n]⟩ = some (n : Int) := by
  match n, h with
  | 0, _ | 1, _ | 2, _ | 3, _ | 4, _ | 5, _ | 6, _ | 7, _ | 8, _ | 9, _ => decide +kernel
theorem CallR.or {f : Value} {r r' : List V → Hp → VK → Prop} (h : CallR X f r) (h' : CallR X f r') : CallR X f (fun xs H Q => r xs H Q ∨ r' xs H Q) :=
  fun pins s σ H xs us Q I rv q => q.elim (h pins s σ H xs us Q I rv) (h' pins s σ H xs us Q I rv)
theorem cd_str : CallD X G (fun xs H Q => (∃ i, xs = [V.int i] ∧ i.natAbs.log2 < 1920 ∧ Q (.str (toString i)) H) ∨ ∃ a, xs = [V.str a] ∧ Q (.str a) H) (f1 dStr1) := cd1 fun φ H st d v W σ Q s r p => by
  cases r with
  | @int i =>
    obtain ⟨c, p1⟩ := Post.chk p
    obtain ⟨c1, c2⟩ := Bool.and_eq_true_iff.mp c
    have h1 := of_decide_eq_true c1
    have h2 := of_decide_eq_true c2
    obtain ⟨n, rfl⟩ := Int.eq_ofNat_of_zero_le h1
    have hn : n < 10 := by omega
    refine .inl ⟨_, rfl, ?_, ?_⟩
    · have : (n : Int).natAbs = n := by omega
      rw [this]
      match n, hn with
      | 0, _ | 1, _ | 2, _ | 3, _ | 4, _ | 5, _ | 6, _ | 7, _ | 8, _ | 9, _ => decide +kernel
    · rw [fig n hn]
      exact postNow (W := W) (σ := σ) s p1 _ (.str (by simp; omega))
  | str h => exact .inr ⟨_, rfl, postNow (W := W) (σ := σ) s p _ (.str h)⟩
  | _ => exact p.elim
def dInt1 : D → M D
  | .int i => ret (.int i)
  | .bl b => ret (.int (if b then 1 else 0))
  | .str [c] => chk (decide (48 ≤ c) && decide (c < 58)) (ret (.int ((c - 48 : Nat) : Int)))
  | _ => fail
theorem cd_int1 : CallD X G (fun xs H Q => ((∃ i, xs = [V.int i] ∧ Q (.int i) H) ∨ ∃ k, xs = [V.bl k] ∧ Q (.int (if k then 1 else 0)) H) ∨ ∃ a n, xs = [V.str a] ∧ PySem.intText? a = some n ∧ a.length ≤ 640 ∧ Q (.int n) H) (f1 dInt1) := cd1 fun φ H st d v W σ Q s r p => by
  cases r with
  | int => exact .inl (.inl ⟨_, rfl, postNow (W := W) (σ := σ) s p _ .int⟩)
  | bl => exact .inl (.inr ⟨_, rfl, postNow (W := W) (σ := σ) s p _ .int⟩)
  | @str z h =>
    match z, p with
    | [], p => exact p.elim
    | [c], p =>
      obtain ⟨k, p1⟩ := Post.chk p
      obtain ⟨c1, c2⟩ := Bool.and_eq_true_iff.mp k
      have h1 := of_decide_eq_true c1
      have h2 := of_decide_eq_true c2
      refine .inr ⟨_, ((c - 48 : Nat) : Int), rfl, ?_, by rw [str_len]; show 1 ≤ 640; decide, postNow (W := W) (σ := σ) s p1 _ .int⟩
      have := fig2 (c - 48) (by omega)
      rw [show 48 + (c - 48) = c by omega] at this
      exact this
    | _ :: _ :: _, p => exact p.elim
  | _ => exact p.elim
/-! ### text times number -/
def rMulS : R2 := fun x y H Q => ∃ (a : Str) (n : Int), x = .str a ∧ y = .int n ∧ 0 ≤ n ∧ n ≤ 1000 ∧ a.length ≤ 1000 ∧ Q (.str ⟨(List.replicate n.toNat a.cps.toList).flatten.toArray⟩) H
theorem fold_flat (c : Array Nat) : ∀ (n : Nat) (acc : Array Nat), (List.replicate n c).foldl (· ++ ·) acc = acc ++ (List.replicate n c.toList).flatten.toArray
  | 0, acc => by simp
  | n + 1, acc => by
    rw [List.replicate_succ, List.foldl_cons, fold_flat c n, List.replicate_succ, List.flatten_cons, Array.append_assoc]
    congr 1
    rw [← List.append_toArray]
theorem op_mulS : OpR X (binaryOp .Mult) rMulS := by
  intro pins s σ H x y u v Q I rx ry ⟨a, n, ex, ey, h0, h1, h2, q⟩
  subst ex ey
  obtain ⟨t, rfl⟩ := rx
  obtain ⟨t', rfl⟩ := ry
  have al : a.cps.toList.length = a.length := by simp [Str.length]
  refine PySem.P.mul_str (by rw [Bool.or_eq_false_iff]; exact ⟨decide_eq_false (by omega), decide_eq_false (by omega)⟩) (fun c1 c2 => ?_) (fun c1 c2 => ?_) ?_
  · have h3 : n * 1000 ≤ 2 ^ 63 - 1 := by omega
    have h4 : (1000 : Int) ≤ (2 ^ 63 - 1) / n := (Int.le_ediv_iff_mul_le (by omega)).mpr (by omega)
    omega
  · have h3 : a.length * n.toNat ≤ 1000 * 1000 := Nat.mul_le_mul h2 (by omega)
    unfold Builtin.Str.tooLong
    rw [sizeLine_eq]
    exact decide_eq_false (by omega)
  · by_cases c1 : n < 1
    · rw [if_pos c1]
      have e : n = 0 := by omega
      subst e
      exact ⟨by decide, .str _, H, I.tok _, ⟨_, rfl⟩, q⟩
    · rw [if_neg c1]
      by_cases c2 : (n == 1 || a.length == 0) = true
      · rw [if_pos c2]
        have e : (⟨(List.replicate n.toNat a.cps.toList).flatten.toArray⟩ : Str) = a := by
          rcases Bool.or_eq_true_iff.mp c2 with z | z
          · have e1 : n = 1 := by simpa using z
            subst e1
            simp
          · have e1 : a.cps.toList = [] := List.eq_nil_of_length_eq_zero (by rw [al]; simpa using z)
            have e2 : a = ⟨#[]⟩ := by
              obtain ⟨c⟩ := a
              have : c = #[] := by
                apply Array.toList_inj.mp
                exact e1
              rw [this]
            rw [e1, e2]
            simp
        rw [e] at q
        exact ⟨.str a, H, I, ⟨_, rfl⟩, q⟩
      · rw [if_neg c2]
        have e : (List.replicate n.toNat a.cps).foldl (· ++ ·) #[] = (List.replicate n.toNat a.cps.toList).flatten.toArray := by
          rw [fold_flat]
          simp
        rw [e]
        refine ⟨?_, .str _, H, I.tok _, ⟨_, rfl⟩, q⟩
        have h3 : n.toNat * a.length ≤ 1000 * 1000 := Nat.mul_le_mul (by omega) h2
        have h5 : (List.replicate n.toNat a.cps.toList).flatten.length = n.toNat * a.length := by
          rw [← al]
          simp [List.length_flatten]
        rw [str_len, h5, sizeLine_eq]
        omega
/-- a text times a number, or a list, or numbers -/
def dMulX (x y : D) : M D := match x, y with
  | .str s, .int n => chk (decide (0 ≤ n) && decide (n ≤ 1000) && decide (s.length ≤ 1000)) (ret (.str (List.replicate n.toNat s).flatten))
  | x, y => dMul x y
theorem op_mulX : OpR X (binaryOp .Mult) (fun x y H Q => rMulS x y H Q ∨ rMulD x y H Q) := OpR.or op_mulS op_mulD
theorem all_rep {s : List Nat} {q : Nat → Bool} (h : s.all q = true) : ∀ n : Nat, ((List.replicate n s).flatten).all q = true
  | 0 => rfl
  | n + 1 => by
    rw [List.replicate_succ, List.flatten_cons]
    exact all_app h (all_rep h n)
theorem od_mulX : OpD X G (fun x y H Q => rMulS x y H Q ∨ rMulD x y H Q) dMulX := fun φ H st dx dy x y W σ Q s rx ry p => by
  by_cases hc : ∃ z n, dx = .str z ∧ dy = .int n
  · obtain ⟨z, n, rfl, rfl⟩ := hc
    cases rx with
    | str hz =>
      cases ry
      obtain ⟨c, p1⟩ := Post.chk p
      obtain ⟨c12, c3⟩ := Bool.and_eq_true_iff.mp c
      obtain ⟨c1, c2⟩ := Bool.and_eq_true_iff.mp c12
      exact .inl ⟨_, _, rfl, rfl, of_decide_eq_true c1, of_decide_eq_true c2, by rw [str_len]; exact of_decide_eq_true c3, postNow (W := W) (σ := σ) s p1 _ (.str (all_rep hz _))⟩
  · right
    refine od_mul φ H st dx dy x y W σ Q s rx ry ?_
    have e : dMulX dx dy = dMul dx dy := by
      unfold dMulX
      split
      · rename_i z n
        exact absurd ⟨z, n, rfl, rfl⟩ hc
      · rfl
    rw [e] at p
    exact p
/-! ### s[::-1] -/
def dRev : D → M D
  | .str s => chk (decide (s.length ≤ LIM)) (ret (.str s.reverse))
  | .lst xs => chk (decide (xs.length ≤ LIM)) (ret (.lst xs.reverse))
  | .cel n => bnd (lLst (.cel n)) fun xs => ret (.lst xs.reverse)
  | _ => fail
def tRevS (te : TE) : TE := fun σ H Q => te σ H fun x H1 => ∃ z, x = .str z ∧ z.length ≤ sizeLine ∧ Q (.str ⟨z.cps.toList.reverse.toArray⟩) H1
theorem pick_rev (z : Str) : (Builtin.Str.strSliceIndices none none (-1) z.length).filterMap (z.cps[·]?) = z.cps.toList.reverse := by
  have e0 : Builtin.Str.strSliceIndices none none (-1) z.length = sliceRange ((z.length : Int) - 1) (-1) (-1) := rfl
  rw [e0, PySem.W.krv_sliceRange, PySem.W.krv_range, List.filterMap_reverse]
  congr 1
  exact PySem.W.krv_all z.cps
theorem pe_revS {e : Expr} {te : TE} {k : Nat} {p1 p2 p3 pos : Pos} (he : PE X e te) : PE X (.Subscript e (.Slice none none (some (.UnaryOp .USub (.Constant (.int 1) k p1) p2)) p3) pos) (tRevS te) := by
  refine ⟨fun pins s σ H Q I h => ?_⟩
  refine Subscript_ (thn (he.run pins s σ H _ I h) fun v s1 ⟨x, H1, I1, r1, z, ez, hz, q⟩ => ?_)
  subst ez
  obtain ⟨t, rfl⟩ := r1
  have ps : PO X (some (.UnaryOp .USub (.Constant (.int 1) k p1) p2)) (tPart (tUn (rU fun i => .int (-i)) (tC (.int 1)))) := po_some (pe_un un_neg pe_int)
  refine wpAny_Slice (thn (po_none.run pins s1 σ H1 (fun o H2 => o = none ∧ H2 = H1) I1 ⟨rfl, rfl⟩) fun vl s2 ⟨l, H2, I2, pl, el, e2⟩ => ?_)
  subst el e2
  refine thn (po_none.run pins s2 σ H2 (fun o H3 => o = none ∧ H3 = H2) I2 ⟨rfl, rfl⟩) fun vu s3 ⟨u, H3, I3, pu, eu, e3⟩ => ?_
  subst eu e3
  refine thn (ps.run pins s3 σ H3 (fun o H4 => o = some (-1) ∧ H4 = H3) I3 ⟨1, rfl, -1, rfl, rfl, rfl⟩) fun vs s4 ⟨o, H4, I4, pv, eo, e4⟩ => ?_
  subst eo e4
  have I5 : Inv X pins σ H4 { s4 with heap := s4.heap.push { cls := .type "slice", data := .fields #[vl, vu, vs] } } := I4.kept (t' := s4.toks) fun b ob q => Heap.get?_push_of_some _ q
  obtain ⟨l1, el1, el2⟩ := IsPart.raw pl
  obtain ⟨u1, eu1, eu2⟩ := IsPart.raw pu
  obtain ⟨v1, ev1, ev2⟩ := IsPart.raw pv
  show wpAny (model X.prog X.w) X.A (subscriptTail e (.Slice none none (some (.UnaryOp .USub (.Constant (.int 1) k p1) p2)) p3) (.str z t) (.ref s4.heap.objs.size)) (EP X pins σ Q) X.xe { s4 with heap := s4.heap.push { cls := .type "slice", data := .fields #[vl, vu, vs] } }
  refine tail_any (ops := [.str z t, .ref s4.heap.objs.size]) (typeIs_str _ z t) (F.slot_str_getitem.lookup) ?_ (by with_unfolding_all rfl)
  have hst : (v1.map (·.1)).getD 1 = -1 := by rw [ev2]; rfl
  refine wpAny_getItem_str_slice (l := l1) (u := u1) (st := v1) ⟨_, Heap.get?_push_size _ rfl, rfl, by rw [← eu1, ← el1, ← ev1]⟩ (by rw [hst]; rfl) ?_
  unfold sliceMade
  have hp : slicePicked z l1 u1 v1 = Builtin.Str.strSliceIndices none none (-1) z.length := by
    unfold slicePicked
    rw [hst, el2, eu2]
  rw [if_neg (by rw [hst]; simp), hp, pick_rev]
  exact ⟨by rw [str_len, List.length_reverse]; exact hz, .str _, H4, I5.tok _, ⟨_, rfl⟩, q⟩
end
end DL

namespace DL
open PySem PySem.Spec PyProof.Rows L2
section
variable {X : Cx} {G : Gx} {W : WX} {σ : St} {φ : List Addr} {H : Hp} {st : Store}
/-! ### xs[::-1] -/
theorem me_rev {e : Expr} {m : Env' → M D} {k : Nat} {p1 p2 p3 pos : Pos} (h : ME X G W e m) : ME X G W (.Subscript e (.Slice none none (some (.UnaryOp .USub (.Constant (.int 1) k p1) p2)) p3) pos) (m1 dRev m) := by
  refine ⟨fun pins s σ H Q I hq => ?_⟩
  have or : (tRevS (tM X.K G W m)) σ H Q ∨ (tRevL X.K (tM X.K G W m)) σ H Q := by
    obtain ⟨φ, ρ, st, so, p⟩ := hq
    have p1 := Post.bind p
    cases em : m ρ st with
    | bad => rw [em] at p1; exact p1.elim
    | exc c st' =>
      left
      refine ⟨φ, ρ, st, so, ?_⟩
      rw [em] at p1 ⊢
      exact p1
    | ok d st' =>
      rw [em] at p1
      cases d with
      | str z =>
        refine .inl ⟨φ, ρ, st, so, ?_⟩
        rw [em]
        intro φ1 H1 x1 s1 v r
        obtain ⟨c, p2⟩ := Post.chk (p1 φ1 H1 x1 s1)
        cases r with
        | str hz => exact ⟨_, rfl, by rw [str_len]; exact lim_line c, postNow (W := W) (σ := σ) s1 p2 _ (.str (by rw [List.all_reverse]; exact hz))⟩
      | lst xs =>
        refine .inr ⟨φ, ρ, st, so, ?_⟩
        rw [em]
        intro φ1 H1 x1 s1 v r
        obtain ⟨c, p2⟩ := Post.chk (p1 φ1 H1 x1 s1)
        cases r with
        | @lst _ a vs h1 h2 h3 rl =>
          refine ⟨a, vs, rfl, SqL.of h1, fun q nq => ?_⟩
          exact Post.made (G := G) (W := W) (σ := σ) s1 p2 nq _ (rp_lst s1 nq rl.reverse)
      | cel n =>
        refine .inr ⟨φ, ρ, st, so, ?_⟩
        rw [em]
        intro φ1 H1 x1 s1 v r
        obtain ⟨a, vs, xs, rfl, h1, rl, p3⟩ := lLst_of s1 r (Post.bind (p1 φ1 H1 x1 s1))
        refine ⟨a, vs, rfl, SqL.of h1, fun q nq => ?_⟩
        exact Post.made (G := G) (W := W) (σ := σ) s1 p3 nq _ (rp_lst s1 nq rl.reverse)
      | _ =>
        refine .inl ⟨φ, ρ, st, so, ?_⟩
        rw [em]
        intro φ1 H1 x1 s1 v r
        exact (p1 φ1 H1 x1 s1).elim
  rcases or with q | q
  · exact (pe_revS h).run pins s σ H Q I q
  · exact (pe_revL h).run pins s σ H Q I q
/-! ### dicts -/
theorem me_dnew {pos : Pos} : ME X G W (.Dict [] [] pos) (fun _ => newCell (.dct [])) := peImp pe_dnewK fun σ H Q ⟨φ, ρ, st, so, p⟩ q nq => by
  have z := newCell_of so.s p nq (.dct .nil)
  exact z.1 _ z.2
def keyD : D → Option Key
  | .int i => some (.inl i)
  | .str s => some (.inr ⟨s.toArray⟩)
  | _ => none
def Key.d : Key → D
  | .inl i => .int i
  | .inr x => .str x.cps.toList
def Key.ok : Key → Bool
  | .inl _ => true
  | .inr x => x.cps.toList.all fun c => decide (c < 0x110000)
def valD (kvs : List (Key × D)) (k : Key) : Option D := (kvs.find? fun kv => decide (kv.1 = k)).map (·.2)
def putD (kvs : List (Key × D)) (k : Key) (d : D) : List (Key × D) :=
  if (kvs.any fun kv => decide (kv.1 = k)) = true then kvs.map (fun kv => if kv.1 = k then (kv.1, d) else kv) else kvs ++ [(k, d)]
theorem key_v {d : D} {k : Key} {v : V} (h : keyD d = some k) (r : Rp X.K G φ H d v) : v = kV k := by
  cases r with
  | int => cases h; rfl
  | str _ => cases h; rfl
  | _ => cases h
theorem RpK.any {ds : List (Key × D)} {vs : List (Key × V)} {k : Key} (r : RpK X.K G φ H ds vs) : (ds.any fun kv => decide (kv.1 = k)) = vs.any fun kv => decide (kv.1 = k) := by
  induction r with
  | nil => rfl
  | cons a r ih => rw [List.any_cons, List.any_cons, ih]
theorem RpK.val {ds : List (Key × D)} {vs : List (Key × V)} {k : Key} (r : RpK X.K G φ H ds vs) : (valD ds k = none ∧ valV vs k = none) ∨ ∃ d v, valD ds k = some d ∧ valV vs k = some v ∧ Rp X.K G φ H d v := by
  induction r with
  | nil => exact .inl ⟨rfl, rfl⟩
  | @cons f d v ds vs a r ih =>
    by_cases e : f = k
    · exact .inr ⟨d, v, by simp [valD, e], by simp [valV, e], a⟩
    · have e1 : valD ((f, d) :: ds) k = valD ds k := by simp [valD, List.find?_cons, e]
      have e2 : valV ((f, v) :: vs) k = valV vs k := by simp [valV, List.find?_cons, e]
      rw [e1, e2]
      exact ih
theorem RpK.app {ds es : List (Key × D)} {vs us : List (Key × V)} (r : RpK X.K G φ H ds vs) (q : RpK X.K G φ H es us) : RpK X.K G φ H (ds ++ es) (vs ++ us) := by
  induction r with
  | nil => exact q
  | cons a r ih => exact .cons a ih
theorem RpK.len {ds : List (Key × D)} {vs : List (Key × V)} (r : RpK X.K G φ H ds vs) : ds.length = vs.length := by
  induction r with
  | nil => rfl
  | cons a r ih => rw [List.length_cons, List.length_cons, ih]
theorem RpK.map {ds : List (Key × D)} {vs : List (Key × V)} {k : Key} {d : D} {v : V} (r : RpK X.K G φ H ds vs) (q : Rp X.K G φ H d v) : RpK X.K G φ H (ds.map fun kv => if kv.1 = k then (kv.1, d) else kv) (vs.map fun kv => if kv.1 = k then (kv.1, v) else kv) := by
  induction r with
  | nil => exact .nil
  | @cons f d' v' ds vs a r ih =>
    rw [List.map_cons, List.map_cons]
    by_cases e : f = k
    · rw [if_pos (show (f, d').1 = k from e), if_pos (show (f, v').1 = k from e)]
      exact .cons q ih
    · rw [if_neg (show ¬ (f, d').1 = k from e), if_neg (show ¬ (f, v').1 = k from e)]
      exact .cons a ih
theorem RpK.put {ds : List (Key × D)} {vs : List (Key × V)} {k : Key} {d : D} {v : V} (r : RpK X.K G φ H ds vs) (q : Rp X.K G φ H d v) : RpK X.K G φ H (putD ds k d) (putK vs k v) := by
  unfold putD putK
  rw [r.any (k := k)]
  split
  · exact r.map q
  · exact r.app (.cons q .nil)
/-- the dict in a cell, to be read -/
def celK (n : Nat) : M (List (Key × D)) := fun st => match st[n]? with
  | some (.dct kvs) => .ok kvs st
  | some (.dctL kvs) => .ok kvs st
  | _ => .bad
def dDict : D → M (List (Key × D))
  | .cel n => celK n
  | _ => fail
theorem dDict_of {d : D} {v : V} {Q : List (Key × D) → Store → List Addr → Hp → Prop} (s : StOk X.K G φ H st) (r : Rp X.K G φ H d v) (p : Post X.K G W σ φ H (dDict d st) Q) :
    ∃ a kvs vs, v = .ref a ∧ Rd H a (.dK vs) ∧ RpK X.K G φ H kvs vs ∧ Q kvs st φ H := by
  cases r with
  | @cel n a ha =>
    have p : Post X.K G W σ φ H (celK n st) Q := p
    unfold celK at p
    cases e : st[n]? with
    | none => rw [e] at p; exact p.elim
    | some c =>
      rw [e] at p
      obtain ⟨o, e1, r1⟩ := s.cell n c a e ha
      cases r1 with
      | @dct kvs vs rk => exact ⟨a, kvs, vs, rfl, .inl e1, rk, postNow (W := W) (σ := σ) s p⟩
      | @dctZ kvs vs o rk => exact ⟨a, kvs, vs, rfl, .inr ⟨o, e1⟩, rk, postNow (W := W) (σ := σ) s p⟩
      | lst _ => exact p.elim
      | ins _ => exact p.elim
  | _ => exact p.elim
/-- d[k] -/
def mGet (mo mi : Env' → M D) (ρ : Env') : M D := bnd (mo ρ) fun o => bnd (mi ρ) fun i => bnd (dDict o) fun kvs => match (keyD i).bind (valD kvs) with
  | some d => ret d
  | none => fail
theorem me_get {o i : Expr} {mo mi : Env' → M D} {pos : Pos} (hu : X.A.units + 1 < cLine) (ho : ME X G W o mo) (hi : ME X G W i mi) (hs : NoSl i := by intro _ _; rfl) : ME X G W (.Subscript o i pos) (mGet mo mi) := by
  refine peImp (pe_dget hu ho hi hs) fun σ H Q ⟨φ, ρ, st, so, p⟩ => ?_
  refine tM_of so (Post.bind p) fun d1 st1 φ1 H1 v1 x1 so1 r1 p1 => ?_
  refine tM_of so1 (Post.bind p1) fun d2 st2 φ2 H2 v2 x2 so2 r2 p2 => ?_
  obtain ⟨a, kvs, vs, rfl, rd, rk, p3⟩ := dDict_of so2.s (r1.mono x2) (Post.bind p2)
  cases ek : keyD d2 with
  | none => rw [ek] at p3; exact p3.elim
  | some k =>
    rw [ek] at p3
    rcases rk.val (k := k) with ⟨e1, e2⟩ | ⟨d, v, e1, e2, r3⟩
    · rw [Option.bind_some, e1] at p3; exact p3.elim
    · rw [Option.bind_some, e1] at p3
      exact ⟨a, v, rfl, .inl ⟨vs, k, rd, key_v ek r2, e2.symm⟩, postNow (W := W) (σ := σ) so2.s p3 v r3⟩
/-- k in d -/
def mInD (neg : Bool) (mi mo : Env' → M D) (ρ : Env') : M D := bnd (mi ρ) fun i => bnd (mo ρ) fun o => bnd (dDict o) fun kvs => match keyD i with
  | some k => ret (.bl (neg ^^ (valD kvs k).isSome))
  | none => fail
theorem me_inD {o i : Expr} {mo mi : Env' → M D} {pos : Pos} (hu : X.A.units + 1 < cLine) (hi : ME X G W i mi) (ho : ME X G W o mo) (h1 : behindInMarks .In o = false := by rfl) : ME X G W (.Compare i [.In] [o] pos) (mInD false mi mo) := by
  refine peImp (pe_cmp (pc_din hu hi ho) h1) fun σ H Q ⟨φ, ρ, st, so, p⟩ => ?_
  refine tM_of so (Post.bind p) fun d1 st1 φ1 H1 v1 x1 so1 r1 p1 => ?_
  refine tM_of so1 (Post.bind p1) fun d2 st2 φ2 H2 v2 x2 so2 r2 p2 => ?_
  obtain ⟨a, kvs, vs, rfl, rd, rk, p3⟩ := dDict_of so2.s r2 (Post.bind p2)
  cases ek : keyD d1 with
  | none => rw [ek] at p3; exact p3.elim
  | some k =>
    rw [ek] at p3
    refine ⟨a, valV vs k, rfl, .inl ⟨vs, k, rd, key_v ek (r1.mono x2), rfl⟩, ?_⟩
    have := postNow (W := W) (σ := σ) so2.s p3 _ .bl
    rcases rk.val (k := k) with ⟨e1, e2⟩ | ⟨d, v, e1, e2, _⟩
    · rw [e1] at this; rw [e2]; simpa using this
    · rw [e1] at this; rw [e2]; simpa using this
theorem cd_lenD : CallD X G (fun xs H Q => ∃ a kvs, xs = [V.ref a] ∧ H a = some (.dK kvs) ∧ Q (.int kvs.length) H) (f1 fun d => match d with
    | .cel n => fun st => match st[n]? with
      | some (.dct kvs) => .ok (.int kvs.length) st
      | _ => .bad
    | _ => fail) := cd1 fun φ H st d v W σ Q s r p => by
  cases r with
  | @cel n a ha =>
    simp only at p
    cases e : st[n]? with
    | none => rw [e] at p; exact p.elim
    | some c =>
      rw [e] at p
      obtain ⟨o, e1, r1⟩ := s.cell n c a e ha
      cases r1 with
      | @dct kvs vs rk =>
        refine ⟨a, vs, rfl, e1, ?_⟩
        have := postNow (W := W) (σ := σ) s p _ .int
        rw [rk.len] at this
        exact this
      | _ => exact p.elim
  | _ => exact p.elim
end
end DL

namespace DL
open PySem PySem.Spec PyProof.Rows L2
/-! ### o[i] = v, a list or a dict -/
def setIxX (o i d : D) : M D := fun st => match o with
  | .cel n => (match st[n]? with
    | some (.dct kvs) => (match keyD i with
      | some k => (match decide (kvs.length < LIM) with
        | true => putC n (.dct (putD kvs k d)) st
        | false => .bad)
      | none => .bad)
    | _ => setIx (.cel n) i d st)
  | o => setIx o i d st
def gSubX (mo mi : Env' → M D) : GM := fun d ρ => bnd (mo ρ) fun o => bnd (mi ρ) fun i => bnd (setIxX o i d) fun _ => ret ρ
section
variable {X : Cx} {G : Gx} {W : WX} {σ : St} {φ : List Addr} {H : Hp} {st : Store}
theorem PSet.or {t t' : TSet} (h : PSet X t) (h' : PSet X t') : PSet X (fun o i v H Q => t o i v H Q ∨ t' o i v H Q) :=
  fun pins s σ H o i v ov iv u Q I r1 r2 r3 q => q.elim (h pins s σ H o i v ov iv u Q I r1 r2 r3) (h' pins s σ H o i v ov iv u Q I r1 r2 r3)
theorem setIxX_of {do' di dd : D} {o i v : V} {ρ : Env'} {Q : St → Hp → Prop} (so : SOk X.K G φ H σ ρ st) (ro : Rp X.K G φ H do' o) (ri : Rp X.K G φ H di i) (rd : Rp X.K G φ H dd v) (p : PostG X.K G φ H (bnd (setIxX do' di dd) (fun _ => ret ρ) st) Q) :
    rSetL o i v H (fun H3 => Q σ H3) ∨ rSetD o i v H (fun H3 => Q σ H3) := by
  have keep : setIxX do' di dd st = setIx do' di dd st → rSetL o i v H (fun H3 => Q σ H3) ∨ rSetD o i v H (fun H3 => Q σ H3) := fun e => by
    left
    refine setIx_of so ro ri rd ?_
    unfold bnd at p ⊢
    rw [e] at p
    exact p
  cases do' with
  | cel n =>
    cases e : st[n]? with
    | none => exact keep (by simp [setIxX, e])
    | some c =>
      cases c with
      | dct kvs =>
        right
        cases ek : keyD di with
        | none =>
          have z : setIxX (.cel n) di dd st = .bad := by simp [setIxX, e, ek]
          unfold bnd at p
          rw [z] at p
          exact p.elim
        | some k =>
          cases el : decide (kvs.length < LIM) with
          | false =>
            have z : setIxX (.cel n) di dd st = .bad := by simp [setIxX, e, ek, el]
            unfold bnd at p
            rw [z] at p
            exact p.elim
          | true =>
            have z : setIxX (.cel n) di dd st = putC n (.dct (putD kvs k dd)) st := by simp [setIxX, e, ek, el]
            cases ro with
            | @cel _ a ha =>
              obtain ⟨o, e1, r1⟩ := so.s.cell n _ a e ha
              cases r1 with
              | @dct _ vs rk =>
                have p0 := Post.okG (σ := σ) p
                rw [z] at p0
                refine ⟨a, _, rfl, ?_, putC_of so.s ha e1 (.inr (.inl ⟨_, rfl⟩)) (.dct (rk.put rd)) p0 σ (so.e.mono (ext_put ha e1 (.inr (.inl ⟨_, rfl⟩))))⟩
                rw [key_v ek ri]
                exact DPut.k e1 (by rw [← rk.len, sizeLine_eq]; have := of_decide_eq_true el; unfold LIM at this; omega)
      | lst _ => exact keep (by simp [setIxX, e])
      | dctL _ => exact keep (by simp [setIxX, e])
      | ins _ _ => exact keep (by simp [setIxX, e])
  | _ => exact keep rfl
theorem gt_subX {o i : Expr} {mo mi : Env' → M D} {pos : Pos} (hu : X.A.units + 1 < cLine) (ho : ME X G W o mo) (hi : ME X G W i mi)
    (ha : ∀ v, assign (.Subscript o i pos) X.env v = (do
      let ov ← holding [v] (eval o X.env)
      let iv ← holding [v, ov] (eval i X.env)
      standAt pos
      holding [v, ov, iv] (setItem ov iv v)
      release [v, ov, iv] []) := by intro _; rfl) : GT X G (.Subscript o i pos) (gSubX mo mi) := by
  refine pgImp (pg_sub ho hi (PSet.or set_list (set_dict hu)) ha) fun v σ H Q ⟨φ, ρ, st, d, so, r, p⟩ => ?_
  refine tM_of so (Post.w (σ := σ) (PostG.bind (σ := σ) p)) fun d1 st1 φ1 H1 v1 x1 so1 r1 p1 => ?_
  refine tM_of so1 (Post.w (σ := σ) (PostG.bind (σ := σ) p1)) fun d2 st2 φ2 H2 v2 x2 so2 r2 p2 => ?_
  exact setIxX_of so2 (r1.mono x2) r2 ((r.mono x1).mono x2) p2
end
/-! ### for k in d -/
def lockIs (n : Nat) (kvs : List (Key × D)) (st : Store) : Bool := match st[n]? with
  | some (.dctL k2) => eqK kvs k2
  | _ => false
def unl (n : Nat) (kvs : List (Key × D)) : RS → RS
  | .nx ρ st => (match lockIs n kvs st with
    | true => .nx ρ (st.set n (.dct kvs))
    | false => .bad)
  | .rt d st => (match lockIs n kvs st with
    | true => .rt d (st.set n (.dct kvs))
    | false => .bad)
  | _ => .bad
def sForK (i : Nat) (g : GM) (b : MS) : MS := fun ρ st => match ρ[i]? with
  | some (some (.cel n)) => (match st[n]? with
    | some (.dct kvs) => (match kvs.all fun kv => Key.ok kv.1 with
      | true => unl n kvs (forL (lockIs n kvs) g b (kvs.map fun kv => Key.d kv.1) ρ (st.set n (.dctL kvs)))
      | false => .bad)
    | _ => .bad)
  | _ => .bad
section
variable {K : PySem.W.Frag} {G : Gx} {φ : List Addr} {H : Hp} {a : Addr} {od : Obj} {us : List (Key × V)}
section
variable {u : HO} (h : H a = some (.frz od (.dK us)))
include h
theorem un_at {b : Addr} {o : HO} (e : H b = some o) (n : ∀ o' k', o ≠ .frz o' (.dK k')) : upd H a u b = some o := by
  rw [upd_ne (fun z => by
    rw [z, h] at e
    exact n _ _ (Option.some.inj e).symm)]
  exact e
mutual
theorem Rp.un : ∀ {d : D} {v : V}, Rp K G φ H d v → Rp K G φ (upd H a u) d v
  | _, _, .non => .non
  | _, _, .bl => .bl
  | _, _, .int => .int
  | _, _, .str h => .str h
  | _, _, .tup s r => .tup (by
      rcases s with (q | ⟨o, q⟩) | q
      · exact .inl (.inl (un_at h q (fun _ _ z => by cases z)))
      · exact .inl (.inr ⟨o, un_at h q (fun _ _ z => by cases z)⟩)
      · exact .inr q) (RpL.un r)
  | _, _, .lst q n z r => .lst (un_at h q (fun _ _ z => by cases z)) n z (RpL.un r)
  | _, _, .scr s r => .scr (s.imp (fun ⟨o, q⟩ => ⟨o, un_at h q (fun _ _ z => by cases z)⟩) id) (RpL.un r)
  | _, _, .cel q => .cel q
  | _, _, .fn q => .fn q
  | _, _, .hof q => .hof q
theorem RpL.un : ∀ {ds : List D} {vs : List V}, RpL K G φ H ds vs → RpL K G φ (upd H a u) ds vs
  | _, _, .nil => .nil
  | _, _, .cons r q => .cons (Rp.un r) (RpL.un q)
end
theorem RpF.un : ∀ {ds : List (Str × D)} {vs : List (Str × V)}, RpF K G φ H ds vs → RpF K G φ (upd H a u) ds vs
  | _, _, .nil => .nil
  | _, _, .cons r q => .cons (Rp.un h r) (RpF.un q)
theorem RpK.un : ∀ {ds : List (Key × D)} {vs : List (Key × V)}, RpK K G φ H ds vs → RpK K G φ (upd H a u) ds vs
  | _, _, .nil => .nil
  | _, _, .cons r q => .cons (Rp.un h r) (RpK.un q)
theorem CellOk.un {c : Cell} {o : HO} (q : CellOk K G φ H c o) : CellOk K G φ (upd H a u) c o := by
  cases q with
  | lst r => exact .lst (r.un h)
  | dct r => exact .dct (r.un h)
  | dctZ r => exact .dctZ (r.un h)
  | ins r => exact .ins (r.un h)
theorem tabs_un {T : List (Addr × Str)} (t : LamX.Tabs T H) : LamX.Tabs T (upd H a u) := fun p hp => by
  obtain ⟨ps, h1, h2, h3⟩ := t p hp
  refine ⟨ps, un_at h h1 (fun _ _ z => by cases z), h2, fun pos cv hc => ?_⟩
  obtain ⟨c, e1, e2⟩ := h3 pos cv hc
  exact ⟨c, e1, un_at h e2 (fun _ _ z => by unfold LamX.CodeO at z; cases z)⟩
end
end
section
variable {X : Cx} {G : Gx} {W : WX}
theorem for_of {J : It} {it : Itm} {g : GM} {b : MS} {φ1 : List Addr} {H1 : Hp} {σ : St} {ρ : Env'} {st1 : Store} {De : Ends} (hJ : ItD X.K G φ1 H1 J it) (so : SOk X.K G φ1 H1 σ ρ st1) (p1 : PostS X.K G W φ1 H1 (forL it.ck g b it.xs ρ st1) De) :
    ∃ Wk : Nat → Nat → St → Hp → Prop, (∃ m, Wk 0 m σ H1) ∧ ∀ i m σ H, Wk i m σ H → (J.stop i H ∧ De.nx σ H) ∨ (J.go i H ∧ ∃ N : St → Hp → Prop, (∀ σ' H', N σ' H' → ∃ m', m' < m ∧ Wk (i + 1) m' σ' H') ∧
      ∀ x H', J.yld i H x H' → tG X.K G g x σ H' fun σ2 H2 => tMS X.K G W b { De with nx := N, ct := N, bk := De.nx } σ2 H2) := by
  refine ⟨fun i m σ' H' => ∃ φ' ρ' st', m = it.xs.length - i ∧ i ≤ it.xs.length ∧ SOk X.K G φ' H' σ' ρ' st' ∧ Ext φ1 H1 φ' H' ∧ PostS X.K G W φ' H' (forL it.ck g b (it.xs.drop i) ρ' st') De,
    ⟨it.xs.length, φ1, ρ, st1, by simp, Nat.zero_le _, so, Ext.refl _ _, p1⟩, ?_⟩
  rintro i m σ' H' ⟨φ', ρ', st', rfl, hi', so', x', p'⟩
  by_cases hlt : i < it.xs.length
  · right
    have ed : it.xs.drop i = it.xs[i] :: it.xs.drop (i + 1) := List.drop_eq_getElem_cons hlt
    rw [ed] at p'
    unfold forL at p'
    cases c : it.ck st' with
    | false => rw [c] at p'; exact p'.elim
    | true =>
      rw [c] at p'
      obtain ⟨hgo, hy⟩ := hJ.go φ' H' st' i it.xs[i] x' so'.s c (List.getElem?_eq_getElem hlt)
      refine ⟨hgo, fun σ2 H2 => ∃ φ2 ρ2 st2, SOk X.K G φ2 H2 σ2 ρ2 st2 ∧ Ext φ1 H1 φ2 H2 ∧ PostS X.K G W φ2 H2 (forL it.ck g b (it.xs.drop (i + 1)) ρ2 st2) De, fun σ2 H2 ⟨φ2, ρ2, st2, s2, x2, p2⟩ => ⟨it.xs.length - (i + 1), by omega, φ2, ρ2, st2, rfl, hlt, s2, x2, p2⟩, fun x H2 hyl => ?_⟩
      obtain ⟨k, r⟩ := hy x H2 hyl
      have xk : Ext φ' H' φ' H2 := Ext.of_same k
      refine ⟨φ', ρ', st', it.xs[i], ⟨so'.s.same k, so'.e.mono xk⟩, r, ?_⟩
      cases q : g it.xs[i] ρ' st' with
      | exc c st => rw [q] at p'; exact p'.elim
      | bad => rw [q] at p'; exact p'.elim
      | ok ρ3 st3 =>
        rw [q] at p'
        intro φ3 H3 σ3 x3 s3
        refine ⟨φ3, ρ3, st3, s3, ?_⟩
        refine PostS.lp (PostS.ext (xk.trans x3) p') fun φ4 H4 σ4 ρ4 st4 x4 s4 p4 => ?_
        exact ⟨φ4, ρ4, st4, s4, ((x'.trans xk).trans x3).trans x4, p4⟩
  · left
    have ei : i = it.xs.length := by omega
    subst ei
    rw [List.drop_length] at p'
    unfold forL at p'
    cases c : it.ck st' with
    | false => rw [c] at p'; exact p'.elim
    | true =>
      rw [c] at p'
      exact ⟨hJ.stop φ' H' st' x' so'.s c, p' φ' H' σ' (Ext.refl _ _) so'⟩
theorem kd_rp {k : Key} {φ : List Addr} {H : Hp} (h : Key.ok k = true) : Rp X.K G φ H (Key.d k) (kV k) := by
  cases k with
  | inl i => exact .int
  | inr x =>
    have z : Rp X.K G φ H (.str x.cps.toList) (.str ⟨x.cps.toList.toArray⟩) := .str h
    rw [Array.toArray_toList] at z
    exact z
theorem RpK.keys {φ : List Addr} {H : Hp} {ds : List (Key × D)} {vs : List (Key × V)} (r : RpK X.K G φ H ds vs) : ds.map (·.1) = vs.map (·.1) := by
  induction r with
  | nil => rfl
  | cons a r ih => rw [List.map_cons, List.map_cons, ih]
theorem st_forK {tg e : Expr} {i : Nat} {body : List Stmt} {g : GM} {b : MS} {pos : Pos} (hp : PassesOwn (model X.prog X.w) X.A X.env X.xe) (hc : X.calm = true) (he : PE X e (tVar i)) (hg : GT X G tg g) (hb : SS X G W body b)
    (hs : ∀ x, foldedSetIterable e X.env x = pure x := by intro _; rfl) : ST X G W (.For tg e body [] pos) (sForK i g b) := by
  refine psImp (ps_lock (ps_for hp hc (pi_keys he) hg hb hs)) fun De σ H ⟨φ, ρ, st, so, p⟩ => ?_
  unfold sForK at p
  cases e0 : ρ[i]? with
  | none => rw [e0] at p; exact p.elim
  | some oo =>
    rw [e0] at p
    cases oo with
    | none => exact p.elim
    | some d =>
      cases d with
      | cel n =>
        simp only at p
        obtain ⟨v, hv, rv⟩ := so.e.get i _ e0
        cases rv with
        | @cel _ a ha =>
          cases e1 : st[n]? with
          | none => rw [e1] at p; exact p.elim
          | some cc =>
            rw [e1] at p
            obtain ⟨o, eo, ro⟩ := so.s.cell n cc a e1 ha
            cases ro with
            | @dct kvs us rk =>
              simp only at p
              cases ok : kvs.all fun kv => Key.ok kv.1 with
              | false => rw [ok] at p; exact p.elim
              | true =>
                rw [ok] at p
                refine ⟨a, .dK us, eo, trivial, fun od => ?_⟩
                have hl : (∃ xs, HO.dK us = .lst xs) ∨ (∃ xs, HO.dK us = .dK xs) ∨ ∃ C dx fs, HO.dK us = .ins C dx fs := .inr (.inl ⟨_, rfl⟩)
                have xl : Ext φ H φ (upd H a (.frz od (.dK us))) := ext_put ha eo hl
                have sl : StOk X.K G φ (upd H a (.frz od (.dK us))) (st.set n (.dctL kvs)) := so.s.put ha eo hl (.dctZ rk)
                have hlen : kvs.length = us.length := rk.len
                have hat : ∀ {φ2 : List Addr} {H2 : Hp}, Ext φ (upd H a (.frz od (.dK us))) φ2 H2 → H2 a = some (.frz od (.dK us)) := fun x => x.frzs _ _ _ upd_same
                have J : ItD X.K G φ (upd H a (.frz od (.dK us))) (Itk a od us) ⟨kvs.map fun kv => Key.d kv.1, lockIs n kvs⟩ := by
                  refine ⟨fun φ2 H2 st2 j d x2 s2 ck ej => ?_, fun φ2 H2 st2 x2 s2 ck => ?_⟩
                  · have hj : j < kvs.length := by
                      have := (List.getElem?_eq_some_iff.mp ej).1
                      rwa [List.length_map] at this
                    refine ⟨⟨hat x2, by omega⟩, fun x H' hy => ?_⟩
                    obtain ⟨eH, k, v, ek, ex⟩ := hy
                    subst eH ex
                    refine ⟨fun b o h => h, ?_⟩
                    have e2 : (kvs.map (·.1))[j]? = some k := by
                      rw [rk.keys, List.getElem?_map, ek]
                      rfl
                    rw [List.getElem?_map] at e2 ej
                    cases e3 : kvs[j]? with
                    | none => rw [e3] at ej; cases ej
                    | some kv =>
                      rw [e3] at ej e2
                      cases ej
                      cases e2
                      exact kd_rp (List.all_eq_true.mp ok kv (List.mem_of_getElem? e3))
                  · exact ⟨hat x2, by rw [List.length_map]; omega⟩
                refine ⟨_, hv, a, od, rfl, .inl ⟨us, upd_same, ?_⟩⟩
                refine for_of (W := W) J ⟨sl, so.e.mono xl⟩ (b := b) (g := g) ?_
                -- the ends
                have unX : ∀ {φ2 : List Addr} {H2 : Hp}, Ext φ (upd H a (.frz od (.dK us))) φ2 H2 → Ext φ H φ2 (upd H2 a (.dK us)) := fun {φ2 H2} x2 => by
                  have am : a ∈ φ := List.mem_of_getElem? ha
                  have ne : ∀ b o, H b = some o → (∀ k', o ≠ .dK k') → b ≠ a := fun b o h n z => by
                    rw [z, eo] at h
                    exact n _ (Option.some.inj h).symm
                  obtain ⟨ψ, ep, fp⟩ := x2.pre
                  refine ⟨⟨ψ, ep, fun c hc2 => ?_⟩, fun c o h nm nt => ?_, fun c xs h => ?_, fun c o u h => ?_, fun c h => ?_⟩
                  · have := fp c hc2
                    by_cases hca : c = a
                    · subst hca
                      rw [upd_same] at this
                      cases this
                    · rw [upd_ne hca] at this
                      exact this
                  · have hca : c ≠ a := fun z => nm (z ▸ am)
                    rw [upd_ne hca]
                    exact x2.keep c o (by rw [upd_ne hca]; exact h) nm nt
                  · have hca := ne c _ h (fun _ z => by cases z)
                    rw [upd_ne hca]
                    exact x2.tups c xs (by rw [upd_ne hca]; exact h)
                  · have hca := ne c _ h (fun _ z => by cases z)
                    rw [upd_ne hca]
                    exact x2.frzs c o u (by rw [upd_ne hca]; exact h)
                  · by_cases hca : c = a
                    · subst hca
                      rw [upd_same]
                      simp
                    · rw [upd_ne hca]
                      exact x2.there c (by rw [upd_ne hca]; exact h)
                have unS : ∀ {φ2 : List Addr} {H2 : Hp} {st2 : Store}, Ext φ (upd H a (.frz od (.dK us))) φ2 H2 → StOk X.K G φ2 H2 st2 → lockIs n kvs st2 = true → StOk X.K G φ2 (upd H2 a (.dK us)) (st2.set n (.dct kvs)) := fun {φ2 H2 st2} x2 s2 lk => by
                  have h2 := hat x2
                  have x3 := unX x2
                  have a2 : φ2[n]? = some a := x2.at ha
                  have hn : n < st2.length := by rw [← s2.len]; exact (List.getElem?_eq_some_iff.mp a2).1
                  refine ⟨by rw [List.length_set]; exact s2.len, s2.nd, fun j c' bb g1 g2 => ?_, tabs_un h2 s2.tabs, so.s.anc.trans x3, fun bb hb => x3.there bb (so.s.fx bb hb), s2.fd⟩
                  by_cases hj : n = j
                  · subst hj
                    rw [a2] at g2
                    cases g2
                    rw [List.getElem?_set_self hn] at g1
                    cases g1
                    exact ⟨_, upd_same, .dct (rk.mono x3)⟩
                  · rw [List.getElem?_set_ne hj] at g1
                    obtain ⟨u, k1, k2⟩ := s2.cell j c' bb g1 g2
                    have hne : bb ≠ a := fun q => hj (nd_ix s2.nd a2 (by rw [← q]; exact g2))
                    exact ⟨u, by rw [upd_ne hne]; exact k1, k2.un h2⟩
                cases q : forL (lockIs n kvs) g b (kvs.map fun kv => Key.d kv.1) ρ (st.set n (.dctL kvs)) with
                | nx ρ2 st2 =>
                  rw [q] at p
                  unfold unl at p
                  intro φ2 H2 σ2 x2 so2
                  cases lk : lockIs n kvs st2 with
                  | false => simp only [lk] at p; exact p.elim
                  | true =>
                    simp only [lk] at p
                    have h2 := hat x2
                    exact ⟨h2, p φ2 _ σ2 (unX x2) ⟨unS x2 so2.s lk, ⟨so2.e.len, fun j d e => by
                      obtain ⟨w, w1, w2⟩ := so2.e.get j d e
                      exact ⟨w, w1, w2.un h2⟩⟩⟩⟩
                | rt d st2 =>
                  rw [q] at p
                  unfold unl at p
                  intro φ2 H2 v2 x2 s2 r2
                  cases lk : lockIs n kvs st2 with
                  | false => simp only [lk] at p; exact p.elim
                  | true =>
                    simp only [lk] at p
                    exact ⟨hat x2, p φ2 _ v2 (unX x2) (unS x2 s2 lk) (r2.un (hat x2))⟩
                | bk ρ2 st2 => rw [q] at p; exact p.elim
                | ct ρ2 st2 => rw [q] at p; exact p.elim
                | exc c ρ2 st2 => rw [q] at p; exact p.elim
                | bad => rw [q] at p; exact p.elim
            | lst _ => exact p.elim
            | dctZ _ => exact p.elim
            | ins _ => exact p.elim
      | _ => exact p.elim
end
end DL

namespace DL
open PySem PySem.Spec PyProof.Rows L2
/-! ### a def handed to a def -/
structure HofB (P : Program) (w : World) (K : PySem.W.Frag) (mg : Str → Option Value) (base : Heap) (k : Nat) (G : Gx) (n : Nat) (m : List D → M D) : Prop where
  fn : ∀ a, G.hf = some a → ∀ (φ : List Addr) (H : Hp) (st : Store) (h : Heap), StOk K G φ H st → HOk P w H h → K.In h → PySem.W.FnAt a h
  run : ∀ a, G.hf = some a → ∀ (A : Around) (outer : List Env) (s : Shared) (H : Hp) (us : List Value) (vs : List V) (Q : VK) (E : XK), Room k A → Env0 P w K mg base A outer s H → Vals vs us → spM K G n m vs H Q E →
    codeAny (model P w) A (.call (.ref a) ⟨us, []⟩) (CR (L2N.CX P w) outer P w H s Q E) s
theorem hof_def {P : Program} {w : World} {K : PySem.W.Frag} {mg : Str → Option Value} {base : Heap} {k n : Nat} {G : Gx} {m : List D → M D} {x : Str} {st : Stmt} (d : ∃ fd, L2.Fun K x x st (He.ga K x) fd) (c : Cal P w K mg base k x (spM K G n m)) (h : G.hf = some (He.ga K x)) : HofB P w K mg base k G n m where
  fn := fun a ha φ H st h' _ _ kin => by
    rw [h] at ha
    cases ha
    obtain ⟨fd, F⟩ := d
    obtain ⟨oc, od, kV, doc, pm, an, cdv, ct, osl, rfl, lk, _⟩ := F.ex
    exact ⟨oc, od, _, osl, kin _ _ lk⟩
  run := fun a ha A outer s H us vs Q E hr e0 r hs => by
    rw [h] at ha
    cases ha
    obtain ⟨fd, ps, F, b, kp, mx⟩ := c
    have kx : K.In s.heap := e0.mod.kin.keeps fun b o e => (e0.bs b o e).1
    have hl : (us ++ []).length = ps.length := by
      rw [List.append_nil, ← r.length]
      exact F.len _ _ _ _ hs
    have b1 := b s us kx hl
    rw [List.append_nil] at b1
    exact F.run A outer s H ⟨us, []⟩ us vs Q E hr e0 b1 r hs
section
variable {X : Cx} {G : Gx} {W : WX} {j k n i : Nat} {m : List D → M D} {x : Str} {p pos : Pos}
/-- call(e), call the def handed -/
def mHof (i : Nat) (m : List D → M D) (ms : Env' → M (List D)) (ρ : Env') : M D := match ρ[i]? with
  | some (some D.hof) => mCall 1 m ms ρ
  | _ => fail
theorem me_hof {e : Expr} {ms : Env' → M (List D)} (hB : HofB X.prog X.w X.K X.mg X.base k G 1 m) (hr : Room j X.A) (hk : k ≤ j) (tk : L2N.Takes X W) (ha : MA X G W [e] ms) (hN : X.N[i]? = some x := by rfl) (hv : Vis X.env.scope x := by first | exact Or.inl rfl | exact Or.inr (Or.inl rfl) | exact Or.inr (Or.inr rfl))
    (hd : (x == ("__debug__" : Str)) = false := by decide) (hcd : (x == ("__classdict__" : Str)) = false := by decide) (he : starEach [e] X.env = (false, eval e X.env) :: starEach [] X.env := by rfl) (hpl : (backTo pos (starEach [] X.env)).any (·.1) = false := by rfl) :
    ME X G W (.Call (.Name x p) [e] [] pos) (mHof i m ms) := by
  refine ⟨fun pins s σ H Q I ⟨φ, ρ, st, so, pp⟩ => ?_⟩
  unfold mHof at pp
  cases e0 : ρ[i]? with
  | none => rw [e0] at pp; exact pp.elim
  | some od =>
    cases od with
    | none => rw [e0] at pp; exact pp.elim
    | some d =>
      cases d with
      | hof =>
        rw [e0] at pp
        obtain ⟨v0, hs0, r0⟩ := so.e.get i .hof e0
        cases r0 with
        | @hof f hf =>
          refine wpAny_Call_Name_kw (thn ((pe_var (pos := p) (i := i) hN hv hd hcd).run pins s σ H (fun v H1 => v = .ref f ∧ H1 = H) I ⟨.ref f, hs0, rfl, rfl⟩) fun u s1 ⟨v, H1, I1, r1, q1, q2⟩ => ?_)
          subst q1 q2
          obtain rfl : u = Value.ref f := r1
          have pa : tML X.K G W ms σ H1 (fun vs H2 => ∃ φ2 st2 ds, StOk X.K G φ2 H2 st2 ∧ RpL X.K G φ2 H2 ds vs ∧ ds.length = 1 ∧ Post X.K G W σ φ2 H2 (m ds st2) fun d _ φ' H' => ∀ v, Rp X.K G φ' H' d v → Q v H') := by
            refine ⟨φ, ρ, st, so, ?_⟩
            refine (Post.bind pp).imp fun ds st2 φ2 H2 x2 s2 p2 vs r2 => ?_
            obtain ⟨c, p3⟩ := Post.chk p2
            exact ⟨φ2, st2, ds, s2, r2, of_decide_eq_true c, p3⟩
          refine PySem.W.callWith_F (first := []) (hB.fn f hf φ H1 st _ so.s I1.hok I1.kIn) (thn (ha.run pos pins s1 σ H1 _ I1 pa) fun us s2 ⟨vs, H2, I2, r, φ2, st2, ds, s2', rl, hl, p3⟩ => ⟨hB.fn f hf φ2 H2 st2 _ s2' I2.hok I2.kIn, ?_⟩) he hpl
          show wpAny _ _ (call (.ref f) us) _ _ _
          refine wpAny_call (codeAny_mono (hB.run f hf X.A X.stack s2 H2 us vs Q (WE W σ) (hr.mono hk) I2.env0 r ⟨φ2, ds, st2, by rw [← rl.length]; exact hl, s2', rl, post_sp p3⟩) fun rr s' hq => ?_)
          cases rr with
          | error e => exact L2N.passAt tk σ pins H2 s2 e s' I2 hq
          | ok fl =>
            cases fl with
            | ret u => exact I2.after hq
            | next => exact False.elim hq
            | brk => exact False.elim hq
            | cont => exact False.elim hq
      | _ => rw [e0] at pp; exact pp.elim
/-- g(f, ..), f a def of the module (or several) -/
def mHcall (n : Nat) (mt : Nat → Option (List D → M D)) (mg : (List D → M D) → List D → M D) (ms : Env' → M (List D)) (ρ : Env') : M D := bnd (ms ρ) fun ds => match ds with
  | D.fn k :: rest => (match mt k with
    | some mf => chk (decide (rest.length + 1 = n) && D.nhL rest) (hfr (mg mf (D.hof :: rest)))
    | none => fail)
  | _ => fail
theorem me_hcall {e : Expr} {es : List Expr} {ms : Env' → M (List D)} {kB : Nat} {mt : Nat → Option (List D → M D)} {mgd : (List D → M D) → List D → M D} (hm : X.mg x = some (.ref (He.ga X.K x))) (kp : PySem.W.keepIn X.K (.ref (He.ga X.K x)) = true)
    (c : ∀ (G' : Gx) (mf : List D → M D), G'.tb = G.tb → (∀ fx, HofB X.prog X.w X.K X.mg X.base kB (G'.fl fx) 1 mf) → Cal X.prog X.w X.K X.mg X.base k x (spM X.K G' n (mgd mf)))
    (hB : ∀ (G' : Gx) (l : Nat) (a : Addr) (mf : List D → M D), mt l = some mf → G.tb.fns[l]? = some a → G'.tb = G.tb → G'.hf = some a → HofB X.prog X.w X.K X.mg X.base kB G' 1 mf)
    (hr : Room j X.A) (hk : k ≤ j) (tk : L2N.Takes X W) (ha : MA X G W (e :: es) ms) (hg : Gl X x := by rfl) (hdb : (x == ("__debug__" : Str)) = false := by decide)
    (he : starEach (e :: es) X.env = (false, eval e X.env) :: starEach es X.env := by rfl) (hpl : (backTo pos (starEach es X.env)).any (·.1) = false := by rfl) : ME X G W (.Call (.Name x p) (e :: es) [] pos) (mHcall n mt mgd ms) := by
  refine ⟨fun pins s σ H Q I ⟨φ, ρ, st, so, pp⟩ => ?_⟩
  refine wpAny_Call_Name_kw (ld_glob I hg hm ?_ hdb)
  have pa : tML X.K G W ms σ H (fun vs H2 => ∃ φ2 st2 ds, StOk X.K G φ2 H2 st2 ∧ RpL X.K G φ2 H2 ds vs ∧ Post X.K G W σ φ2 H2 ((match ds with
      | D.fn k :: rest => (match mt k with
        | some mf => chk (decide (rest.length + 1 = n) && D.nhL rest) (hfr (mgd mf (D.hof :: rest)))
        | none => fail)
      | _ => fail) st2) fun d _ φ' H' => ∀ v, Rp X.K G φ' H' d v → Q v H') := ⟨φ, ρ, st, so, (Post.bind pp).imp fun ds st2 φ2 H2 x2 s2 p2 vs r2 => ⟨φ2, st2, ds, s2, r2, p2⟩⟩
  refine PySem.W.callWith_K (h₀ := X.base) I.ok.mod.kin kp (thn (ha.run pos pins s σ H _ I pa) fun us s2 ⟨vs, H2, I2, r, φ2, st2, ds, s2', rl, p3⟩ => ⟨I2.kIn, ?_⟩) he hpl
  cases rl with
  | nil => exact p3.elim
  | @cons d v ds vs r1 rr =>
    cases r1 with
    | @fn l a hl =>
      simp only at p3
      cases em : mt l with
      | none => rw [em] at p3; exact p3.elim
      | some mf =>
        rw [em] at p3
        obtain ⟨cc, p4⟩ := Post.chk p3
        obtain ⟨c1, c2⟩ := Bool.and_eq_true_iff.mp cc
        have anc : Ext φ2 H2 φ2 H2 := Ext.refl _ _
        obtain ⟨nh, pb⟩ := Post.sw (G := G.hand a φ2 H2) (G' := G) rfl rfl s2'.anc p4
        have s3 : StOk X.K (G.hand a φ2 H2) φ2 H2 st2 := s2'.sw (G := G) (G' := G.hand a φ2 H2) rfl rfl nh anc
        obtain ⟨fd, ps, F, b, _, _⟩ := c (G.hand a φ2 H2) mf rfl (fun fx => hB ((G.hand a φ2 H2).fl fx) l a mf em hl rfl rfl)
        have sp : spM X.K (G.hand a φ2 H2) n (mgd mf) (V.ref a :: vs) H2 Q (WE W σ) := by
          refine ⟨φ2, .hof :: ds, st2, ?_, s3, .cons (.hof rfl) (rr.sw (G := G) (G' := G.hand a φ2 H2) rfl rfl c2), post_sp pb⟩
          rw [List.length_cons, ← rr.length]
          exact of_decide_eq_true c1
        have hl2 : (us ++ []).length = ps.length := by
          rw [List.append_nil, ← r.length]
          exact F.len _ _ _ _ sp
        have b1 := b s2 us I2.kIn hl2
        rw [List.append_nil] at b1
        refine wpAny_call (codeAny_mono (F.run X.A X.stack s2 H2 ⟨us, []⟩ us _ Q (WE W σ) (hr.mono hk) I2.env0 b1 r sp) fun rr s' hq => ?_)
        cases rr with
        | error e => exact L2N.passAt tk σ pins H2 s2 e s' I2 hq
        | ok fl =>
          cases fl with
          | ret u => exact I2.after hq
          | next => exact False.elim hq
          | brk => exact False.elim hq
          | cont => exact False.elim hq
    | _ => exact p3.elim
end
end DL

namespace DL
open PySem PySem.Spec PyProof.Rows L2
theorem hu1 {k : Nat} {A : Around} (hr : Room k A) : A.units + 1 < cLine := by have := hr.un; omega
theorem HofB.mono {P : Program} {w : World} {K : PySem.W.Frag} {mg : Str → Option Value} {base : Heap} {k j n : Nat} {G : Gx} {m : List D → M D} (h : HofB P w K mg base k G n m) (hk : k ≤ j) : HofB P w K mg base j G n m :=
  ⟨h.fn, fun a ha A outer s H us vs Q E hr => h.run a ha A outer s H us vs Q E (hr.mono hk)⟩
/-- a def whose code object is known -/
theorem ok_defC {P : Program} {w : World} {K : PySem.W.Frag} {mg : Str → Option Value} {base : Heap} {x : Str} {st : Stmt} {fd : FuncData} {N ps : List Str} {k n : Nat} {G : Gx} {b : MS} {fr : Bool} {len : Nat} (F : L2.Fun K x x st (He.ga K x) fd) (S : FnScope N ps (defScope st)) (hn : ps.length = n) (hN : N.length = len)
    (hbody : ∀ (cdv : Value) (A : Around) (outer : List Env) (s : Shared) (H : Hp) (E : XK), cdv = .ref (He.codeOf K (x, none)) → Room k (A.deeper (envOfC x (defScope st) s.heap.objs.size (He.ga K x) cdv)) →
      SS (cxOf (L2N.CX P w) P w K mg base N x (defScope st) (He.ga K x) cdv A outer s H E) G (WofE E) (defBody st) b) : FnOk P w K mg base (L2N.CX P w) (k + 1) (He.ga K x) fd ps (spM K G n (runB fr len n b)) := by
  obtain ⟨oc, od, kV, doc, pm, an, cdv, ct, osl, rfl, lk, hcd⟩ := F.ex
  obtain ⟨c, rfl⟩ := He.codeIn_ref hcd
  have hc : He.codeOf K (x, none) = c := He.codeOf_eq (p := (x, none)) lk rfl
  refine fn_of lk hcd S (fun vs H Q E ⟨_, _, _, h, _⟩ => h.trans hn.symm) fun A outer s H vs Q E hr hsp => ?_
  obtain ⟨φ, ds, st0, hl, so, rl, p⟩ := hsp
  refine ⟨_, hbody (.ref c) A outer s H E (by rw [hc]) hr, φ, _, st0, ⟨so, env_start rl hl⟩, ?_⟩
  rw [hN]
  exact runB_post so p
theorem tab_hu {T : List (Addr × Str)} (nd : (T.map (·.1)).Nodup) {P : Addr} {q : Str} (h : (P, q) ∈ T) : ∀ y ∈ T, y.1 = P → y.2 = q := by
  intro y hy e
  induction T with
  | nil => cases h
  | cons t r ih =>
    rw [List.map_cons, List.nodup_cons] at nd
    rcases List.mem_cons.mp h with h1 | h1 <;> rcases List.mem_cons.mp hy with h2 | h2
    · rw [h2, ← h1]
    · exact absurd (List.mem_map.mpr ⟨y, h2, by rw [e, ← h1]⟩) nd.1
    · exact absurd (List.mem_map.mpr ⟨_, h1, by show P = t.1; rw [← e, h2]⟩) nd.1
    · exact ih nd.2 h1 h2
def dLenD : D → M D
  | .cel n => fun st => match st[n]? with
    | some (.dct kvs) => .ok (.int kvs.length) st
    | _ => .bad
  | _ => fail
theorem cd_lenDict {X : Cx} {G : Gx} : CallD X G (fun xs H Q => ∃ a kvs, xs = [V.ref a] ∧ H a = some (.dK kvs) ∧ Q (.int kvs.length) H) (f1 dLenD) := cd_lenD
/-- what an own error's class must show, looked at -/
def excCB (K : PySem.W.Frag) (D : Addr) : Bool :=
  decide (PySem.W.findIn K (.ref D) "__getattribute__" = some (some (.builtin "BaseException.__getattribute__"))) && (decide (PySem.W.findIn K (.ref D) "__getattr__" = some none) && (decide (PySem.W.subIn K (.ref D) (.type "BaseException") = some true) && (PySem.W.hasDictIn K D &&
  (decide (PySem.W.findIn K (.ref D) "__class__" = some (some (.builtin "object.__class__"))) && (decide (PySem.W.specialIn K (.builtin "object.__class__") "__get__" = some (some (.builtin "getset_descriptor.__get__"))) && (decide (PySem.W.takesIn K (.builtin "object.__class__") = some true) && decide (PySem.W.mroIn K D (.type "object") = some true)))))))
theorem excC_of {K : PySem.W.Frag} {D : Addr} (h : excCB K D = true) : ExcC K D := by
  unfold excCB at h
  simp only [Bool.and_eq_true, decide_eq_true_eq] at h
  obtain ⟨h1, h2, h3, h4, h5, h6, h7, h8⟩ := h
  exact ⟨h1, h2, h3, h4, h5, h6, h7, h8⟩
end DL

namespace DL
open PySem PySem.Spec PyProof.Rows L2
section
variable {X : Cx} {G : Gx} {W : WX}
theorem mt_pc {a b : Expr} {op : CmpOp} {m : Env' → M D} {t : TE} {pos : Pos} (h : PC X op a b t) (hi : ∀ σ H Q, tM X.K G W m σ H Q → t σ H Q) (h1 : behindInMarks op b = false) : MT X G W (.Compare a [op] [b] pos) (mB m) := by
  refine ptImp (pt_cmp h h1) fun σ H Q ⟨φ, ρ, st, so, p⟩ => hi σ H _ ⟨φ, ρ, st, so, ?_⟩
  exact (Post.bind p).imp fun d st1 φ1 H1 x1 s1 p1 v1 r1 => asB_of s1 r1 p1
theorem isN_of {m : Env' → M D} (σ : St) (H : Hp) (Q : VK) (h : tM X.K G W (m1 dIsN m) σ H Q) : tIsN (tM X.K G W m) σ H Q := by
  obtain ⟨φ, ρ, st, so, p⟩ := h
  refine tM_of so (Post.bind p) fun d1 st1 φ1 H1 v1 x1 so1 r1 p1 => ?_
  rw [(isN_v r1).1] at p1
  exact postNow (W := W) (σ := σ) so1.s p1 _ .bl
theorem notN_of {m : Env' → M D} (σ : St) (H : Hp) (Q : VK) (h : tM X.K G W (m1 dNotN m) σ H Q) : tNotN (tM X.K G W m) σ H Q := by
  obtain ⟨φ, ρ, st, so, p⟩ := h
  refine tM_of so (Post.bind p) fun d1 st1 φ1 H1 v1 x1 so1 r1 p1 => ?_
  rw [(isN_v r1).2] at p1
  exact postNow (W := W) (σ := σ) so1.s p1 _ .bl
theorem mt_isN {a : Expr} {m : Env' → M D} {j : Nat} {pos pos' : Pos} (h : ME X G W a m) : MT X G W (.Compare a [.Is] [.Constant .none j pos'] pos) (mB (m1 dIsN m)) := mt_pc (pc_isN h) isN_of (nomark _)
theorem mt_notN {a : Expr} {m : Env' → M D} {j : Nat} {pos pos' : Pos} (h : ME X G W a m) : MT X G W (.Compare a [.IsNot] [.Constant .none j pos'] pos) (mB (m1 dNotN m)) := mt_pc (pc_notN h) notN_of (nomark _)
theorem inD_of {mi mo : Env' → M D} (σ : St) (H : Hp) (Q : VK) (h : tM X.K G W (mInD false mi mo) σ H Q) : tDIn (tM X.K G W mi) (tM X.K G W mo) σ H Q := by
  obtain ⟨φ, ρ, st, so, p⟩ := h
  refine tM_of so (Post.bind p) fun d1 st1 φ1 H1 v1 x1 so1 r1 p1 => ?_
  refine tM_of so1 (Post.bind p1) fun d2 st2 φ2 H2 v2 x2 so2 r2 p2 => ?_
  obtain ⟨a, kvs, vs, rfl, rd, rk, p3⟩ := dDict_of so2.s r2 (Post.bind p2)
  cases ek : keyD d1 with
  | none => rw [ek] at p3; exact p3.elim
  | some k =>
    rw [ek] at p3
    refine ⟨a, valV vs k, rfl, .inl ⟨vs, k, rd, key_v ek (r1.mono x2), rfl⟩, ?_⟩
    have := postNow (W := W) (σ := σ) so2.s p3 _ .bl
    rcases rk.val (k := k) with ⟨e1, e2⟩ | ⟨d, v, e1, e2, _⟩
    · rw [e1] at this; rw [e2]; simpa using this
    · rw [e1] at this; rw [e2]; simpa using this
theorem mt_inD {o i : Expr} {mo mi : Env' → M D} {pos : Pos} (hu : X.A.units + 1 < cLine) (hi : ME X G W i mi) (ho : ME X G W o mo) (h1 : behindInMarks .In o = false := by rfl) : MT X G W (.Compare i [.In] [o] pos) (mB (mInD false mi mo)) := mt_pc (pc_din hu hi ho) inD_of h1
end
end DL

namespace DL
open PySem PySem.Spec PyProof.Rows L2
/-! ### a lambda with a parameter and no captured names, handed to a def -/
/-- the function object at f, known -/
def LamO (o : Obj) (f : Addr) : HO := .ext fun h => h.get? f = some o
theorem lamO_ok {P : Program} {w : World} {H : Hp} {h : Heap} {o : Obj} {f : Addr} (e : h.get? f = some o) : ObjOk P w H h f (LamO o f) := ⟨e, ⟨o, e⟩, fun _ _ a k => k _ a⟩
theorem lamO_get {P : Program} {w : World} {H : Hp} {h : Heap} {o : Obj} {f : Addr} (k : HOk P w H h) (e : H f = some (LamO o f)) : h.get? f = some o := (k f _ e).1
theorem lamO_ne {o : Obj} {f : Addr} : (∀ xs, LamO o f ≠ .lst xs) ∧ (∀ xs, LamO o f ≠ .tup xs) ∧ (∀ z u, LamO o f ≠ .frz z u) ∧ (∀ ps, LamO o f ≠ .tbl ps) ∧ (∀ kvs, LamO o f ≠ .dK kvs) ∧ (∀ C dx fs, LamO o f ≠ .ins C dx fs) ∧ (∀ y, LamO o f ≠ .own y) := by
  unfold LamO
  exact ⟨(fun _ z => by cases z), (fun _ z => by cases z), (fun _ _ z => by cases z), (fun _ z => by cases z), (fun _ z => by cases z), (fun _ _ _ z => by cases z), (fun _ z => by cases z)⟩
/-- f let go -/
def untr (H : Hp) (f : Addr) : Hp := fun b => if b = f then none else H b
theorem untr_ne {H : Hp} {f b : Addr} (h : b ≠ f) : untr H f b = H b := if_neg h
theorem untr_same {H : Hp} {f : Addr} : untr H f f = none := if_pos rfl
section
variable {K : PySem.W.Frag} {G : Gx} {φ : List Addr} {H : Hp} {f : Addr} {o : Obj}
section
variable (h : H f = some (LamO o f))
include h
theorem ut_at {b : Addr} {u : HO} (e : H b = some u) (n : u ≠ LamO o f) : untr H f b = some u := by
  rw [untr_ne (fun z => by
    rw [z, h] at e
    exact n (Option.some.inj e).symm)]
  exact e
mutual
theorem Rp.ut : ∀ {d : D} {v : V}, Rp K G φ H d v → Rp K G φ (untr H f) d v
  | _, _, .non => .non
  | _, _, .bl => .bl
  | _, _, .int => .int
  | _, _, .str h => .str h
  | _, _, .tup s r => .tup (by
      rcases s with (q | ⟨z, q⟩) | q
      · exact .inl (.inl (ut_at h q (lamO_ne.2.1 _).symm))
      · exact .inl (.inr ⟨z, ut_at h q (lamO_ne.2.2.1 _ _).symm⟩)
      · exact .inr q) (RpL.ut r)
  | _, _, .lst q n z r => .lst (ut_at h q (lamO_ne.1 _).symm) n z (RpL.ut r)
  | _, _, .scr s r => .scr (s.imp (fun ⟨z, q⟩ => ⟨z, ut_at h q (lamO_ne.2.2.1 _ _).symm⟩) id) (RpL.ut r)
  | _, _, .cel q => .cel q
  | _, _, .fn q => .fn q
  | _, _, .hof q => .hof q
theorem RpL.ut : ∀ {ds : List D} {vs : List V}, RpL K G φ H ds vs → RpL K G φ (untr H f) ds vs
  | _, _, .nil => .nil
  | _, _, .cons r q => .cons (Rp.ut r) (RpL.ut q)
end
theorem RpF.ut : ∀ {ds : List (Str × D)} {vs : List (Str × V)}, RpF K G φ H ds vs → RpF K G φ (untr H f) ds vs
  | _, _, .nil => .nil
  | _, _, .cons r q => .cons (Rp.ut h r) (RpF.ut q)
theorem RpK.ut : ∀ {ds : List (Key × D)} {vs : List (Key × V)}, RpK K G φ H ds vs → RpK K G φ (untr H f) ds vs
  | _, _, .nil => .nil
  | _, _, .cons r q => .cons (Rp.ut h r) (RpK.ut q)
theorem CellOk.ut {c : Cell} {u : HO} (q : CellOk K G φ H c u) : CellOk K G φ (untr H f) c u := by
  cases q with
  | lst r => exact .lst (r.ut h)
  | dct r => exact .dct (r.ut h)
  | dctZ r => exact .dctZ (r.ut h)
  | ins r => exact .ins (r.ut h)
theorem tabs_ut {T : List (Addr × Str)} (hg : ∃ hp : Heap, hp.get? f = some o) (hd : ∀ vs, o.data ≠ .fields vs) (t : LamX.Tabs T H) : LamX.Tabs T (untr H f) := fun p hp => by
  obtain ⟨ps, h1, h2, h3⟩ := t p hp
  refine ⟨ps, ut_at h h1 (lamO_ne.2.2.2.1 _).symm, h2, fun pos cv hc => ?_⟩
  obtain ⟨c, e1, e2⟩ := h3 pos cv hc
  refine ⟨c, e1, ?_⟩
  by_cases hcf : c = f
  · subst hcf
    exfalso
    rw [h] at e2
    unfold LamO LamX.CodeO at e2
    obtain ⟨g, hg⟩ := hg
    have e3 := HO.ext.inj (Option.some.inj e2)
    have e4 : (g.get? c = some o) = ∃ (oc : Obj) (vs : Array Value) (t : Tok), g.get? c = some oc ∧ oc.data = .fields vs ∧ vs[1]? = some (.str p.2 t) := congrFun e3 g
    rw [e4] at hg
    obtain ⟨oc, vs, t, a1, a2, a3⟩ := hg
    have : g.get? c = some o := by rw [e4]; exact ⟨oc, vs, t, a1, a2, a3⟩
    rw [a1] at this
    cases this
    exact hd vs a2
  · rw [untr_ne hcf]
    exact e2
end
end
end DL
namespace DL
open PySem PySem.Spec PyProof.Rows L2
/-- what is known of the handed function object -/
structure LamAt (G : Gx) (f c' : Addr) (o : Obj) (q : Str) : Prop where
  hf : G.hf = some f
  f0 : G.H0 f = some (LamO o f)
  nf : f ∉ G.φ0
  c0 : G.H0 c' = some (LamX.CodeO c' q)
  nc : c' ∉ G.φ0
theorem hof_lam {P : Program} {w : World} {K : PySem.W.Frag} {mg : Str → Option Value} {base : Heap} {k : Nat} {G : Gx} {f c' : Addr} {qual : Str} {params : Arguments} {body : Expr} {scope : Scope} {pm ctv : Value} {N : List Str} {a : Str} {e : Env' → M D} {len : Nat}
    {ob : Obj} (A0 : LamAt G f c' ob qual) (ho : PySem.W.kla_obj "<lambda>" qual params body scope [] pm c' ctv = ob) (S : FnScope N [a] scope) (hN : N.length = len)
    (hbi : ∀ u : Value, bindArgs (PySem.W.kla_fn "<lambda>" qual params body scope [] pm (.ref c') ctv) ⟨[u], []⟩ = pure ([a].zip [u]))
    (hbody : ∀ (A : Around) (outer : List Env) (s : Shared) (H : Hp) (E : XK), Room k (A.deeper (envOfC qual scope s.heap.objs.size f (.ref c'))) → ME (cxOf (L2N.CX P w) P w K mg base N qual scope f (.ref c') A outer s H E) G (WofE E) body e) :
    HofB P w K mg base (k + 1) G 1 (runB true len 1 (sRet e)) where
  fn := fun b hb φ H st h so hok kin => by
    have e1 : b = f := by
      have := A0.hf.symm.trans hb
      cases this
      rfl
    subst e1
    have := lamO_get hok (so.anc.keep _ _ A0.f0 A0.nf lamO_ne.2.2.2.1)
    rw [← ho] at this
    exact ⟨_, _, _, _, this⟩
  run := fun b hb A outer s H us vs Q E hr e0 r hs => by
    have e1 : b = f := by
      have := A0.hf.symm.trans hb
      cases this
      rfl
    subst e1
    obtain ⟨φ, ds, st, hl, so, rl, p⟩ := hs
    have of1 := lamO_get e0.hok (so.anc.keep _ _ A0.f0 A0.nf lamO_ne.2.2.2.1)
    rw [← ho] at of1
    have oc1 := so.anc.keep _ _ A0.c0 A0.nc LamX.codeO_ne
    obtain ⟨⟨oc, ws, t, hoc, hdc, hvc⟩, _, _⟩ := e0.hok c' _ oc1
    have lim : s.heap.NoLimit := e0.mod.nolimit.keeps fun b o e => (e0.bs b o e).1
    cases r with
    | nil => cases hl
    | @cons v u vs us rv rr => cases rr with
      | cons _ _ => simp at hl
      | nil =>
        refine PySem.W.kla_callFunE hr.depth of1 rfl S.co S.gen rfl ⟨c', oc, ws, t, rfl, hoc, hdc, hvc⟩ ?_
        rw [hbi u]
        have kinds : ∀ y ∈ ([a].zip [u]), scope.names.lookup y.1 = some .local ∨ (scope.names.lookup y.1 = some .cell ∧ ((cellsFrom (s.heap.objs.size + 1) scope.names []).lookup y.1).isSome = true) := fun y hy => by
          obtain ⟨n, v⟩ := y
          exact (S.par n (List.of_mem_zip hy).1).imp id fun q => ⟨q, PySem.W.cellsFrom_some _ _ _ (.inl q)⟩
        refine wpAny_pure (wpAny_newFunctionEnv_cells S.kind kinds fun env he s1 xc => ?_)
        subst he
        refine ⟨lim.keeps xc.toInCall.keep, ?_⟩
        have I := inv_start (CX := L2N.CX P w) (E := E) (qual := qual) (f := b) (cd := .ref c') S hr.hd e0 (vs := [v]) rfl (.cons rv .nil) xc
        have pq := runB_post so p
        rw [← hN] at pq
        refine PySem.W.kla_codeExpr (wpAny_mono ((hbody A outer s H E (hr.deeper _)).run [] s1 _ H Q I ⟨φ, _, st, ⟨so, env_start rl hl⟩, ?_⟩) (fun u' s' hq => ?_) fun e s' hq => hq)
        · have := PostS.sb (m := e (ds.map some ++ List.replicate (N.length - 1) none)) (f := fun d st => .rt d st) (env_start rl hl) pq
          refine this.imp fun d st1 φ1 H1 x1 s1 q v r => ?_
          exact q φ1 H1 v (Ext.refl _ _) s1 r
        · obtain ⟨w', H', J', rv', q⟩ := hq
          exact ⟨w', H', J'.os, J'.bare, J'.base, J'.hok, rv', q⟩
end DL
namespace DL
open PySem PySem.Spec PyProof.Rows L2
theorem Inv.drop1 {X : Cx} {pins pl : List (Addr × Obj)} {σ : L2.St} {H : Hp} {s : Shared} (I : Inv X (pins ++ pl) σ H s) : Inv X pins σ H s := I.unpinned
section
variable {P : Program} {w : World} {H : Hp} {h h' : Heap} {f : Addr} {o : Obj}
theorem hok_tr (k : HOk P w H h) (n : H f = none) (e : h.get? f = some o) : HOk P w (upd H f (LamO o f)) h := fun b u hb => by
  by_cases hbf : b = f
  · subst hbf
    rw [upd_same] at hb
    cases hb
    exact lamO_ok e
  · rw [upd_ne hbf] at hb
    exact (k b u hb).stay (fun _ _ _ q => q) (fun c q => by rw [upd_ne (ne_of_none q n)]; exact q) fun c xs q => by rw [upd_ne (ne_of_none q n)]; exact q
theorem hok_ut (k : HOk P w H h) (e : H f = some (LamO o f)) : HOk P w (untr H f) h := fun b u hb => by
  by_cases hbf : b = f
  · subst hbf
    rw [untr_same] at hb
    cases hb
  · rw [untr_ne hbf] at hb
    exact (k b u hb).stay (fun _ _ _ q => q) (fun c q => ut_at e q (lamO_ne.2.2.2.2.2.2 _).symm) fun c xs q => ut_at e q (lamO_ne.2.1 _).symm
end
/-- the handed object let go: what stays -/
theorem ext_ut {φ φ' : List Addr} {H H' : Hp} {f : Addr} {o : Obj} (n : H f = none) (x : Ext φ (upd H f (LamO o f)) φ' H') : Ext φ H φ' (untr H' f) where
  pre := by
    obtain ⟨ψ, e, q⟩ := x.pre
    refine ⟨ψ, e, fun a ha => ?_⟩
    have := q a ha
    by_cases h : a = f
    · rw [h]; exact n
    · rwa [upd_ne h] at this
  keep := fun a u e na nt => by
    have h := ne_of_none e n
    rw [untr_ne h]
    exact x.keep a u (by rw [upd_ne h]; exact e) na nt
  tups := fun a xs e => by
    have h := ne_of_none e n
    rw [untr_ne h]
    exact x.tups a xs (by rw [upd_ne h]; exact e)
  frzs := fun a u w e => by
    have h := ne_of_none e n
    rw [untr_ne h]
    exact x.frzs a u w (by rw [upd_ne h]; exact e)
  there := fun a e => by
    have h : a ≠ f := fun z => e (by rw [z]; exact n)
    rw [untr_ne h]
    exact x.there a (by rw [upd_ne h]; exact e)
theorem lam_no {K : PySem.W.Frag} {G : Gx} {φ : List Addr} {H : Hp} {st : Store} {f : Addr} {o : Obj} (so : StOk K G φ H st) (h : H f = some (LamO o f)) : f ∉ φ := fun hm => by
  obtain ⟨i, hi, e⟩ := List.getElem_of_mem hm
  have h2 : i < st.length := by rw [← so.len]; exact hi
  obtain ⟨u, e1, r⟩ := so.cell i st[i] f (List.getElem?_eq_getElem h2) (by rw [List.getElem?_eq_getElem hi, e])
  rw [h] at e1
  cases e1
  generalize st[i] = cc at r
  unfold LamO at r
  cases r
theorem StOk.ut {K : PySem.W.Frag} {G : Gx} {φ φ' : List Addr} {H H' : Hp} {st st' : Store} {f : Addr} {o : Obj} (s0 : StOk K G φ H st) (n : H f = none) (x : Ext φ (upd H f (LamO o f)) φ' H') (s : StOk K G φ' H' st') (h : H' f = some (LamO o f))
    (hg : ∃ hp : Heap, hp.get? f = some o) (hd : ∀ vs, o.data ≠ .fields vs) : StOk K G φ' (untr H' f) st' where
  len := s.len
  nd := s.nd
  cell := fun i c a h1 h2 => by
    obtain ⟨u, e, r⟩ := s.cell i c a h1 h2
    have ha : a ≠ f := fun z => lam_no s h (by rw [← z]; exact List.mem_of_getElem? h2)
    exact ⟨u, by rw [untr_ne ha]; exact e, r.ut h⟩
  tabs := tabs_ut h hg hd s.tabs
  anc := s0.anc.trans (ext_ut n x)
  fx := fun a ha => (ext_ut n x).there a (s0.fx a ha)
  fd := s.fd
/-- the run that follows, f let go at its end -/
theorem ce_ut {outer : List Env} {P : Program} {w : World} {H : Hp} {s s' : Shared} {Q : VK} {u : Value} {f : Addr} {o : Obj} (n : H f = none) (e : s.heap.get? f = some o) (nf : f ∉ frs outer)
    (c : CE outer P w (upd H f (LamO o f)) s (fun v H' => H' f = some (LamO o f) ∧ Q v (untr H' f)) u s') : CE outer P w H s Q u s' := by
  obtain ⟨v, H', os, bare, un, hok, rv, e2, q⟩ := c
  refine ⟨v, untr H' f, os, bare, ⟨fun b ob g nb hb hx => ?_, fun b ob g nb hb hx => ?_, fun b ob g nb hx => ?_, un.there, fun b xs g => ?_, fun b ob u g => ?_, fun b ps g => ?_⟩, hok_ut hok e2, rv, q⟩
  · by_cases hbf : b = f
    · subst hbf
      have := lamO_get hok e2
      rw [e] at g
      cases g
      exact this
    · exact un.keep b ob g (by rw [upd_ne hbf]; exact nb) hb hx
  · exact un.slot b ob g (by rw [upd_ne (fun z => nf (by rw [← z]; exact hb))]; exact nb) hb hx
  · by_cases hbf : b = f
    · subst hbf
      exact untr_same
    · rw [untr_ne hbf]
      exact un.free b ob g (by rw [upd_ne hbf]; exact nb) hx
  · have hbf := ne_of_none g n
    rw [untr_ne hbf]
    exact un.tups b xs (by rw [upd_ne hbf]; exact g)
  · have hbf := ne_of_none g n
    rw [untr_ne hbf]
    exact un.frzs b ob u (by rw [upd_ne hbf]; exact g)
  · have hbf := ne_of_none g n
    rw [untr_ne hbf]
    exact un.tbls b ps (by rw [upd_ne hbf]; exact g)
/-- g(lambda x: .., ..) -/
def mHlam (n : Nat) (mB : List D → M D) (mg : (List D → M D) → List D → M D) (ms : Env' → M (List D)) (ρ : Env') : M D := bnd (ms ρ) fun ds => chk (decide (ds.length + 1 = n) && D.nhL ds) (noEx (hfr (mg mB (D.hof :: ds))))
theorem me_hlam {X : Cx} {G : Gx} {W : WX} {x a : Str} {j k kB n len : Nat} {c P : Addr} {params : Arguments} {body : Expr} {scope : Scope} {N : List Str} {e : Env' → M D} {es : List Expr} {ms : Env' → M (List D)} {mgd : (List D → M D) → List D → M D} {p lpos pos : Pos}
    (hm : X.mg x = some (.ref (He.ga X.K x))) (kp : PySem.W.keepIn X.K (.ref (He.ga X.K x)) = true)
    (cal : ∀ (G' : Gx) (mf : List D → M D), G'.tb = G.tb → (∀ fx, HofB X.prog X.w X.K X.mg X.base (kB + 1) (G'.fl fx) 1 mf) → Cal X.prog X.w X.K X.mg X.base k x (spM X.K G' n (mgd mf)))
    (hr : Room j X.A) (hk : k ≤ j) (B : LamX.TabB X.base X.mg c P) (hco : X.env.code = .ref c) (hmT : (P, X.env.qual ++ "<lambda>") ∈ G.tb.tabs)
    (hu : ∀ y ∈ G.tb.tabs, y.1 = P → y.2 = X.env.qual ++ "<lambda>") (S : FnScope N [a] scope) (hN : N.length = len) (ha : MA X G W es ms)
    (hbody : ∀ (G' : Gx) (f c' : Addr) (A : Around) (outer : List Env) (s : Shared) (H : Hp) (E : XK), G'.tb = G.tb → Room kB (A.deeper (envOfC (X.env.qual ++ "<lambda>") scope s.heap.objs.size f (.ref c'))) →
      ME (cxOf (L2N.CX X.prog X.w) X.prog X.w X.K X.mg X.base N (X.env.qual ++ "<lambda>") scope f (.ref c') A outer s H E) G' (WofE E) body e)
    (hde : defaultsOf params X.env = ([], []) := by rfl)
    (hbi : ∀ (q : Str) (pm cv ctv u : Value), bindArgs (PySem.W.kla_fn "<lambda>" q params body scope [] pm cv ctv) ⟨[u], []⟩ = pure ([a].zip [u]) := by intro _ _ _ _ _; rfl)
    (hcl : ∀ cells : List (Str × Addr), cloFrom cells scope.names [] = [] := by intro _; rfl) (hg : Gl X x := by rfl) (hdb : (x == ("__debug__" : Str)) = false := by decide)
    (he : starEach (.Lambda params body scope lpos :: es) X.env = (false, eval (.Lambda params body scope lpos) X.env) :: starEach es X.env := by rfl) (hpl : (backTo pos (starEach es X.env)).any (·.1) = false := by rfl) :
    ME X G W (.Call (.Name x p) (.Lambda params body scope lpos :: es) [] pos) (mHlam n (runB true len 1 (sRet e)) mgd ms) := by
  refine ⟨fun pins s σ H Q I ⟨φ, ρ, st, so, pp⟩ => ?_⟩
  refine wpAny_Call_Name_kw (ld_glob I hg hm ?_ hdb)
  refine PySem.W.callWith_K (h₀ := X.base) I.ok.mod.kin kp ?_ he hpl
  show wpAny _ _ (spliced (backTo pos (starEach (.Lambda params body scope lpos :: es) X.env))) _ _ s
  rw [he]
  show wpAny _ _ (spliced ((false, eval (.Lambda params body scope lpos) X.env) :: backTo pos (starEach es X.env))) _ _ s
  have nofree : ∀ y ∈ scope.names, y.2 = .free → ∃ u, X.env.cells.lookup y.1 = some u := fun y hy z => absurd z (S.nofree y hy)
  refine Calls.spliced_cons (lam_makeD I B hco hmT hu so.s.tabs hde nofree fun f c' pm ctv H1 s' I1 lh T1 hf hfn hfs hcc hge => ?_)
  have hcl2 : cloFrom X.env.cells scope.names [] = [] := hcl _
  rw [hcl2] at hf
  have x1 : Ext φ H φ H1 := lh.ext
  have so1 : SOk X.K G φ H1 σ ρ st := ⟨⟨so.s.len, so.s.nd, fun n cc b h1 h2 => by
    obtain ⟨o, e, r⟩ := so.s.cell n cc b h1 h2
    exact ⟨o, lh.keep e (fun ps z => by
      subst z
      generalize cc = c2 at r
      cases r), r.mono x1⟩, T1, so.s.anc.trans x1, fun b hb => x1.there b (so.s.fx b hb), so.s.fd⟩, so.e.mono x1⟩
  have ipin := I1.pinned (fp := [f]) (fun b hb => by
    have : b = f := by simpa using hb
    subst this
    exact I.fpOk hge hfn) (fun b hb => by
    have : b = f := by simpa using hb
    subst this
    exact ⟨_, hf, fun v z => by cases z⟩)
  have pa : tML X.K G W ms σ H1 (fun vs H2 => ∃ φ2 st2 ds, StOk X.K G φ2 H2 st2 ∧ Ext φ H1 φ2 H2 ∧ RpL X.K G φ2 H2 ds vs ∧ Post X.K G W σ φ2 H2 (chk (decide (ds.length + 1 = n) && D.nhL ds) (noEx (hfr (mgd (runB true len 1 (sRet e)) (D.hof :: ds)))) st2) fun d _ φ' H' => ∀ v, Rp X.K G φ' H' d v → Q v H') :=
    ⟨φ, ρ, st, so1, (Post.bind (Post.ext x1 pp)).imp fun ds st2 φ2 H2 x2 s2 p2 vs r2 => ⟨φ2, st2, ds, s2, x2, r2, p2⟩⟩
  refine thn (ha.run pos _ s' σ H1 _ ipin pa) fun us s2 ⟨vs, H2, I2p, r, φ2, st2, ds, s2', x2, rl, p3⟩ => ?_
  have hp := I2p.pin (f, _) (List.mem_append_right _ (List.mem_append_right _ (mem_pinsAt (List.mem_singleton.mpr rfl) hf)))
  have hf2 := hp.1
  have nf2 : H2 f = none := hp.2.1
  have I2 : Inv X pins σ H2 s2 := I2p.unpinned
  refine ⟨I2.kIn, ?_⟩
  obtain ⟨cc, p4⟩ := Post.chk p3
  obtain ⟨c1, c2⟩ := Bool.and_eq_true_iff.mp cc
  have p5 := Post.noEx (W' := W0) (σ' := []) p4
  -- the callee's world: f known
  generalize ho : PySem.W.kla_obj "<lambda>" (X.env.qual ++ "<lambda>") params body scope [] pm c' ctv = ob at hf2
  have xt : Ext φ2 H2 φ2 (upd H2 f (LamO ob f)) := Ext.new nf2
  have st3 := s2'.new (o := LamO ob f) nf2
  have p6 := Post.ext xt p5
  have cH2 : H2 c' = some (LamX.CodeO c' (X.env.qual ++ "<lambda>")) := x2.keep _ _ hcc (ext_no so1.s hcc) LamX.codeO_ne
  have nfφ : f ∉ φ2 := notin_phi s2' nf2
  have ncφ : c' ∉ φ2 := ext_no s2' cH2
  have at0 : ∀ fx, LamAt ((G.hand f φ2 (upd H2 f (LamO ob f))).fl fx) f c' ob (X.env.qual ++ "<lambda>") := fun fx => ⟨rfl, upd_same, nfφ, by
    show upd H2 f (LamO ob f) c' = _
    rw [upd_ne (ne_of_none cH2 nf2)]
    exact cH2, ncφ⟩
  have hofs : ∀ fx, HofB X.prog X.w X.K X.mg X.base (kB + 1) ((G.hand f φ2 (upd H2 f (LamO ob f))).fl fx) 1 (runB true len 1 (sRet e)) := fun fx => by
    exact hof_lam (at0 fx) ho S hN (fun u => hbi _ _ _ _ _) fun A outer s H E hrr => by
      exact hbody _ f c' A outer s H E rfl hrr
  obtain ⟨fd, ps, F, b, _, _⟩ := cal (G.hand f φ2 (upd H2 f (LamO ob f))) _ rfl hofs
  have hobd : ∀ vs, ob.data ≠ .fields vs := by
    subst ho
    intro vs z
    cases z
  have anc : Ext φ2 (upd H2 f (LamO ob f)) φ2 (upd H2 f (LamO ob f)) := Ext.refl _ _
  let Q3 : VK := fun v H' => H' f = some (LamO ob f) ∧ Q v (untr H' f)
  have p7 : Post X.K G W0 [] φ2 (upd H2 f (LamO ob f)) (hfr (mgd (runB true len 1 (sRet e)) (D.hof :: ds)) st2) fun d _ φ' H' => ∀ v, Rp X.K G φ' H' d v → Q3 v H' := by
    revert p5
    generalize hfr (mgd (runB true len 1 (sRet e)) (D.hof :: ds)) st2 = R
    intro p5
    cases R with
    | ok d st4 =>
      intro φ' H' x' s' v r'
      have hk := x'.keep f _ upd_same nfφ lamO_ne.2.2.2.1
      exact ⟨hk, p5 φ' (untr H' f) (ext_ut nf2 x') (StOk.ut s2' nf2 x' s' hk ⟨_, hf2⟩ hobd) v (r'.ut hk)⟩
    | exc c st4 =>
      intro φ' H' x' s'
      have hk := x'.keep f _ upd_same nfφ lamO_ne.2.2.2.1
      exact p5 φ' (untr H' f) (ext_ut nf2 x') (StOk.ut s2' nf2 x' s' hk ⟨_, hf2⟩ hobd)
    | bad => exact p5
  obtain ⟨nh, pb⟩ := Post.sw (G := G.hand f φ2 (upd H2 f (LamO ob f))) (G' := G) rfl rfl st3.anc p7
  have s3 : StOk X.K (G.hand f φ2 (upd H2 f (LamO ob f))) φ2 (upd H2 f (LamO ob f)) st2 := st3.sw (G := G) (G' := G.hand f φ2 (upd H2 f (LamO ob f))) rfl rfl nh anc
  have sp : spM X.K (G.hand f φ2 (upd H2 f (LamO ob f))) n (mgd (runB true len 1 (sRet e))) (V.ref f :: vs) (upd H2 f (LamO ob f)) Q3 (fun _ _ _ => False) := by
    refine ⟨φ2, .hof :: ds, st2, ?_, s3, .cons (.hof rfl) ((rl.mono xt).sw (G := G) (G' := G.hand f φ2 (upd H2 f (LamO ob f))) rfl rfl c2), pb⟩
    rw [List.length_cons, ← rl.length]
    exact of_decide_eq_true c1
  have hl2 : ((Value.ref f :: us) ++ []).length = ps.length := by
    rw [List.append_nil, List.length_cons, ← r.length]
    exact F.len _ _ _ _ sp
  have b1 := b s2 (.ref f :: us) I2.kIn hl2
  rw [List.append_nil] at b1
  have nofr : f ∉ frs X.stack := fun hb => by
    obtain ⟨_, _, e, _⟩ := I.stack.mem hb
    exact absurd (Nat.lt_of_lt_of_le (Heap.lt_size e) hge) (Nat.lt_irrefl _)
  have e3 : Env0 X.prog X.w X.K X.mg X.base X.A X.stack s2 (upd H2 f (LamO ob f)) := by
    have e := I2.env0
    refine ⟨e.frames, e.mod, fun b u g => ⟨(e.bs b u g).1, ?_⟩, e.bsz, e.funs, fun b hb => ?_, hok_tr e.hok nf2 hf2, e.bare⟩
    · rw [upd_ne (fun z => absurd (Nat.lt_of_lt_of_le (Heap.lt_size g) (Nat.le_trans (Nat.le_trans I.ok.bsz I.sz) (by rw [z]; exact hge))) (Nat.lt_irrefl _))]
      exact (e.bs b u g).2
    · rw [upd_ne (fun z => nofr (by rw [← z]; exact hb))]
      exact e.frf b hb
  refine wpAny_call (codeAny_mono (F.run X.A X.stack s2 (upd H2 f (LamO ob f)) ⟨.ref f :: us, []⟩ (.ref f :: us) (V.ref f :: vs) Q3 (fun _ _ _ => False) (hr.mono hk) e3 b1 (.cons rfl r) sp) fun rr s4 hq => ?_)
  cases rr with
  | error e => 
    obtain ⟨_, _, _, _, _, _, _, _, _, _, _, _, z⟩ := hq
    exact z.elim
  | ok fl =>
    cases fl with
    | ret u => exact I2.after (ce_ut nf2 hf2 nofr hq)
    | next => exact False.elim hq
    | brk => exact False.elim hq
    | cont => exact False.elim hq
end DL

namespace DL
open PySem PySem.Spec PyProof.Rows L2
/-! ### text.replace(y, z) of written texts: a token must be out ahead of it -/
def PEb (X : Cx) (e : Expr) (t : TE) : Prop := ∀ (pins : List (Addr × Obj)) (s : Shared) (σ : L2.St) (H : Hp) (Q : VK), Inv X pins σ H s → t σ H Q → wpAny (model X.prog X.w) X.A (eval e X.env) (fun v s' => 1 ≤ s'.toks ∧ EP X pins σ Q v s') X.xe s
section
variable {X : Cx} {G : Gx} {W : WX}
abbrev MAT (X : Cx) (G : Gx) (W : WX) (es : List Expr) (ms : Env' → M (List D)) : Prop := PAT X es (tML X.K G W ms)
abbrev MET (X : Cx) (G : Gx) (W : WX) (e : Expr) (m : Env' → M D) : Prop := PET X e (tM X.K G W m)
theorem petImp {e : Expr} {t t' : TE} (h : PET X e t) (i : ∀ σ H Q, t' σ H Q → t σ H Q) : PET X e t' := fun pins s σ H Q h0 I hw => h pins s σ H Q h0 I (i σ H Q hw)
theorem patImp {e : List Expr} {t t' : TA} (h : PAT X e t) (i : ∀ σ H Q, t' σ H Q → t σ H Q) : PAT X e t' := fun p pins s σ H Q h0 I hw => h p pins s σ H Q h0 I (i σ H Q hw)
theorem met {e : Expr} {m : Env' → M D} (h : ME X G W e m) : MET X G W e m := CwR.PET.of h
theorem peb_opc {op : Operator} {r : R2} {a : Expr} {ta : TE} {c : Str} {j : Nat} {p pos : Pos} (ho : OpR X (binaryOp op) r) (ha : PE X a ta) : PEb X (.BinOp a op (.Constant (.str c) j p) pos) (tOp r ta (tC (.str c))) := by
  intro pins s σ H Q I h
  refine wpAny_BinOp (thn (ha.run pins s σ H _ I h) fun v s1 ⟨x, H1, I1, r1, q1⟩ => Calls.Constant_str ?_)
  refine wpAny_mono (PySem.wpAny_toks (ho pins _ σ H1 x (.str c) v (.str c s1.toks) Q (I1.tok (s1.toks + 1)) r1 ⟨s1.toks, rfl⟩ q1)) (fun u s2 q => ⟨?_, q.2⟩) fun _ _ z => z.2
  have : s1.toks + 1 ≤ s2.toks := q.1
  omega
theorem cst_tC {c : Str} {z : List Nat} {σ : L2.St} {H : Hp} {Q : VK} (hc : c = ⟨z.toArray⟩) (hz : (z.all fun c => decide (c < 0x110000)) = true) (h : tM X.K G W (cst (.str z)) σ H Q) : tC (.str c) σ H Q := by
  subst hc
  obtain ⟨φ, ρ, st, so, p⟩ := h
  exact p φ H (Ext.refl _ _) so.s _ (.str hz)
/-- a op 'c' -/
theorem meb_opc {op : Operator} {r : R2} {dop : D → D → M D} {a : Expr} {ma : Env' → M D} {c : Str} {j : Nat} {p pos : Pos} (ho : OpR X (binaryOp op) r) (hd : OpD X G r dop) (ha : ME X G W a ma) {z : List Nat} (hc : c = ⟨z.toArray⟩) (hz : (z.all fun c => decide (c < 0x110000)) = true) :
    PEb X (.BinOp a op (.Constant (.str c) j p) pos) (tM X.K G W (m2 dop ma (cst (.str z)))) := fun pins s σ H Q I hw =>
  peb_opc ho ha pins s σ H Q I (by
    obtain ⟨φ, ρ, st, so, p⟩ := hw
    refine tM_of so (Post.bind p) fun d1 st1 φ1 H1 v1 x1 so1 r1 p1 => ?_
    have h2 : tM X.K G W (cst (.str z)) σ H1 _ := tM_of so1 (Post.bind p1) fun d2 st2 φ2 H2 v2 x2 so2 r2 p2 => hd φ2 H2 st2 d1 d2 v1 v2 W σ Q so2.s (r1.mono x2) r2 p2
    exact cst_tC hc hz h2)
theorem mat_nil : MAT X G W [] mNil := patImp pat_nil fun σ H Q ⟨φ, ρ, st, so, p⟩ => Post.now (G := G) (W := W) (σ := σ) so.s p _ .nil
theorem mat_cons {e : Expr} {es : List Expr} {m : Env' → M D} {ms : Env' → M (List D)} (ha : MET X G W e m) (hr : MAT X G W es ms) (hs : starEach (e :: es) X.env = (false, eval e X.env) :: starEach es X.env := by rfl) : MAT X G W (e :: es) (mCons m ms) := by
  refine patImp (pat_cons ha hr hs) fun σ H Q ⟨φ, ρ, st, so, p⟩ => ?_
  refine tM_of so (Post.bind p) fun d1 st1 φ1 H1 v1 x1 so1 r1 p1 => ?_
  refine tML_of so1 (Post.bind p1) fun d2 st2 φ2 H2 v2 x2 so2 r2 p2 => ?_
  exact Post.now (G := G) (W := W) (σ := σ) so2.s p2 _ (.cons (r1.mono x2) r2)
theorem ma_bump {e : Expr} {es : List Expr} {m : Env' → M D} {ms : Env' → M (List D)} (ha : PEb X e (tM X.K G W m)) (hr : MAT X G W es ms) (hs : starEach (e :: es) X.env = (false, eval e X.env) :: starEach es X.env := by rfl) : MA X G W (e :: es) (mCons m ms) := by
  have h : PA X (e :: es) (tCons (tM X.K G W m) (tML X.K G W ms)) := ⟨fun pos pins s σ H Q I h => by
    rw [hs]
    show wpAny _ _ (spliced ((false, eval e X.env) :: backTo pos (starEach es X.env))) _ _ s
    refine Calls.spliced_cons (thn (ha pins s σ H _ I h) fun v s1 q => ?_)
    obtain ⟨hk, x, H1, I1, r1, q1⟩ := q
    exact thn (hr pos pins s1 σ H1 _ hk I1 q1) fun us s2 ⟨xs, H2, I2, r2, q2⟩ => ⟨x :: xs, H2, I2, .cons r1 r2, q2⟩⟩
  refine paImp h fun σ H Q ⟨φ, ρ, st, so, p⟩ => ?_
  refine tM_of so (Post.bind p) fun d1 st1 φ1 H1 v1 x1 so1 r1 p1 => ?_
  refine tML_of so1 (Post.bind p1) fun d2 st2 φ2 H2 v2 x2 so2 r2 p2 => ?_
  exact Post.now (G := G) (W := W) (σ := σ) so2.s p2 _ (.cons (r1.mono x2) r2)
def dRepl (y z : List Nat) : D → M D
  | .str s => chk (decide (s.length + (s.length + 1) * z.length ≤ 1000000) && (StrLaws.replL y z s).all fun c => decide (c < 0x110000)) (ret (.str (StrLaws.replL y z s)))
  | _ => fail
theorem met_repl {o : Expr} {m : Env' → M D} {y z : List Nat} {j k : Nat} {c0 c1 apos pos : Pos} (ho : ME X G W o m) (hy : 1 ≤ y.length := by decide) (hyz : ((⟨y.toArray⟩ : Str) == (⟨z.toArray⟩ : Str)) = false := by decide)
    (hst : starEach [.Constant (.str ⟨y.toArray⟩) j c0, .Constant (.str ⟨z.toArray⟩) k c1] X.env = [(false, eval (.Constant (.str ⟨y.toArray⟩) j c0) X.env), (false, eval (.Constant (.str ⟨z.toArray⟩) k c1) X.env)] := by rfl)
    (hbase : attributeBase o "replace" X.env (eval o X.env) = eval o X.env := by rfl) (hline : (apos.endLine == pos.line) = true := by rfl) :
    MET X G W (.Call (.Attribute o "replace" apos) [.Constant (.str ⟨y.toArray⟩) j c0, .Constant (.str ⟨z.toArray⟩) k c1] [] pos) (m1 (dRepl y z) m) := by
  refine petImp (CwR.pet_replC ho hyz hst hbase hline) fun σ H Q ⟨φ, ρ, st, so, p⟩ => ?_
  refine tM_of so (Post.bind p) fun d st1 φ1 H1 v x1 so1 r1 p1 => ?_
  cases r1 with
  | @str s hs =>
    obtain ⟨c, p2⟩ := Post.chk p1
    obtain ⟨c1, c2⟩ := Bool.and_eq_true_iff.mp c
    have e : Txt.replace ⟨s.toArray⟩ ⟨y.toArray⟩ ⟨z.toArray⟩ = ⟨(StrLaws.replL y z s).toArray⟩ := by
      have h := StrLaws.replace_list (x := ⟨s.toArray⟩) (y := ⟨y.toArray⟩) (z := ⟨z.toArray⟩) (by rw [str_len]; exact hy)
      have h2 : (Txt.replace ⟨s.toArray⟩ ⟨y.toArray⟩ ⟨z.toArray⟩).cps = (StrLaws.replL y z s).toArray := by
        rw [← h]
      exact congrArg Str.mk h2
    refine ⟨_, rfl, ?_, ?_⟩
    · rw [str_len, str_len]
      exact Nat.le_trans (of_decide_eq_true c1) (by decide)
    · rw [e]
      exact Post.now (G := G) (W := W) (σ := σ) so1.s p2 _ (.str c2)
  | _ => exact p1.elim
end
end DL

namespace DL
open PySem PySem.Spec PyProof.Rows L2
/-! ### a def that calls itself: nothing is promised at depth 0 -/
theorem fail_sp {K : PySem.W.Frag} {G : Gx} {n : Nat} {vs : List V} {H : Hp} {Q : VK} {E : XK} (h : spM K G n (fun _ => fail) vs H Q E) : False := by
  obtain ⟨φ, ds, st, _, _, _, p⟩ := h
  exact p
end DL

namespace DL
open PySem PySem.Spec PyProof.Rows L2
/-! ### a call that is handed no cell: its run tells nothing of the caller's store -/
def iso (m : List D → M D) : List D → M D := fun ds st => match D.noL ds with
  | true => (match m ds [] with
    | .ok d [] => .ok d st
    | .exc c [] => .exc c st
    | _ => .bad)
  | false => .bad
/-- a def of the module, its promise over all tables alike -/
def CalG (P : Program) (w : World) (K : PySem.W.Frag) (mg : Str → Option Value) (base : Heap) (k : Nat) (x : Str) (tb : Tb) (n : Nat) (m : List D → M D) : Prop :=
  ∃ fd ps, (∀ G : Gx, G.tb = tb → FnOk P w K mg base (L2N.CX P w) k (He.ga K x) fd ps (spM K G n m)) ∧ L2.Binds K fd ps [] ∧ PySem.W.keepIn K (.ref (He.ga K x)) = true ∧ mg x = some (.ref (He.ga K x))
section
variable {P : Program} {w : World} {K : PySem.W.Frag} {mg : Str → Option Value} {base : Heap} {k n : Nat} {x : Str} {tb : Tb} {m : List D → M D} {G G' : Gx} {φ : List Addr} {H : Hp}
theorem CalG.at (c : CalG P w K mg base k x tb n m) (hG : G.tb = tb) : Cal P w K mg base k x (spM K G n m) := by
  obtain ⟨fd, ps, F, b, kp, mx⟩ := c
  exact ⟨fd, ps, F G hG, b, kp, mx⟩
mutual
theorem Rp.iso (e : G'.tb = G.tb) (eh : G'.hf = G.hf) (hfx : ∀ a ∈ G'.fx, a ∈ φ ∨ a ∈ G.fx) : ∀ {d : D} {v : V}, D.no d = true → Rp K G φ H d v → Rp K G' [] H d v
  | .cel _, _, h, _ => by simp [D.no] at h
  | .non, _, _, .non => .non
  | .bl _, _, _, .bl => .bl
  | .int _, _, _, .int => .int
  | .str _, _, _, .str h => .str h
  | .tup xs, _, h, .tup a r => .tup a (RpL.iso e eh hfx (by simpa [D.no] using h) r)
  | .lst xs, _, h, .lst (a := b) a n z r => .lst a (by simp) (fun m => (hfx b m).elim n z) (RpL.iso e eh hfx (by simpa [D.no] using h) r)
  | .scr xs, _, h, .scr a r => .scr a (RpL.iso e eh hfx (by simpa [D.no] using h) r)
  | .fn _, _, _, .fn h => .fn (by rw [e]; exact h)
  | .hof, _, _, .hof h => .hof (by rw [eh]; exact h)
theorem RpL.iso (e : G'.tb = G.tb) (eh : G'.hf = G.hf) (hfx : ∀ a ∈ G'.fx, a ∈ φ ∨ a ∈ G.fx) : ∀ {ds : List D} {vs : List V}, D.noL ds = true → RpL K G φ H ds vs → RpL K G' [] H ds vs
  | [], _, _, .nil => .nil
  | d :: ds, _, h, .cons a r => by
    have h1 : (D.no d && D.noL ds) = true := by simpa [D.noL] using h
    obtain ⟨h2, h3⟩ := Bool.and_eq_true_iff.mp h1
    exact .cons (Rp.iso e eh hfx h2 a) (RpL.iso e eh hfx h3 r)
end
mutual
theorem Rp.unis (e : G.tb = G'.tb) (eh : G.hf = G'.hf) (hfx : ∀ a, a ∈ φ ∨ a ∈ G.fx → a ∈ G'.fx) : ∀ {d : D} {v : V}, Rp K G' [] H d v → Rp K G φ H d v
  | _, _, .cel h => by simp at h
  | _, _, .non => .non
  | _, _, .bl => .bl
  | _, _, .int => .int
  | _, _, .str h => .str h
  | _, _, .tup a r => .tup a (RpL.unis e eh hfx r)
  | _, _, .lst (a := b) a n z r => .lst a (fun m => z (hfx b (.inl m))) (fun m => z (hfx b (.inr m))) (RpL.unis e eh hfx r)
  | _, _, .scr a r => .scr a (RpL.unis e eh hfx r)
  | _, _, .fn h => .fn (by rw [e]; exact h)
  | _, _, .hof h => .hof (by rw [eh]; exact h)
theorem RpL.unis (e : G.tb = G'.tb) (eh : G.hf = G'.hf) (hfx : ∀ a, a ∈ φ ∨ a ∈ G.fx → a ∈ G'.fx) : ∀ {ds : List D} {vs : List V}, RpL K G' [] H ds vs → RpL K G φ H ds vs
  | _, _, .nil => .nil
  | _, _, .cons a r => .cons (Rp.unis e eh hfx a) (RpL.unis e eh hfx r)
end
/-- the callee's world: the caller's cells are none of its business -/
abbrev Gx.apart (G : Gx) (φ : List Addr) : Gx := { G with φ0 := [], H0 := fun _ => none, fx := φ ++ G.fx }
theorem cellOk_nt {c : Cell} {o : HO} (h : CellOk K G φ H c o) : ∀ ps, o ≠ .tbl ps := fun ps e => by
  subst e
  cases h
theorem iso_sp {vs : List V} {Q : VK} {E : XK} (h : spM K G n (iso m) vs H Q E) : ∃ φ, spM K (G.apart φ) n m vs H Q E := by
  obtain ⟨φ, ds, st, hl, so, rl, p⟩ := h
  refine ⟨φ, [], ds, [], hl, ⟨rfl, List.nodup_nil, fun n c a h => by simp at h, so.tabs, Ext.start, fun a ha => ?_, fun a _ => by simp⟩, ?_, ?_⟩
  · rcases List.mem_append.mp ha with q | q
    · obtain ⟨i, hi, e⟩ := List.getElem_of_mem q
      have h2 : i < st.length := by rw [← so.len]; exact hi
      obtain ⟨o, e1, _⟩ := so.cell i st[i] a (List.getElem?_eq_getElem h2) (by rw [List.getElem?_eq_getElem hi, e])
      rw [e1]
      simp
    · exact so.fx a q
  · unfold DL.iso at p
    cases c : D.noL ds with
    | false => rw [c] at p; exact p.elim
    | true => exact rl.iso (G := G) (G' := G.apart φ) rfl rfl (fun a ha => List.mem_append.mp ha) c
  · have back : ∀ (H' : Hp), Ext [] H [] H' → LamX.Tabs G.tb.tabs H' → Ext φ H φ H' ∧ StOk K G φ H' st := fun H' x t => by
      obtain ⟨_, k, tt, z, th⟩ := id x
      have x0 : Ext φ H φ H' := ⟨⟨[], by simp, by simp⟩, fun a o h _ q => k a o h (by simp) q, tt, z, th⟩
      refine ⟨x0, so.len, so.nd, fun i c a h1 h2 => ?_, t, so.anc.trans x0, fun a h => x0.there a (so.fx a h), so.fd⟩
      obtain ⟨o, e1, e2⟩ := so.cell i c a h1 h2
      exact ⟨o, k a o e1 (by simp) (cellOk_nt e2), e2.mono x0⟩
    unfold DL.iso at p
    cases c : D.noL ds with
    | false => rw [c] at p; exact p.elim
    | true =>
      rw [c] at p
      cases q : m ds [] with
      | bad => rw [q] at p; exact p.elim
      | ok d st' =>
        rw [q] at p
        cases st' with
        | cons _ _ => exact p.elim
        | nil =>
          intro φ' H' x s v r
          have e : φ' = [] := List.length_eq_zero_iff.mp s.len
          subst e
          obtain ⟨x0, s0⟩ := back H' x s.tabs
          exact p φ H' x0 s0 v (r.unis (G := G) (G' := G.apart φ) rfl rfl (fun a ha => List.mem_append.mpr ha))
      | exc c st' =>
        rw [q] at p
        cases st' with
        | cons _ _ => exact p.elim
        | nil =>
          intro φ' H' x s
          have e : φ' = [] := List.length_eq_zero_iff.mp s.len
          subst e
          obtain ⟨x0, s0⟩ := back H' x s.tabs
          exact p φ H' x0 s0
theorem CalG.iso (c : CalG P w K mg base k x tb n m) (hG : G.tb = tb) : Cal P w K mg base k x (spM K G n (iso m)) := by
  obtain ⟨fd, ps, F, b, kp, mx⟩ := c
  refine ⟨fd, ps, ⟨fun vs H Q E h => ?_, fun A outer s H args us vs Q E hr he hb hv h => ?_⟩, b, kp, mx⟩
  · obtain ⟨φ, h2⟩ := iso_sp h
    exact (F (G.apart φ) hG).len vs H Q E h2
  · obtain ⟨φ, h2⟩ := iso_sp h
    exact (F (G.apart φ) hG).run A outer s H args us vs Q E hr he hb hv h2
end
end DL

namespace DL
/-! ### the plain side: what a run on the empty store tells of any store -/
structure PureM {α : Type} (m : M α) : Prop where
  ok : ∀ a st', m [] = .ok a st' → st' = [] ∧ ∀ st, nhS st = true → m st = .ok a st
  ex : ∀ c st', m [] = .exc c st' → st' = [] ∧ ∀ st, nhS st = true → m st = .exc c st
abbrev PureE {α : Type} (m : Env' → M α) : Prop := ∀ ρ, PureM (m ρ)
abbrev PureF {α β : Type} (f : α → M β) : Prop := ∀ x, PureM (f x)
abbrev PureO (f : D → D → M D) : Prop := ∀ x y, PureM (f x y)
section
variable {α β : Type}
theorem pu_ret (a : α) : PureM (ret a) := ⟨fun b st' h => by cases h; exact ⟨rfl, fun _ _ => rfl⟩, fun c st' h => by cases h⟩
theorem pu_fail : PureM (fail : M α) := ⟨fun b st' h => (by cases h), fun c st' h => (by cases h)⟩
theorem pu_bad {m : M α} (h : m [] = .bad) : PureM m := ⟨fun b st' e => (by rw [h] at e; cases e), fun c st' e => (by rw [h] at e; cases e)⟩
theorem pu_chk {b : Bool} {m : M α} (h : PureM m) : PureM (chk b m) := by
  cases b with
  | true => exact h
  | false => exact pu_fail
theorem pu_bnd {m : M α} {f : α → M β} (h : PureM m) (hf : ∀ a, PureM (f a)) : PureM (bnd m f) := by
  refine ⟨fun b st' e => ?_, fun c st' e => ?_⟩
  · unfold bnd at e
    cases q : m [] with
    | ok a s1 =>
      rw [q] at e
      obtain ⟨rfl, h1⟩ := h.ok a s1 q
      obtain ⟨rfl, h2⟩ := (hf a).ok b st' e
      exact ⟨rfl, fun st hs => by unfold bnd; rw [h1 st hs]; exact h2 st hs⟩
    | exc c s1 => rw [q] at e; cases e
    | bad => rw [q] at e; cases e
  · unfold bnd at e
    cases q : m [] with
    | ok a s1 =>
      rw [q] at e
      obtain ⟨rfl, h1⟩ := h.ok a s1 q
      obtain ⟨rfl, h2⟩ := (hf a).ex c st' e
      exact ⟨rfl, fun st hs => by unfold bnd; rw [h1 st hs]; exact h2 st hs⟩
    | exc c' s1 =>
      rw [q] at e
      cases e
      obtain ⟨rfl, h1⟩ := h.ex _ _ q
      exact ⟨rfl, fun st hs => by unfold bnd; rw [h1 st hs]⟩
    | bad => rw [q] at e; cases e
theorem pu_noEx {m : M α} (h : PureM m) : PureM (noEx m) := by
  refine ⟨fun b st' e => ?_, fun c st' e => ?_⟩
  · unfold noEx at e
    cases q : m [] with
    | ok a s1 =>
      rw [q] at e
      cases e
      obtain ⟨rfl, h1⟩ := h.ok _ _ q
      exact ⟨rfl, fun st hs => by unfold noEx; rw [h1 st hs]⟩
    | exc c s1 => rw [q] at e; cases e
    | bad => rw [q] at e; cases e
  · unfold noEx at e
    cases q : m [] with
    | ok a s1 => rw [q] at e; cases e
    | exc c s1 => rw [q] at e; cases e
    | bad => rw [q] at e; cases e
theorem pu_vr (i : Nat) : PureE (vr i) := fun ρ => by
  unfold vr
  split
  · exact pu_ret _
  · exact pu_fail
theorem pu_cst (d : D) : PureE (cst d) := fun ρ => pu_ret d
theorem pu_asB : PureF asB := fun d => by
  cases d <;> first | exact pu_ret _ | exact pu_fail
theorem pu_m2 {op : D → D → M D} {a b : Env' → M D} (ho : PureO op) (ha : PureE a) (hb : PureE b) : PureE (m2 op a b) := fun ρ => pu_bnd (ha ρ) fun x => pu_bnd (hb ρ) fun y => ho x y
theorem pu_m1 {f : D → M D} {a : Env' → M D} (ho : PureF f) (ha : PureE a) : PureE (m1 f a) := fun ρ => pu_bnd (ha ρ) ho
theorem pu_mB {a : Env' → M D} (ha : PureE a) : PureE (mB a) := fun ρ => pu_bnd (ha ρ) pu_asB
theorem pu_mAnd {a b : Env' → M Bool} (ha : PureE a) (hb : PureE b) : PureE (mAnd a b) := fun ρ => pu_bnd (ha ρ) fun c => by
  cases c
  · exact pu_ret _
  · exact hb ρ
theorem pu_mOr {a b : Env' → M Bool} (ha : PureE a) (hb : PureE b) : PureE (mOr a b) := fun ρ => pu_bnd (ha ρ) fun c => by
  cases c
  · exact hb ρ
  · exact pu_ret _
theorem pu_mNot {a : Env' → M Bool} (ha : PureE a) : PureE (mNot a) := fun ρ => pu_bnd (ha ρ) fun c => pu_ret _
theorem pu_mIf {c : Env' → M Bool} {a b : Env' → M α} (hc : PureE c) (ha : PureE a) (hb : PureE b) : PureE (mIf c a b) := fun ρ => pu_bnd (hc ρ) fun k => by
  cases k
  · exact hb ρ
  · exact ha ρ
theorem pu_vAnd {a b : Env' → M D} (ha : PureE a) (hb : PureE b) : PureE (vAnd a b) := fun ρ => pu_bnd (ha ρ) fun x => pu_bnd (pu_asB x) fun c => by
  cases c
  · exact pu_ret _
  · exact hb ρ
theorem pu_vOr {a b : Env' → M D} (ha : PureE a) (hb : PureE b) : PureE (vOr a b) := fun ρ => pu_bnd (ha ρ) fun x => pu_bnd (pu_asB x) fun c => by
  cases c
  · exact hb ρ
  · exact pu_ret _
theorem pu_vNot {a : Env' → M D} (ha : PureE a) : PureE (vNot a) := fun ρ => pu_bnd (ha ρ) fun x => pu_bnd (pu_asB x) fun c => pu_ret _
theorem pu_mNil : PureE mNil := fun ρ => pu_ret _
theorem pu_mCons {m : Env' → M D} {ms : Env' → M (List D)} (ha : PureE m) (hb : PureE ms) : PureE (mCons m ms) := fun ρ => pu_bnd (ha ρ) fun x => pu_bnd (hb ρ) fun y => pu_ret _
theorem pu_mTup {ms : Env' → M (List D)} (hb : PureE ms) : PureE (mTup ms) := fun ρ => pu_bnd (hb ρ) fun x => pu_chk (pu_ret _)
theorem pu_mLst {ms : Env' → M (List D)} (hb : PureE ms) : PureE (mLst ms) := fun ρ => pu_bnd (hb ρ) fun x => pu_chk (pu_ret _)
theorem pu_mCall {n : Nat} {m : List D → M D} {ms : Env' → M (List D)} (hm : PureF m) (hb : PureE ms) : PureE (mCall n m ms) := fun ρ => pu_bnd (hb ρ) fun x => pu_chk (hm x)
theorem pu_mCall0 {m : List D → M D} (hm : PureF m) : PureE (mCall0 m) := fun ρ => pu_noEx (hm _)
theorem pu_mFn {f : List D → M D} {ms : Env' → M (List D)} (hm : PureF f) (hb : PureE ms) : PureE (mFn f ms) := fun ρ => pu_bnd (hb ρ) hm
theorem pu_f1 {g : D → M D} (h : PureF g) : PureF (f1 g) := fun x => by
  unfold f1
  split
  · exact h _
  · exact pu_fail
theorem pu_f2 {g : D → D → M D} (h : PureO g) : PureF (f2 g) := fun x => by
  unfold f2
  split
  · exact h _ _
  · exact pu_fail
theorem pu_mMeth {kd : D → M Unit} {f : D → List D → M D} {mo : Env' → M D} {ms : Env' → M (List D)} (hk : PureF kd) (hf : ∀ x, PureF (f x)) (ho : PureE mo) (hs : PureE ms) : PureE (mMeth kd f mo ms) := fun ρ => pu_bnd (ho ρ) fun x => pu_bnd (hk x) fun _ => pu_bnd (hs ρ) fun y => hf x y
theorem pu_mCut {m : Env' → M D} {lo hi : MO} (hm : PureE m) (hl : PureE lo) (hh : PureE hi) (hc : ∀ x l h, PureM (dCut x l h)) : PureE (mCut m lo hi) := fun ρ => pu_bnd (hm ρ) fun x => pu_bnd (hl ρ) fun l => pu_bnd (hh ρ) fun h => hc x l h
theorem pu_oNo : PureE oNo := fun ρ => pu_ret _
theorem pu_oAt {m : Env' → M D} (h : PureE m) : PureE (oAt m) := fun ρ => pu_bnd (h ρ) fun d => by
  split
  · exact pu_ret _
  · exact pu_fail
theorem pu_mChain {o1 o2 : D → D → M D} {a b c : Env' → M D} (h1 : PureO o1) (h2 : PureO o2) (ha : PureE a) (hb : PureE b) (hc : PureE c) : PureE (mChain o1 o2 a b c) := fun ρ => pu_bnd (ha ρ) fun x => pu_bnd (hb ρ) fun y => pu_bnd (pu_bnd (h1 x y) pu_asB) fun k => by
  cases k
  · exact pu_ret _
  · exact pu_bnd (hc ρ) fun z => h2 y z
/-! operators -/
theorem pu_lLst : PureF lLst := fun d => by
  cases d <;> first | exact pu_ret _ | exact pu_fail | exact pu_bad rfl
theorem pu_deref : PureF deref := fun d => by
  cases d <;> first | exact pu_ret _ | exact pu_bad rfl
theorem pu_dEq : PureO dEq := fun x y => pu_bnd (pu_deref x) fun a => pu_bnd (pu_deref y) fun b => pu_chk (pu_ret _)
theorem pu_dNe : PureO dNe := fun x y => pu_bnd (pu_deref x) fun a => pu_bnd (pu_deref y) fun b => pu_chk (pu_ret _)
theorem pu_i2 {f : Int → Int → M D} (h : ∀ i j, PureM (f i j)) : PureO (i2 f) := fun x y => by
  cases x <;> first
    | exact pu_fail
    | (cases y <;> first
        | exact h _ _
        | exact pu_fail)
theorem pu_dCat : PureO dCat := fun x y => pu_bnd (pu_lLst x) fun a => pu_bnd (pu_lLst y) fun b => pu_chk (pu_ret _)
theorem pu_dAdd : PureO dAdd := fun x y => by
  cases x <;> first
    | exact pu_dCat _ _
    | (cases y <;> first
        | exact pu_ret _
        | exact pu_fail
        | exact pu_chk (pu_ret _))
theorem pu_dSub : PureO dSub := pu_i2 fun _ _ => pu_ret _
theorem pu_dMulI : PureO dMulI := pu_i2 fun _ _ => pu_chk (pu_ret _)
theorem pu_dMul : PureO dMul := fun x y => by
  cases x <;> first
    | exact pu_dMulI _ _
    | exact pu_fail
    | (cases y <;> first
        | exact pu_chk (pu_ret _)
        | exact pu_fail)
theorem pu_dMulX : PureO dMulX := fun x y => by
  unfold dMulX
  split
  · exact pu_chk (pu_ret _)
  · exact pu_dMul _ _
theorem pu_dMod : PureO dMod := pu_i2 fun _ _ => pu_chk (pu_ret _)
theorem pu_dFdiv : PureO dFdiv := pu_i2 fun _ _ => pu_chk (pu_ret _)
theorem pu_dPow : PureO dPow := pu_i2 fun _ _ => pu_chk (pu_ret _)
theorem pu_dShl : PureO dShl := pu_i2 fun _ _ => pu_chk (pu_ret _)
theorem pu_dShr : PureO dShr := pu_i2 fun _ _ => pu_chk (pu_ret _)
theorem pu_dLt : PureO dLt := pu_i2 fun _ _ => pu_ret _
theorem pu_dLe : PureO dLe := pu_i2 fun _ _ => pu_ret _
theorem pu_dGt : PureO dGt := pu_i2 fun _ _ => pu_ret _
theorem pu_dGe : PureO dGe := pu_i2 fun _ _ => pu_ret _
theorem pu_dMax : PureO dMax := fun x y => pu_i2 (fun _ _ => pu_ret _) x y
theorem pu_dMin : PureO dMin := fun x y => pu_i2 (fun _ _ => pu_ret _) x y
theorem pu_dInG (b : Bool) : PureO (dInG b) := fun x y => by
  unfold dInG
  split
  · exact pu_chk (pu_ret _)
  · split
    · split
      · exact pu_ret _
      · exact pu_fail
    · exact pu_fail
  · exact pu_bnd (pu_lLst _) fun a => pu_chk (pu_ret _)
theorem pu_atD (xs : List D) (i : Int) : PureM (atD xs i) := by
  unfold atD
  split
  · split
    · exact pu_ret _
    · exact pu_fail
  · exact pu_fail
theorem pu_dIx : PureO dIx := fun x y => by
  unfold dIx
  split
  · split
    · exact pu_atD _ _
    · exact pu_atD _ _
    · refine pu_chk ?_
      split
      · split
        · exact pu_ret _
        · exact pu_fail
      · exact pu_fail
    · exact pu_bnd (pu_lLst _) fun a => pu_atD _ _
  · exact pu_fail
theorem pu_dCut (x : D) (l h : Option Int) : PureM (dCut x l h) := by
  unfold dCut
  split
  · exact pu_ret _
  · exact pu_chk (pu_ret _)
  · exact pu_bnd (pu_lLst _) fun a => pu_ret _
theorem pu_dNeg : PureF dNeg := fun d => by cases d <;> first | exact pu_ret _ | exact pu_fail
theorem pu_dAbs : PureF dAbs := fun d => by cases d <;> first | exact pu_ret _ | exact pu_fail
theorem pu_dInt1 : PureF dInt1 := fun d => by
  unfold dInt1
  split <;> first
    | exact pu_ret _
    | exact pu_fail
    | exact pu_chk (pu_ret _)
theorem pu_dStr1 : PureF dStr1 := fun d => by
  unfold dStr1
  split <;> first
    | exact pu_ret _
    | exact pu_fail
    | exact pu_chk (pu_ret _)
theorem pu_dLen : PureF dLen := fun d => by
  unfold dLen
  split <;> first
    | exact pu_ret _
    | exact pu_chk (pu_ret _)
    | exact pu_bnd (pu_lLst _) fun a => pu_ret _
theorem pu_dTuple : PureF dTuple := fun d => by
  unfold dTuple
  split <;> first
    | exact pu_ret _
    | exact pu_bnd (pu_lLst _) fun a => pu_ret _
theorem pu_dList : PureF dList := fun d => by
  unfold dList
  split <;> first
    | exact pu_ret _
    | exact pu_bnd (pu_lLst _) fun a => pu_ret _
theorem pu_kLst : PureF kLst := fun d => pu_bnd (pu_lLst d) fun _ => pu_ret _
theorem pu_kStr : PureF kStr := fun d => by cases d <;> first | exact pu_ret _ | exact pu_fail
theorem pu_dJoin (o : D) : PureF (dJoin o) := fun xs => by
  unfold dJoin
  split
  · split
    · split
      · split
        · exact pu_chk (pu_ret _)
        · exact pu_fail
      · refine pu_bnd (pu_lLst _) fun a => ?_
        split
        · exact pu_chk (pu_ret _)
        · exact pu_fail
    · exact pu_fail
  · exact pu_fail
theorem pu_dIndex (o : D) : PureF (dIndex o) := fun xs => by
  unfold dIndex
  split
  · refine pu_bnd (pu_lLst _) fun a => pu_chk ?_
    split
    · exact pu_ret _
    · exact pu_fail
  · exact pu_fail
theorem pu_dIsN : PureF dIsN := fun d => by cases d <;> exact pu_ret _
theorem pu_dNotN : PureF dNotN := fun d => by cases d <;> exact pu_ret _
theorem pu_dIsStr : PureF dIsStr := fun d => by cases d <;> first | exact pu_ret _ | exact pu_fail
theorem pu_dIsInt : PureF dIsInt := fun d => by cases d <;> first | exact pu_ret _ | exact pu_fail
theorem pu_dIsBool : PureF dIsBool := fun d => by cases d <;> first | exact pu_ret _ | exact pu_fail
theorem pu_dIsTup : PureF dIsTup := fun d => by cases d <;> first | exact pu_ret _ | exact pu_fail
theorem pu_dRev : PureF dRev := fun d => by
  cases d <;> first
    | exact pu_chk (pu_ret _)
    | exact pu_fail
    | exact pu_bad rfl
theorem pu_dSum : PureF dSum := fun d => pu_bnd (pu_lLst _) fun a => by
  split
  · exact pu_ret _
  · exact pu_fail
theorem pu_dAll : PureF dAll := fun d => pu_bnd (pu_lLst _) fun a => by
  split
  · exact pu_ret _
  · exact pu_fail
theorem pu_dAny : PureF dAny := fun d => pu_bnd (pu_lLst _) fun a => by
  split
  · exact pu_ret _
  · exact pu_fail
/-! what is walked -/
structure PureI (m : M Itm) : Prop where
  p : PureM m
  ck : ∀ it st', m [] = .ok it st' → it.ck = always
abbrev PureJ (m : Env' → M Itm) : Prop := ∀ ρ, PureI (m ρ)
theorem pui_ret (xs : List D) : PureI (ret ⟨xs, always⟩) := ⟨pu_ret _, fun it st' h => by cases h; rfl⟩
theorem pui_fail : PureI fail := ⟨pu_fail, fun it st' h => by cases h⟩
theorem pui_bad {m : M Itm} (h : m [] = .bad) : PureI m := ⟨pu_bad h, fun it st' e => by rw [h] at e; cases e⟩
theorem pui_chk {b : Bool} {m : M Itm} (h : PureI m) : PureI (chk b m) := by
  cases b with
  | true => exact h
  | false => exact pui_fail
theorem pui_bnd {m : M α} {f : α → M Itm} (h : PureM m) (hf : ∀ a, PureI (f a)) : PureI (bnd m f) := by
  refine ⟨pu_bnd h fun a => (hf a).p, fun it st' e => ?_⟩
  unfold bnd at e
  cases q : m [] with
  | ok a s1 =>
    rw [q] at e
    obtain ⟨rfl, h1⟩ := h.ok a s1 q
    exact (hf a).ck it st' e
  | exc c s1 => rw [q] at e; cases e
  | bad => rw [q] at e; cases e
theorem pui_itA (d : D) : PureI (itA d) := by
  cases d <;> first
    | exact pui_ret _
    | exact pui_fail
    | exact pui_bad rfl
theorem pui_lsA (d : D) : PureI (lsA d) := by
  cases d <;> first
    | exact pui_ret _
    | exact pui_fail
    | exact pui_bad rfl
theorem pui_mIt {m : Env' → M D} (h : PureE m) : PureJ (mIt m) := fun ρ => pui_bnd (h ρ) pui_itA
theorem pui_mItL {f : List D → M Itm} {ms : Env' → M (List D)} (hf : ∀ xs, PureI (f xs)) (h : PureE ms) : PureJ (mItL f ms) := fun ρ => pui_bnd (h ρ) hf
theorem pui_itR1 (xs : List D) : PureI (itR1 xs) := by
  unfold itR1
  split
  · exact pui_chk (pui_ret _)
  · exact pui_fail
theorem pui_itR2 (xs : List D) : PureI (itR2 xs) := by
  unfold itR2
  split
  · exact pui_chk (pui_ret _)
  · exact pui_fail
theorem pui_itR3 (xs : List D) : PureI (itR3 xs) := by
  unfold itR3
  split
  · exact pui_chk (pui_ret _)
  · exact pui_fail
theorem pui_itEnum (xs : List D) : PureI (itEnum xs) := by
  unfold itEnum
  split
  · rename_i x
    refine ⟨pu_bnd (pui_lsA x).p fun a => pu_ret _, fun it st' e => ?_⟩
    unfold bnd at e
    cases q : lsA x [] with
    | ok a s2 =>
      rw [q] at e
      cases e
      exact (pui_lsA x).ck a _ q
    | exc c s1 => rw [q] at e; cases e
    | bad => rw [q] at e; cases e
  · exact pui_fail
theorem pui_itZip (xs : List D) : PureI (itZip xs) := by
  unfold itZip
  split
  · split
    · split
      · exact pui_ret _
      · exact pui_fail
    · rename_i y x _
      refine ⟨pu_bnd (pui_lsA _).p fun a => pu_bnd (pui_lsA _).p fun b => pu_ret _, fun it st' e => ?_⟩
      unfold bnd at e
      split at e
      · rename_i a s1 q
        obtain ⟨rfl, _⟩ := (pui_lsA _).p.ok a s1 q
        dsimp only at e
        split at e
        · rename_i b s2 q2
          cases e
          have h1 := (pui_lsA _).ck a _ q
          have h2 := (pui_lsA _).ck b _ q2
          show (fun st => a.ck st && b.ck st) = always
          rw [h1, h2]
          rfl
        · cases e
        · cases e
      · cases e
      · cases e
  · exact pui_fail
/-! targets, comprehensions -/
theorem pu_gNm (i : Nat) (d : D) (ρ : Env') : PureM (gNm i d ρ) := pu_ret _
theorem pu_gL : ∀ (is : List Nat) (ds : List D) (ρ : Env'), PureM (gL (is.map gNm) ds ρ)
  | [], [], ρ => pu_ret _
  | [], _ :: _, _ => pu_fail
  | _ :: _, [], _ => pu_fail
  | i :: is, d :: ds, ρ => pu_bnd (pu_ret _) fun ρ' => pu_gL is ds ρ'
theorem pu_ct (c : CT) (d : D) (ρ : Env') : PureM (c.gm d ρ) := by
  cases c with
  | nm i => exact pu_ret _
  | tp is =>
    cases d with
    | tup xs => exact pu_gL is xs ρ
    | _ => exact pu_fail
theorem pu_cmpL {c : CT} {tt : Env' → M Bool} {e : Env' → M D} (ht : PureE tt) (he : PureE e) (ρ : Env') : ∀ xs, PureM (cmpL always c.gm tt e ρ xs)
  | [] => pu_ret _
  | x :: xs => by
    have h : cmpL always c.gm tt e ρ (x :: xs) = bnd (c.gm x ρ) (fun ρ1 => bnd (tt ρ1) fun b => match b with
      | true => bnd (e ρ1) fun y => bnd (cmpL always c.gm tt e ρ xs) fun ys => ret (y :: ys)
      | false => cmpL always c.gm tt e ρ xs) := rfl
    rw [h]
    refine pu_bnd (pu_ct c x ρ) fun ρ1 => pu_bnd (ht ρ1) fun b => ?_
    cases b with
    | true => exact pu_bnd (he ρ1) fun y => pu_bnd (pu_cmpL ht he ρ xs) fun ys => pu_ret _
    | false => exact pu_cmpL ht he ρ xs
theorem pu_yes : PureE yes := fun ρ => pu_ret _
theorem pu_bndI {m : M Itm} {f : Itm → M β} (h : PureI m) (hf : ∀ it, it.ck = always → PureM (f it)) : PureM (bnd m f) := by
  refine ⟨fun b st' e => ?_, fun c st' e => ?_⟩
  · unfold bnd at e
    cases q : m [] with
    | ok a s1 =>
      rw [q] at e
      obtain ⟨rfl, h1⟩ := h.p.ok a s1 q
      obtain ⟨rfl, h2⟩ := (hf a (h.ck a _ q)).ok b st' e
      exact ⟨rfl, fun st hs => by unfold bnd; rw [h1 st hs]; exact h2 st hs⟩
    | exc c s1 => rw [q] at e; cases e
    | bad => rw [q] at e; cases e
  · unfold bnd at e
    cases q : m [] with
    | ok a s1 =>
      rw [q] at e
      obtain ⟨rfl, h1⟩ := h.p.ok a s1 q
      obtain ⟨rfl, h2⟩ := (hf a (h.ck a _ q)).ex c st' e
      exact ⟨rfl, fun st hs => by unfold bnd; rw [h1 st hs]; exact h2 st hs⟩
    | exc c' s1 =>
      rw [q] at e
      cases e
      obtain ⟨rfl, h1⟩ := h.p.ex _ _ q
      exact ⟨rfl, fun st hs => by unfold bnd; rw [h1 st hs]⟩
    | bad => rw [q] at e; cases e
theorem pu_mComp {own : List Nat} {c : CT} {mi : Env' → M Itm} {tt : Env' → M Bool} {e : Env' → M D} (hi : PureJ mi) (ht : PureE tt) (he : PureE e) : PureE (mComp own c mi tt e) := fun ρ => pu_bndI (hi ρ) fun it hck => by
  refine pu_chk (pu_bnd (pu_noEx ?_) fun ys => pu_ret _)
  rw [hck]
  exact pu_cmpL ht he _ _
/-! statements -/
inductive PureR (b : Store → RS) : Prop
  | nx {ρ : Env'} (h0 : b [] = .nx ρ []) (h : ∀ st, nhS st = true → b st = .nx ρ st)
  | rt {d : D} (h0 : b [] = .rt d []) (h : ∀ st, nhS st = true → b st = .rt d st)
  | bk {ρ : Env'} (h0 : b [] = .bk ρ []) (h : ∀ st, nhS st = true → b st = .bk ρ st)
  | ct {ρ : Env'} (h0 : b [] = .ct ρ []) (h : ∀ st, nhS st = true → b st = .ct ρ st)
  | exc {c : Nat} {ρ : Env'} (h0 : b [] = .exc c ρ []) (h : ∀ st, nhS st = true → b st = .exc c ρ st)
  | bad (h0 : b [] = .bad)
abbrev PureS (b : MS) : Prop := ∀ ρ, PureR (b ρ)
theorem pr_sB {ρ : Env'} {m : M α} {f : α → Store → RS} (h : PureM m) (hf : ∀ a, PureR (f a)) : PureR (sB ρ m f) := by
  cases q : m [] with
  | ok a s1 =>
    obtain ⟨rfl, h1⟩ := h.ok a s1 q
    cases hf a with
    | nx h0 h2 => exact .nx (by unfold sB; rw [q]; exact h0) fun st hs => by unfold sB; rw [h1 st hs]; exact h2 st hs
    | rt h0 h2 => exact .rt (by unfold sB; rw [q]; exact h0) fun st hs => by unfold sB; rw [h1 st hs]; exact h2 st hs
    | bk h0 h2 => exact .bk (by unfold sB; rw [q]; exact h0) fun st hs => by unfold sB; rw [h1 st hs]; exact h2 st hs
    | ct h0 h2 => exact .ct (by unfold sB; rw [q]; exact h0) fun st hs => by unfold sB; rw [h1 st hs]; exact h2 st hs
    | exc h0 h2 => exact .exc (by unfold sB; rw [q]; exact h0) fun st hs => by unfold sB; rw [h1 st hs]; exact h2 st hs
    | bad h0 => exact .bad (by unfold sB; rw [q]; exact h0)
  | exc c s1 =>
    obtain ⟨rfl, h1⟩ := h.ex c s1 q
    exact .exc (by unfold sB; rw [q]) fun st hs => by unfold sB; rw [h1 st hs]
  | bad => exact .bad (by unfold sB; rw [q])
theorem pr_nx (ρ : Env') : PureR (fun st => .nx ρ st) := .nx rfl fun _ _ => rfl
theorem ps_nx : PureS sNx := fun ρ => .nx rfl fun _ _ => rfl
theorem ps_brk : PureS sBrk := fun ρ => .bk rfl fun _ _ => rfl
theorem ps_cnt : PureS sCnt := fun ρ => .ct rfl fun _ _ => rfl
theorem ps_seq {a b : MS} (ha : PureS a) (hb : PureS b) : PureS (sSeq a b) := fun ρ => by
  cases ha ρ with
  | @nx ρ' h0 h =>
    cases hb ρ' with
    | nx g0 g => exact .nx (by unfold sSeq; rw [h0]; exact g0) fun st hs => by unfold sSeq; rw [h st hs]; exact g st hs
    | rt g0 g => exact .rt (by unfold sSeq; rw [h0]; exact g0) fun st hs => by unfold sSeq; rw [h st hs]; exact g st hs
    | bk g0 g => exact .bk (by unfold sSeq; rw [h0]; exact g0) fun st hs => by unfold sSeq; rw [h st hs]; exact g st hs
    | ct g0 g => exact .ct (by unfold sSeq; rw [h0]; exact g0) fun st hs => by unfold sSeq; rw [h st hs]; exact g st hs
    | exc g0 g => exact .exc (by unfold sSeq; rw [h0]; exact g0) fun st hs => by unfold sSeq; rw [h st hs]; exact g st hs
    | bad g0 => exact .bad (by unfold sSeq; rw [h0]; exact g0)
  | rt h0 h => exact .rt (by unfold sSeq; rw [h0]) fun st hs => by unfold sSeq; rw [h st hs]
  | bk h0 h => exact .bk (by unfold sSeq; rw [h0]) fun st hs => by unfold sSeq; rw [h st hs]
  | ct h0 h => exact .ct (by unfold sSeq; rw [h0]) fun st hs => by unfold sSeq; rw [h st hs]
  | exc h0 h => exact .exc (by unfold sSeq; rw [h0]) fun st hs => by unfold sSeq; rw [h st hs]
  | bad h0 => exact .bad (by unfold sSeq; rw [h0])
theorem ps_expr {m : Env' → M D} (h : PureE m) : PureS (sExpr m) := fun ρ => pr_sB (h ρ) fun a => pr_nx ρ
theorem ps_ret {m : Env' → M D} (h : PureE m) : PureS (sRet m) := fun ρ => pr_sB (h ρ) fun a => .rt rfl fun _ _ => rfl
theorem ps_retN : PureS sRetN := fun ρ => .rt rfl fun _ _ => rfl
theorem ps_if {c : Env' → M Bool} {a b : MS} (hc : PureE c) (ha : PureS a) (hb : PureS b) : PureS (sIf c a b) := fun ρ => pr_sB (hc ρ) fun k => by
  cases k
  · exact hb ρ
  · exact ha ρ
abbrev PureG (g : GM) : Prop := ∀ d ρ, PureM (g d ρ)
theorem pr_sG {g : GM} (h : PureG g) (d : D) (ρ : Env') : PureR (sG g d ρ) := by
  cases q : g d ρ [] with
  | ok a s1 =>
    obtain ⟨rfl, h1⟩ := (h d ρ).ok a s1 q
    exact .nx (by unfold sG; rw [q]) fun st hs => by unfold sG; rw [h1 st hs]
  | exc c s1 => exact .bad (by unfold sG; rw [q])
  | bad => exact .bad (by unfold sG; rw [q])
theorem ps_asg {m : Env' → M D} {g : GM} (h : PureE m) (hg : PureG g) : PureS (sAsg m g) := fun ρ => pr_sB (h ρ) fun d => pr_sG hg d ρ
theorem ps_par {i j : Nat} {ms : Env' → M (List D)} (h : PureE ms) : PureS (sPar i j ms) := fun ρ => pr_sB (h ρ) fun ds => by
  cases ds with
  | nil => exact .bad rfl
  | cons a r => cases r with
    | nil => exact .bad rfl
    | cons b r => cases r with
      | nil => exact .nx rfl fun _ _ => rfl
      | cons _ _ => exact .bad rfl
theorem pug_gNm (i : Nat) : PureG (gNm i) := fun d ρ => pu_ret _
theorem pug_nil : ∀ (ds : List D) (ρ : Env'), PureM (gL [] ds ρ)
  | [], ρ => pu_ret _
  | _ :: _, _ => pu_fail
theorem pug_cons {g : GM} {gs : List GM} (h : PureG g) (hs : ∀ ds ρ, PureM (gL gs ds ρ)) : ∀ (ds : List D) (ρ : Env'), PureM (gL (g :: gs) ds ρ)
  | [], _ => pu_fail
  | d :: ds, ρ => pu_bnd (h d ρ) fun ρ' => hs ds ρ'
theorem pug_tp {gs : List GM} (hs : ∀ ds ρ, PureM (gL gs ds ρ)) : PureG (gTp gs) := fun d ρ => by
  cases d with
  | tup xs => exact hs xs ρ
  | _ => exact pu_fail
theorem PureR.congr {b b' : Store → RS} (e : ∀ st, nhS st = true → b st = b' st) (h : PureR b') : PureR b := by
  cases h with
  | nx h0 h => exact .nx ((e _ rfl).trans h0) fun st hs => (e st hs).trans (h st hs)
  | rt h0 h => exact .rt ((e _ rfl).trans h0) fun st hs => (e st hs).trans (h st hs)
  | bk h0 h => exact .bk ((e _ rfl).trans h0) fun st hs => (e st hs).trans (h st hs)
  | ct h0 h => exact .ct ((e _ rfl).trans h0) fun st hs => (e st hs).trans (h st hs)
  | exc h0 h => exact .exc ((e _ rfl).trans h0) fun st hs => (e st hs).trans (h st hs)
  | bad h0 => exact .bad ((e _ rfl).trans h0)
theorem pr_lp {r : Store → RS} {f : MS} (h : PureR r) (hf : PureS f) : PureR (fun st => match r st with
    | .nx ρ st => f ρ st
    | .ct ρ st => f ρ st
    | .bk ρ st => .nx ρ st
    | r => r) := by
  cases h with
  | @nx ρ h0 h =>
    cases hf ρ with
    | nx g0 g => exact .nx (by simp only [h0]; exact g0) fun st hs => by simp only [h st hs]; exact g st hs
    | rt g0 g => exact .rt (by simp only [h0]; exact g0) fun st hs => by simp only [h st hs]; exact g st hs
    | bk g0 g => exact .bk (by simp only [h0]; exact g0) fun st hs => by simp only [h st hs]; exact g st hs
    | ct g0 g => exact .ct (by simp only [h0]; exact g0) fun st hs => by simp only [h st hs]; exact g st hs
    | exc g0 g => exact .exc (by simp only [h0]; exact g0) fun st hs => by simp only [h st hs]; exact g st hs
    | bad g0 => exact .bad (by simp only [h0]; exact g0)
  | @ct ρ h0 h =>
    cases hf ρ with
    | nx g0 g => exact .nx (by simp only [h0]; exact g0) fun st hs => by simp only [h st hs]; exact g st hs
    | rt g0 g => exact .rt (by simp only [h0]; exact g0) fun st hs => by simp only [h st hs]; exact g st hs
    | bk g0 g => exact .bk (by simp only [h0]; exact g0) fun st hs => by simp only [h st hs]; exact g st hs
    | ct g0 g => exact .ct (by simp only [h0]; exact g0) fun st hs => by simp only [h st hs]; exact g st hs
    | exc g0 g => exact .exc (by simp only [h0]; exact g0) fun st hs => by simp only [h st hs]; exact g st hs
    | bad g0 => exact .bad (by simp only [h0]; exact g0)
  | @rt d h0 h => exact .rt (d := d) (by simp only [h0]) fun st hs => by simp only [h st hs]
  | @bk ρ h0 h => exact .nx (ρ := ρ) (by simp only [h0]) fun st hs => by simp only [h st hs]
  | @exc c ρ h0 h => exact .exc (c := c) (ρ := ρ) (by simp only [h0]) fun st hs => by simp only [h st hs]
  | bad h0 => exact .bad (by simp only [h0])
theorem pr_for {g : GM} {b : MS} (hg : PureG g) (hb : PureS b) : ∀ xs : List D, PureS (forL always g b xs)
  | [] => fun ρ => .nx rfl fun _ _ => rfl
  | x :: xs => fun ρ => by
    cases q : g x ρ [] with
    | exc c s1 => exact .bad (by simp only [forL, always, q])
    | bad => exact .bad (by simp only [forL, always, q])
    | ok ρ1 s1 =>
      obtain ⟨rfl, h1⟩ := (hg x ρ).ok ρ1 s1 q
      refine PureR.congr (fun st hs => ?_) (pr_lp (hb ρ1) (pr_for hg hb xs))
      have e : forL always g b (x :: xs) ρ st = lpK (b ρ1 st) (forL always g b xs) := by
        simp only [forL, always, h1 st hs]
      rw [e]
      unfold lpK
      cases b ρ1 st <;> rfl
theorem ps_for {mi : Env' → M Itm} {g : GM} {b : MS} (hi : PureJ mi) (hg : PureG g) (hb : PureS b) : PureS (sFor mi g b) := fun ρ => by
  cases q : mi ρ [] with
  | ok it s1 =>
    obtain ⟨rfl, h1⟩ := (hi ρ).p.ok it s1 q
    have hck := (hi ρ).ck it _ q
    refine PureR.congr (fun st hs => ?_) (pr_for hg hb it.xs ρ)
    unfold sFor sB
    rw [h1 st hs, ← hck]
  | exc c s1 =>
    obtain ⟨rfl, h1⟩ := (hi ρ).p.ex c s1 q
    exact .exc (by unfold sFor sB; rw [q]) fun st hs => by unfold sFor sB; rw [h1 st hs]
  | bad => exact .bad (by unfold sFor sB; rw [q])
theorem ps_raise (c : Nat) : PureS (sRaise c) := fun ρ => .exc rfl fun _ _ => rfl
theorem pf_runB {fr : Bool} {N n : Nat} {b : MS} (h : PureS b) : PureF (runB fr N n b) := fun ds => by
  cases c : decide (ds.length = n) with
  | false => exact pu_bad (by unfold runB; rw [c])
  | true =>
    have eo : ∀ (d : D) (st : Store), endOk st d st = .ok d st := fun d st => by unfold endOk; rw [decide_eq_true rfl]
    have ee : ∀ (k : Nat) (st : Store), endEx st k st = .exc k st := fun k st => by unfold endEx; rw [decide_eq_true rfl]
    cases h (ds.map some ++ List.replicate (N - n) none) with
    | nx h0 h1 =>
      have e : ∀ st, nhS st = true → runB fr N n b ds st = .ok .non st := fun st hs => by
        unfold runB
        rw [c]
        simp only [h1 st hs]
        cases fr
        · rfl
        · exact eo _ _
      exact ⟨fun a st' q => (by rw [e _ rfl] at q; cases q; exact ⟨rfl, e⟩), fun k st' q => (by rw [e _ rfl] at q; cases q)⟩
    | @rt d h0 h1 =>
      have e : ∀ st, nhS st = true → runB fr N n b ds st = .ok d st := fun st hs => by
        unfold runB
        rw [c]
        simp only [h1 st hs]
        cases fr
        · rfl
        · exact eo _ _
      exact ⟨fun a st' q => (by rw [e _ rfl] at q; cases q; exact ⟨rfl, e⟩), fun k st' q => (by rw [e _ rfl] at q; cases q)⟩
    | @exc k ρ h0 h1 =>
      have e : ∀ st, nhS st = true → runB fr N n b ds st = .exc k st := fun st hs => by
        unfold runB
        rw [c]
        simp only [h1 st hs]
        cases fr
        · rfl
        · exact ee _ _
      exact ⟨fun a st' q => (by rw [e _ rfl] at q; cases q), fun k st' q => (by rw [e _ rfl] at q; cases q; exact ⟨rfl, e⟩)⟩
    | bk h0 h1 => exact pu_bad (by unfold runB; rw [c]; simp only [h0])
    | ct h0 h1 => exact pu_bad (by unfold runB; rw [c]; simp only [h0])
    | bad h0 => exact pu_bad (by unfold runB; rw [c]; simp only [h0])
theorem ps_try {nE i : Nat} {b : MS} {h : Nat → D} (hb : PureS b) : PureS (sTry nE i b h) := fun ρ => by
  cases hb ρ with
  | nx h0 h1 => exact .nx (by unfold sTry; rw [h0]) fun st hs => by unfold sTry; rw [h1 st hs]
  | rt h0 h1 => exact .rt (by unfold sTry; rw [h0]) fun st hs => by unfold sTry; rw [h1 st hs]
  | bk h0 h1 => exact .bk (by unfold sTry; rw [h0]) fun st hs => by unfold sTry; rw [h1 st hs]
  | ct h0 h1 => exact .ct (by unfold sTry; rw [h0]) fun st hs => by unfold sTry; rw [h1 st hs]
  | bad h0 => exact .bad (by unfold sTry; rw [h0])
  | @exc c ρ' h0 h1 =>
    cases k : decide (c < nE) && decide (i < ρ'.length) with
    | true => exact .rt (d := h c) (by unfold sTry; rw [h0]; simp only [k]) fun st hs => by unfold sTry; rw [h1 st hs]; simp only [k]
    | false => exact .bad (by unfold sTry; rw [h0]; simp only [k])
theorem pu_hfr {m : M D} (h : PureM m) : PureM (hfr m) := by
  refine ⟨fun a st' e => ?_, fun c st' e => ?_⟩
  · unfold hfr at e
    cases q : m [] with
    | ok d s1 =>
      rw [q] at e
      obtain ⟨rfl, h1⟩ := h.ok d s1 q
      cases k : D.nh d with
      | false => simp [nhS, k] at e
      | true =>
        simp [nhS, k] at e
        obtain ⟨rfl, rfl⟩ := e
        exact ⟨rfl, fun st hs => by unfold hfr; rw [hs, h1 st hs]; simp [k, hs]⟩
    | exc c s1 => rw [q] at e; simp [nhS] at e; split at e <;> cases e
    | bad => rw [q] at e; simp [nhS] at e
  · unfold hfr at e
    cases q : m [] with
    | ok d s1 => rw [q] at e; simp [nhS] at e; split at e <;> cases e
    | exc c' s1 =>
      rw [q] at e
      obtain ⟨rfl, h1⟩ := h.ex c' s1 q
      simp [nhS] at e
      obtain ⟨rfl, rfl⟩ := e
      exact ⟨rfl, fun st hs => by unfold hfr; rw [hs, h1 st hs]; simp [hs]⟩
    | bad => rw [q] at e; simp [nhS] at e
theorem pu_actM {m : M D} (h : PureM m) : PureE (actM m) := fun ρ => by
  unfold actM
  split
  · exact pu_hfr h
  · exact pu_fail
theorem pu_mLam {len : Nat} {bg : (Env' → M D) → MS} {m : Env' → M D} (hb : ∀ act, PureE act → PureS (bg act)) (hm : PureE m) : PureE (mLam len bg m) := fun ρ => pu_hfr (pf_runB (hb _ (pu_actM (hm ρ))) _)
theorem pu_mHof {i : Nat} {m : List D → M D} {ms : Env' → M (List D)} (hm : PureF m) (hs : PureE ms) : PureE (mHof i m ms) := fun ρ => by
  unfold mHof
  split
  · exact pu_mCall hm hs ρ
  · exact pu_fail
theorem pu_mHcall {n : Nat} {mt : Nat → Option (List D → M D)} {mg : (List D → M D) → List D → M D} {ms : Env' → M (List D)} (ht : ∀ l m, mt l = some m → PureF m) (hg : ∀ m, PureF m → PureF (mg m)) (hs : PureE ms) : PureE (mHcall n mt mg ms) := fun ρ => pu_bnd (hs ρ) fun ds => by
  split
  · split
    · rename_i mf e
      exact pu_chk (pu_hfr (hg _ (ht _ _ e) _))
    · exact pu_fail
  · exact pu_fail
end
end DL

namespace DL
open PySem
/-! ### what a run of a mirror ends with, read from the left -/
/-- what follows is not looked into before it is met -/
inductive Tg {β : Type} : β → Type where
  | mk (b : β) : Tg b
@[irreducible] def WM {α : Type} (r : R α) (Q : α → Store → Prop) (_ : Tg Q := .mk Q) : Prop := match r with
  | .ok a st => Q a st
  | _ => False
@[irreducible] def WS (r : RS) (N : Env' → Store → Prop) (T : D → Store → Prop) (_ : Tg N := .mk N) (_ : Tg T := .mk T) : Prop := match r with
  | .nx ρ st => N ρ st
  | .rt d st => T d st
  | _ => False
/-- just this value, the store as it was -/
structure Is {α : Type} (st : Store) (a b : α) (st' : Store) : Prop where
  v : b = a
  s : st' = st
/-- the same, looked into -/
def WMp {α : Type} (r : R α) (Q : α → Store → Prop) : Prop := match r with
  | .ok a st => Q a st
  | _ => False
def WSp (r : RS) (N : Env' → Store → Prop) (T : D → Store → Prop) : Prop := match r with
  | .nx ρ st => N ρ st
  | .rt d st => T d st
  | _ => False
theorem wm_p {α : Type} {r : R α} {Q : α → Store → Prop} {t : Tg Q} : WM r Q t = WMp r Q := by
  unfold WM
  rfl
theorem ws_p {r : RS} {N : Env' → Store → Prop} {T : D → Store → Prop} {t : Tg N} {u : Tg T} : WS r N T t u = WSp r N T := by
  unfold WS
  rfl
section
variable {α β : Type} {st : Store} {ρ : Env'}
theorem wmp_ret {a : α} {Q : α → Store → Prop} : WMp (ret a st) Q = Q a st := rfl
theorem wmp_fail {Q : α → Store → Prop} : WMp (fail st) Q = False := rfl
theorem wmp_ok {a : α} {Q : α → Store → Prop} : WMp (.ok a st) Q = Q a st := rfl
theorem wmp_bnd {m : M α} {f : α → M β} {Q : β → Store → Prop} : WMp (bnd m f st) Q = WMp (m st) fun a st' => WMp (f a st') Q := by
  unfold bnd
  cases m st <;> rfl
theorem wmp_chk {b : Bool} {m : M α} {Q : α → Store → Prop} : WMp (chk b m st) Q = (b = true ∧ WMp (m st) Q) := by
  cases b <;> simp [chk, wmp_fail]
theorem wmp_noEx {m : M α} {Q : α → Store → Prop} : WMp (noEx m st) Q = WMp (m st) Q := by
  unfold noEx
  cases m st <;> rfl
theorem wmp_newCell {c : Cell} {Q : D → Store → Prop} : WMp (newCell c st) Q = Q (.cel st.length) (st ++ [c]) := rfl
variable {N : Env' → Store → Prop} {T : D → Store → Prop}
theorem wsp_nx : WSp (.nx ρ st) N T = N ρ st := rfl
theorem wsp_rt {d : D} : WSp (.rt d st) N T = T d st := rfl
theorem wsp_sB {m : M α} {f : α → Store → RS} : WSp (sB ρ m f st) N T = WMp (m st) fun a st1 => WSp (f a st1) N T := by
  unfold sB
  cases m st <;> rfl
end
section
variable {α β : Type} {st : Store} {ρ : Env'}
theorem wm_ok {a : α} {Q : α → Store → Prop} : WM (.ok a st) Q = Q a st := by rw [wm_p]; exact propext ⟨fun h => h, fun h => h⟩
theorem wm_bad {Q : α → Store → Prop} : WM .bad Q = False := by rw [wm_p]; exact propext ⟨fun h => h, fun h => h⟩
theorem wm_exc {c : Nat} {Q : α → Store → Prop} : WM (.exc c st) Q = False := by rw [wm_p]; exact propext ⟨fun h => h, fun h => h⟩
theorem wm_ret {a : α} {Q : α → Store → Prop} : WM (ret a st) Q = Q a st := by rw [wm_p]; exact propext ⟨fun h => h, fun h => h⟩
theorem wm_fail {Q : α → Store → Prop} : WM (fail st) Q = False := by rw [wm_p]; exact propext ⟨fun h => h, fun h => h⟩
theorem ws_nx {N : Env' → Store → Prop} {T : D → Store → Prop} : WS (.nx ρ st) N T = N ρ st := by rw [ws_p]; exact propext ⟨fun h => h, fun h => h⟩
theorem ws_rt {N : Env' → Store → Prop} {T : D → Store → Prop} {d : D} : WS (.rt d st) N T = T d st := by rw [ws_p]; exact propext ⟨fun h => h, fun h => h⟩
theorem ws_bk {N : Env' → Store → Prop} {T : D → Store → Prop} : WS (.bk ρ st) N T = False := by rw [ws_p]; exact propext ⟨fun h => h, fun h => h⟩
theorem ws_ct {N : Env' → Store → Prop} {T : D → Store → Prop} : WS (.ct ρ st) N T = False := by rw [ws_p]; exact propext ⟨fun h => h, fun h => h⟩
theorem ws_exc {N : Env' → Store → Prop} {T : D → Store → Prop} {c : Nat} : WS (.exc c ρ st) N T = False := by rw [ws_p]; exact propext ⟨fun h => h, fun h => h⟩
theorem ws_bad {N : Env' → Store → Prop} {T : D → Store → Prop} : WS .bad N T = False := by rw [ws_p]; exact propext ⟨fun h => h, fun h => h⟩
theorem WM.imp {r : R α} {Q Q' : α → Store → Prop} (h : WM r Q) (i : ∀ a st, Q a st → Q' a st) : WM r Q' := by
  cases r <;> simp only [wm_ok, wm_exc, wm_bad] at h ⊢
  exact i _ _ h
theorem WS.imp {r : RS} {N N' : Env' → Store → Prop} {T T' : D → Store → Prop} (h : WS r N T) (i : ∀ ρ st, N ρ st → N' ρ st) (j : ∀ d st, T d st → T' d st) : WS r N' T' := by
  cases r <;> simp only [ws_nx, ws_rt, ws_bk, ws_ct, ws_exc, ws_bad] at h ⊢ <;> first | exact i _ _ h | exact j _ _ h
theorem WM.eq {r : R α} {Q : α → Store → Prop} (h : WM r Q) : ∃ a st, r = .ok a st ∧ Q a st := by
  cases r <;> simp only [wm_ok, wm_exc, wm_bad] at h
  exact ⟨_, _, rfl, h⟩
theorem wm_of {r : R α} {a : α} {st' : Store} {Q : α → Store → Prop} (h : r = .ok a st') (q : Q a st') : WM r Q := by
  rw [h, wm_ok]; exact q
theorem wm_is {r : R α} {a : α} {st : Store} (h : WM r (Is st a)) {Q : α → Store → Prop} : WM r Q = Q a st := by
  obtain ⟨b, s, e, rfl, rfl⟩ := h.eq
  rw [e, wm_ok]
theorem WM.is {r : R α} {a : α} {st : Store} (h : WM r (Is st a)) : r = .ok a st := by
  obtain ⟨b, s, e, rfl, rfl⟩ := h.eq
  exact e
theorem WM.at {r : R α} {a : α} {st' : Store} (h : WM r fun d s => d = a ∧ s = st') : r = .ok a st' := by
  obtain ⟨b, s, e, rfl, rfl⟩ := h.eq
  exact e
theorem wm_bnd {m : M α} {f : α → M β} {Q : β → Store → Prop} : WM (bnd m f st) Q = WM (m st) fun a st' => WM (f a st') Q := by
  unfold bnd
  cases m st <;> simp only [wm_ok, wm_exc, wm_bad]
theorem wm_chk {b : Bool} {m : M α} {Q : α → Store → Prop} : WM (chk b m st) Q = (b = true ∧ WM (m st) Q) := by
  cases b <;> simp [chk, wm_fail]
theorem wm_noEx {m : M α} {Q : α → Store → Prop} : WM (noEx m st) Q = WM (m st) Q := by
  unfold noEx
  cases m st <;> simp only [wm_ok, wm_exc, wm_bad]
/-! expressions -/
theorem wm_vr {i : Nat} {d : D} {Q : D → Store → Prop} (h : ρ[i]? = some (some d)) : WM (vr i ρ st) Q = Q d st := by
  unfold vr; rw [h]; exact wm_ret
theorem wm_vr0 {d : D} {Q : D → Store → Prop} : WM (vr 0 (some d :: ρ) st) Q = Q d st := by simp only [wm_p, ws_p]; exact propext ⟨fun h => h, fun h => h⟩
theorem vr_s {i : Nat} {o : Option D} : vr (i + 1) (o :: ρ) = vr i ρ := by
  unfold vr
  rw [List.getElem?_cons_succ]
theorem wm_cst {d : D} {Q : D → Store → Prop} : WM (cst d ρ st) Q = Q d st := by simp only [wm_p, ws_p]; exact propext ⟨fun h => h, fun h => h⟩
theorem wm_m2 {op : D → D → M D} {a b : Env' → M D} {Q : D → Store → Prop} : WM (m2 op a b ρ st) Q = WM (a ρ st) fun x st1 => WM (b ρ st1) fun y st2 => WM (op x y st2) Q := by
  unfold m2; simp only [wm_p, ws_p, wmp_bnd]
theorem wm_m1 {f : D → M D} {a : Env' → M D} {Q : D → Store → Prop} : WM (m1 f a ρ st) Q = WM (a ρ st) fun x st1 => WM (f x st1) Q := by
  unfold m1; simp only [wm_p, ws_p, wmp_bnd]
theorem wm_asB {b : Bool} {Q : Bool → Store → Prop} : WM (asB (.bl b) st) Q = Q b st := by simp only [wm_p, ws_p]; exact propext ⟨fun h => h, fun h => h⟩
theorem wm_mB {a : Env' → M D} {Q : Bool → Store → Prop} : WM (mB a ρ st) Q = WM (a ρ st) fun x st1 => WM (asB x st1) Q := by
  unfold mB; simp only [wm_p, ws_p, wmp_bnd]
theorem wm_mNot {a : Env' → M Bool} {Q : Bool → Store → Prop} : WM (mNot a ρ st) Q = WM (a ρ st) fun x st1 => Q (!x) st1 := by
  unfold mNot; simp only [wm_p, ws_p, wmp_bnd, wmp_ret]
theorem wm_mAnd {a b : Env' → M Bool} {Q : Bool → Store → Prop} : WM (mAnd a b ρ st) Q = WM (a ρ st) fun x st1 => if x = true then WM (b ρ st1) Q else Q false st1 := by
  unfold mAnd; simp only [wm_p, ws_p, wmp_bnd]; congr 1; funext x st1; cases x <;> simp [wmp_ret]
theorem wm_mOr {a b : Env' → M Bool} {Q : Bool → Store → Prop} : WM (mOr a b ρ st) Q = WM (a ρ st) fun x st1 => if x = true then Q true st1 else WM (b ρ st1) Q := by
  unfold mOr; simp only [wm_p, ws_p, wmp_bnd]; congr 1; funext x st1; cases x <;> simp [wmp_ret]
theorem wm_mIf {c : Env' → M Bool} {a b : Env' → M α} {Q : α → Store → Prop} : WM (mIf c a b ρ st) Q = WM (c ρ st) fun x st1 => if x = true then WM (a ρ st1) Q else WM (b ρ st1) Q := by
  unfold mIf; simp only [wm_p, ws_p, wmp_bnd]; congr 1; funext x st1; cases x <;> simp
theorem wm_mV {a : Env' → M Bool} {Q : D → Store → Prop} : WM (mV a ρ st) Q = WM (a ρ st) fun x st1 => Q (.bl x) st1 := by
  unfold mV; simp only [wm_p, ws_p, wmp_bnd, wmp_ret]
theorem wm_vAnd {a b : Env' → M D} {Q : D → Store → Prop} : WM (vAnd a b ρ st) Q = WM (a ρ st) fun y st1 => WM (asB y st1) fun x st2 => if x = true then WM (b ρ st2) Q else Q (.bl false) st2 := by
  unfold vAnd; simp only [wm_p, ws_p, wmp_bnd]; congr 1; funext y st1; congr 1; funext x st1; cases x <;> simp [wmp_ret]
theorem wm_vOr {a b : Env' → M D} {Q : D → Store → Prop} : WM (vOr a b ρ st) Q = WM (a ρ st) fun y st1 => WM (asB y st1) fun x st2 => if x = true then Q (.bl true) st2 else WM (b ρ st2) Q := by
  unfold vOr; simp only [wm_p, ws_p, wmp_bnd]; congr 1; funext y st1; congr 1; funext x st1; cases x <;> simp [wmp_ret]
theorem wm_vNot {a : Env' → M D} {Q : D → Store → Prop} : WM (vNot a ρ st) Q = WM (a ρ st) fun y st1 => WM (asB y st1) fun x st2 => Q (.bl (!x)) st2 := by
  unfold vNot; simp only [wm_p, ws_p, wmp_bnd, wmp_ret]
theorem wm_mNil {Q : List D → Store → Prop} : WM (mNil ρ st) Q = Q [] st := by simp only [wm_p, ws_p]; exact propext ⟨fun h => h, fun h => h⟩
theorem wm_mCons {m : Env' → M D} {ms : Env' → M (List D)} {Q : List D → Store → Prop} : WM (mCons m ms ρ st) Q = WM (m ρ st) fun x st1 => WM (ms ρ st1) fun xs st2 => Q (x :: xs) st2 := by
  unfold mCons; simp only [wm_p, ws_p, wmp_bnd, wmp_ret]
theorem wm_mTup {ms : Env' → M (List D)} {Q : D → Store → Prop} : WM (mTup ms ρ st) Q = WM (ms ρ st) fun xs st1 => xs.length ≤ LIM ∧ Q (.tup xs) st1 := by
  unfold mTup; simp only [wm_p, ws_p, wmp_bnd, wmp_chk, wmp_ret, decide_eq_true_eq]
theorem wm_mLst {ms : Env' → M (List D)} {Q : D → Store → Prop} : WM (mLst ms ρ st) Q = WM (ms ρ st) fun xs st1 => xs.length ≤ LIM ∧ Q (.lst xs) st1 := by
  unfold mLst; simp only [wm_p, ws_p, wmp_bnd, wmp_chk, wmp_ret, decide_eq_true_eq]
theorem wm_newCell {c : Cell} {Q : D → Store → Prop} : WM (newCell c st) Q = Q (.cel st.length) (st ++ [c]) := by simp only [wm_p, ws_p]; exact propext ⟨fun h => h, fun h => h⟩
theorem wm_mCel {ms : Env' → M (List D)} {Q : D → Store → Prop} : WM (mCel ms ρ st) Q = WM (ms ρ st) fun xs st1 => xs.length ≤ LIM ∧ Q (.cel st1.length) (st1 ++ [.lst xs]) := by
  unfold mCel; simp only [wm_p, ws_p, wmp_bnd, wmp_chk, wmp_newCell, decide_eq_true_eq]
theorem wm_mCall {n : Nat} {m : List D → M D} {ms : Env' → M (List D)} {Q : D → Store → Prop} : WM (mCall n m ms ρ st) Q = WM (ms ρ st) fun ds st1 => ds.length = n ∧ WM (m ds st1) Q := by
  unfold mCall; simp only [wm_p, ws_p, wmp_bnd, wmp_chk, decide_eq_true_eq]
theorem wm_mCall0 {m : List D → M D} {Q : D → Store → Prop} : WM (mCall0 m ρ st) Q = WM (m [] st) Q := by
  unfold mCall0; simp only [wm_p, ws_p, wmp_noEx]
theorem wm_mFn {f : List D → M D} {ms : Env' → M (List D)} {Q : D → Store → Prop} : WM (mFn f ms ρ st) Q = WM (ms ρ st) fun ds st1 => WM (f ds st1) Q := by
  unfold mFn; simp only [wm_p, ws_p, wmp_bnd]
theorem wm_mMeth {kd : D → M Unit} {f : D → List D → M D} {mo : Env' → M D} {ms : Env' → M (List D)} {Q : D → Store → Prop} : WM (mMeth kd f mo ms ρ st) Q = WM (mo ρ st) fun o st1 => WM (kd o st1) fun _ st2 => WM (ms ρ st2) fun ds st3 => WM (f o ds st3) Q := by
  unfold mMeth; simp only [wm_p, ws_p, wmp_bnd]
theorem wm_oNo {Q : Option Int → Store → Prop} : WM (oNo ρ st) Q = Q none st := by simp only [wm_p, ws_p]; exact propext ⟨fun h => h, fun h => h⟩
theorem wm_oAt {m : Env' → M D} {Q : Option Int → Store → Prop} : WM (oAt m ρ st) Q = WM (m ρ st) fun d st1 => match d with
    | .int i => Q (some i) st1
    | _ => False := by
  unfold oAt; simp only [wm_p, ws_p, wmp_bnd]; congr 1; funext d st1; cases d <;> rfl
theorem wm_mCut {m : Env' → M D} {lo hi : MO} {Q : D → Store → Prop} : WM (mCut m lo hi ρ st) Q = WM (m ρ st) fun x st1 => WM (lo ρ st1) fun l st2 => WM (hi ρ st2) fun h st3 => WM (dCut x l h st3) Q := by
  unfold mCut; simp only [wm_p, ws_p, wmp_bnd]
theorem wm_mChain {o1 o2 : D → D → M D} {a b c : Env' → M D} {Q : D → Store → Prop} : WM (mChain o1 o2 a b c ρ st) Q = WM (a ρ st) fun x st1 => WM (b ρ st1) fun y st2 => WM (o1 x y st2) fun z st3 => WM (asB z st3) fun k st4 => if k = true then WM (c ρ st4) fun u st5 => WM (o2 y u st5) Q else Q (.bl false) st4 := by
  unfold mChain; simp only [wm_p, ws_p, wmp_bnd]; congr 1; funext x st1; congr 1; funext y st2; congr 1; funext z st3; congr 1; funext k st4; cases k <;> simp [wmp_ret, wmp_bnd]
theorem wm_mIt {m : Env' → M D} {Q : Itm → Store → Prop} : WM (mIt m ρ st) Q = WM (m ρ st) fun d st1 => WM (itA d st1) Q := by
  unfold mIt; simp only [wm_p, ws_p, wmp_bnd]
theorem wm_mItL {f : List D → M Itm} {ms : Env' → M (List D)} {Q : Itm → Store → Prop} : WM (mItL f ms ρ st) Q = WM (ms ρ st) fun d st1 => WM (f d st1) Q := by
  unfold mItL; simp only [wm_p, ws_p, wmp_bnd]
theorem wm_yes {Q : Bool → Store → Prop} : WM (yes ρ st) Q = Q true st := by simp only [wm_p, ws_p]; exact propext ⟨fun h => h, fun h => h⟩
theorem wm_mComp {own : List Nat} {c : CT} {mi : Env' → M Itm} {tt : Env' → M Bool} {e : Env' → M D} {Q : D → Store → Prop} : WM (mComp own c mi tt e ρ st) Q = WM (mi ρ st) fun it st1 => it.xs.length ≤ LIM ∧ WM (cmpL it.ck c.gm tt e (wipeE ρ own) it.xs st1) fun ys st2 => Q (.lst ys) st2 := by
  unfold mComp; simp only [wm_p, ws_p, wmp_bnd, wmp_chk, wmp_noEx, wmp_ret, decide_eq_true_eq]
theorem wm_cmpN {g : GM} {tt : Env' → M Bool} {e : Env' → M D} {Q : List D → Store → Prop} : WM (cmpL always g tt e ρ [] st) Q = Q [] st := by simp only [wm_p, ws_p]; exact propext ⟨fun h => h, fun h => h⟩
theorem wm_cmpC {g : GM} {tt : Env' → M Bool} {e : Env' → M D} {x : D} {xs : List D} {Q : List D → Store → Prop} : WM (cmpL always g tt e ρ (x :: xs) st) Q = WM (g x ρ st) fun ρ1 st1 => WM (tt ρ1 st1) fun b st2 => if b = true then WM (e ρ1 st2) fun y st3 => WM (cmpL always g tt e ρ xs st3) fun ys st4 => Q (y :: ys) st4 else WM (cmpL always g tt e ρ xs st2) Q := by
  have e0 : cmpL always g tt e ρ (x :: xs) st = bnd (g x ρ) (fun ρ1 => bnd (tt ρ1) fun b => match b with
      | true => bnd (e ρ1) fun y => bnd (cmpL always g tt e ρ xs) fun ys => ret (y :: ys)
      | false => cmpL always g tt e ρ xs) st := rfl
  rw [e0]
  simp only [wm_p, ws_p, wmp_bnd]; congr 1; funext x st1; congr 1; funext b st2; cases b <;> simp [wmp_ret, wmp_bnd]
/-- a comprehension that changes nothing -/
theorem wm_cmpP {g : GM} {tt : Env' → M Bool} {e : Env' → M D} {Q : List D → Store → Prop} (p : D → Bool) (f : D → D) : ∀ {xs : List D}, (∀ x ∈ xs, WM (g x ρ st) fun ρ1 st1 => st1 = st ∧ WM (tt ρ1 st) fun b st2 => st2 = st ∧ b = p x ∧ (p x = true → WM (e ρ1 st) fun y st3 => st3 = st ∧ y = f x)) →
    Q ((xs.filter p).map f) st → WM (cmpL always g tt e ρ xs st) Q := by
  suffices h : ∀ {xs : List D}, (∀ x ∈ xs, WM (g x ρ st) fun ρ1 st1 => st1 = st ∧ WM (tt ρ1 st) fun b st2 => st2 = st ∧ b = p x ∧ (p x = true → WM (e ρ1 st) fun y st3 => st3 = st ∧ y = f x)) → cmpL always g tt e ρ xs st = .ok ((xs.filter p).map f) st from
    fun {xs} hx q => wm_of (h hx) q
  intro xs
  induction xs with
  | nil => intro _; rfl
  | cons x xs ih =>
    intro hx
    have i := ih fun y hy => hx y (List.mem_cons_of_mem _ hy)
    obtain ⟨ρ1, s1, e1, rfl, h1⟩ := (hx x List.mem_cons_self).eq
    obtain ⟨b, s2, e2, rfl, rfl, h2⟩ := h1.eq
    refine WM.at ?_
    rw [wm_cmpC]
    refine wm_of e1 (wm_of e2 ?_)
    cases hp : p x with
    | true =>
      obtain ⟨y, s3, e3, rfl, rfl⟩ := (h2 hp).eq
      rw [if_pos rfl]
      refine wm_of e3 (wm_of i ⟨?_, rfl⟩)
      rw [List.filter_cons_of_pos hp, List.map_cons]
    | false =>
      rw [if_neg (by simp)]
      refine wm_of i ⟨?_, rfl⟩
      rw [List.filter_cons_of_neg (by simp [hp])]
theorem map_all {f : D → D} : ∀ xs : List D, (xs.filter fun _ => true).map f = xs.map f
  | [] => rfl
  | x :: xs => by rw [List.filter_cons_of_pos rfl, List.map_cons, List.map_cons, map_all xs]
inductive All2 {α β : Type} (P : α → β → Prop) : List α → List β → Prop where
  | nil : All2 P [] []
  | cons {a : α} {b : β} {as : List α} {bs : List β} : P a b → All2 P as bs → All2 P (a :: as) (b :: bs)
theorem All2.len {α β : Type} {P : α → β → Prop} : ∀ {as : List α} {bs : List β}, All2 P as bs → bs.length = as.length
  | _, _, .nil => rfl
  | _, _, .cons _ r => by rw [List.length_cons, List.length_cons, r.len]
/-- without a test -/
theorem wm_cmpM {g : GM} {e : Env' → M D} {Q : List D → Store → Prop} (f : D → D) {xs : List D} (h : ∀ x ∈ xs, WM (g x ρ st) fun ρ1 st1 => st1 = st ∧ WM (e ρ1 st) fun y st3 => st3 = st ∧ y = f x) (q : Q (xs.map f) st) : WM (cmpL always g yes e ρ xs st) Q :=
  wm_cmpP (fun _ => true) f (fun x hx => (h x hx).imp fun ρ1 st1 ⟨a, b⟩ => ⟨a, by rw [wm_yes]; exact ⟨rfl, rfl, fun _ => b⟩⟩) (by rw [map_all]; exact q)
/-- a comprehension that draws: what holds of the store stays, each item is as told -/
theorem wm_cmpI {g : GM} {e : Env' → M D} {Q : List D → Store → Prop} (I : Store → Prop) (P : D → D → Prop) : ∀ {xs : List D} {st : Store}, I st → (∀ x ∈ xs, ∀ st, I st → WM (g x ρ st) fun ρ1 st1 => WM (e ρ1 st1) fun y st3 => I st3 ∧ P x y) →
    (∀ ys st, I st → All2 P xs ys → Q ys st) → WM (cmpL always g yes e ρ xs st) Q
  | [], st, i, _, q => by rw [wm_cmpN]; exact q [] st i .nil
  | x :: xs, st, i, h, q => by
    rw [wm_cmpC]
    refine (h x List.mem_cons_self st i).imp fun ρ1 st1 h1 => ?_
    rw [wm_yes, if_pos rfl]
    refine h1.imp fun y st3 ⟨i3, p⟩ => ?_
    exact wm_cmpI I P i3 (fun z hz => h z (List.mem_cons_of_mem _ hz)) fun ys st4 i4 f => q _ _ i4 (.cons p f)
theorem wm_iso {m : List D → M D} {ds : List D} {Q : D → Store → Prop} : WM (iso m ds st) Q = (D.noL ds = true ∧ WM (m ds []) fun d s => s = [] ∧ Q d st) := by
  unfold iso
  cases D.noL ds with
  | false => simp only [wm_bad, Bool.false_eq_true, false_and]
  | true =>
    cases m ds [] with
    | ok d s => cases s <;> simp [wm_ok, wm_bad]
    | exc c s => cases s <;> simp [wm_exc, wm_bad]
    | bad => simp [wm_bad]
/-! statements -/
variable {N : Env' → Store → Prop} {T : D → Store → Prop}
theorem ws_sNx : WS (sNx ρ st) N T = N ρ st := by simp only [wm_p, ws_p]; exact propext ⟨fun h => h, fun h => h⟩
theorem ws_sB {m : M α} {f : α → Store → RS} : WS (sB ρ m f st) N T = WM (m st) fun a st1 => WS (f a st1) N T := by
  unfold sB
  cases m st <;> simp only [wm_ok, wm_exc, wm_bad, ws_exc, ws_bad]
theorem ws_seq {a b : MS} : WS (sSeq a b ρ st) N T = WS (a ρ st) (fun ρ1 st1 => WS (b ρ1 st1) N T) T := by
  unfold sSeq
  cases a ρ st <;> simp only [ws_nx, ws_rt, ws_bk, ws_ct, ws_exc, ws_bad]
theorem ws_expr {m : Env' → M D} : WS (sExpr m ρ st) N T = WM (m ρ st) fun _ st1 => N ρ st1 := by
  unfold sExpr; simp only [wm_p, ws_p, wsp_sB, wsp_nx]
theorem ws_ret {m : Env' → M D} : WS (sRet m ρ st) N T = WM (m ρ st) T := by
  unfold sRet; simp only [wm_p, ws_p, wsp_sB, wsp_rt]
theorem ws_retN : WS (sRetN ρ st) N T = T .non st := by simp only [wm_p, ws_p]; exact propext ⟨fun h => h, fun h => h⟩
theorem ws_if {c : Env' → M Bool} {a b : MS} : WS (sIf c a b ρ st) N T = WM (c ρ st) fun k st1 => if k = true then WS (a ρ st1) N T else WS (b ρ st1) N T := by
  unfold sIf; simp only [wm_p, ws_p, wsp_sB]; congr 1; funext k st1; cases k <;> simp
theorem ws_asg {m : Env' → M D} {g : GM} : WS (sAsg m g ρ st) N T = WM (m ρ st) fun d st1 => WM (g d ρ st1) N := by
  unfold sAsg; simp only [wm_p, ws_p, wsp_sB]; congr 1; funext d st1; unfold sG; cases g d ρ st1 <;> simp only [wmp_ok, WMp, WSp]
theorem wm_gNm {i : Nat} {d : D} : WM (gNm i d ρ st) N = N (ρ.set i (some d)) st := by simp only [wm_p, ws_p]; exact propext ⟨fun h => h, fun h => h⟩
theorem wm_gTp {gs : List GM} {xs : List D} : WM (gTp gs (.tup xs) ρ st) N = WM (gL gs xs ρ st) N := by simp only [wm_p, ws_p]; exact propext ⟨fun h => h, fun h => h⟩
theorem wm_gLN : WM (gL [] [] ρ st) N = N ρ st := by simp only [wm_p, ws_p]; exact propext ⟨fun h => h, fun h => h⟩
theorem wm_gLC {g : GM} {gs : List GM} {d : D} {ds : List D} : WM (gL (g :: gs) (d :: ds) ρ st) N = WM (g d ρ st) fun ρ1 st1 => WM (gL gs ds ρ1 st1) N := by
  show WM (bnd (g d ρ) (fun ρ' => gL gs ds ρ') st) N = _
  rw [wm_bnd]
theorem wm_gSub {mo mi : Env' → M D} {d : D} : WM (gSubX mo mi d ρ st) N = WM (mo ρ st) fun o st1 => WM (mi ρ st1) fun i st2 => WM (setIxX o i d st2) fun _ st3 => N ρ st3 := by
  unfold gSubX; simp only [wm_p, ws_p, wmp_bnd, wmp_ret]
theorem ws_par {i j : Nat} {ms : Env' → M (List D)} : WS (sPar i j ms ρ st) N T = WM (ms ρ st) fun ds st1 => match ds with
    | [d, e] => N ((ρ.set i (some d)).set j (some e)) st1
    | _ => False := by
  unfold sPar; simp only [wm_p, ws_p, wsp_sB]; congr 1; funext ds st1
  match ds with
  | [] => rfl
  | [_] => rfl
  | [_, _] => rfl
  | _ :: _ :: _ :: _ => rfl
theorem ws_for {mi : Env' → M Itm} {g : GM} {b : MS} : WS (sFor mi g b ρ st) N T = WM (mi ρ st) fun it st1 => WS (forL it.ck g b it.xs ρ st1) N T := by
  unfold sFor; simp only [wm_p, ws_p, wsp_sB]
theorem ws_forN {g : GM} {b : MS} : WS (forL always g b [] ρ st) N T = N ρ st := by simp only [wm_p, ws_p]; exact propext ⟨fun h => h, fun h => h⟩
theorem ws_forC {g : GM} {b : MS} {x : D} {xs : List D} (h : WM (g x ρ st) fun ρ1 st1 => WS (b ρ1 st1) (fun ρ2 st2 => WS (forL always g b xs ρ2 st2) N T) T) : WS (forL always g b (x :: xs) ρ st) N T := by
  obtain ⟨ρ1, s1, e1, h1⟩ := h.eq
  have e : forL always g b (x :: xs) ρ st = lpK (b ρ1 s1) (forL always g b xs) := by
    show (match g x ρ st with
      | .ok ρ1 st1 => lpK (b ρ1 st1) (forL always g b xs)
      | _ => .bad) = _
    rw [e1]
  rw [e]
  unfold lpK
  cases q : b ρ1 s1 <;> rw [q] at h1 <;> simp only [ws_nx, ws_rt, ws_bk, ws_ct, ws_exc, ws_bad] at h1 ⊢ <;> exact h1
/-- a loop by what holds ahead of each turn -/
theorem ws_forI {g : GM} {b : MS} (I : List D → Env' → Store → Prop) : ∀ {xs : List D} {ρ : Env'} {st : Store}, I xs ρ st → (∀ x xs ρ st, I (x :: xs) ρ st → WM (g x ρ st) fun ρ1 st1 => WS (b ρ1 st1) (I xs) T) → (∀ ρ st, I [] ρ st → N ρ st) → WS (forL always g b xs ρ st) N T
  | [], ρ, st, h, _, d => by rw [ws_forN]; exact d ρ st h
  | x :: xs, ρ, st, h, s, d => ws_forC ((s x xs ρ st h).imp fun ρ1 st1 q => q.imp (fun ρ2 st2 i => ws_forI I i s d) fun _ _ t => t)
theorem ws_whC {c : Env' → M Bool} {b : MS} {n : Nat} (h : WM (c ρ st) fun k st1 => if k = true then WS (b ρ st1) (fun ρ2 st2 => WS (whL c b n ρ2 st2) N T) T else N ρ st1) : WS (whL c b (n + 1) ρ st) N T := by
  obtain ⟨k, s1, e1, h1⟩ := h.eq
  have e : whL c b (n + 1) ρ st = sB ρ (fun _ => R.ok k s1) (fun k st => match k with
      | true => lpK (b ρ st) (whL c b n)
      | false => .nx ρ st) st := by
    show sB ρ (c ρ) _ st = _
    unfold sB
    first
      | (rw [e1]; done)
      | (rw [e1]; rfl)
  rw [e]
  cases k with
  | false => rw [if_neg (by simp)] at h1; show WS (.nx ρ s1) N T; rw [ws_nx]; exact h1
  | true =>
    rw [if_pos rfl] at h1
    show WS (lpK (b ρ s1) (whL c b n)) N T
    unfold lpK
    cases q : b ρ s1 <;> rw [q] at h1 <;> simp only [ws_nx, ws_rt, ws_bk, ws_ct, ws_exc, ws_bad] at h1 ⊢ <;> exact h1
theorem ws_wh {f : Env' → Store → Nat} {c : Env' → M Bool} {b : MS} : WS (sWh f c b ρ st) N T = WS (whL c b (f ρ st) ρ st) N T := by simp only [wm_p, ws_p]; exact propext ⟨fun h => h, fun h => h⟩
/-- a while by what holds ahead of each turn, with the turns left -/
theorem ws_whI {c : Env' → M Bool} {b : MS} (I : Nat → Env' → Store → Prop) (hs : ∀ n ρ st, I n ρ st → WM (c ρ st) fun k st1 => if k = true then (∃ m, n = m + 1 ∧ WS (b ρ st1) (I m) T) else N ρ st1) : ∀ {n k : Nat} {ρ : Env'} {st : Store}, I n ρ st → n < k → WS (whL c b k ρ st) N T
  | n, 0, ρ, st, _, hk => absurd hk (Nat.not_lt_zero _)
  | n, k + 1, ρ, st, h, hk => by
    refine ws_whC ((hs n ρ st h).imp fun b st1 q => ?_)
    by_cases hb : b = true
    · rw [if_pos hb] at q ⊢
      obtain ⟨m, rfl, q⟩ := q
      exact q.imp (fun ρ2 st2 i => ws_whI I hs i (by omega)) fun _ _ t => t
    · rw [if_neg hb] at q ⊢
      exact q
theorem wm_run {fr : Bool} {n k : Nat} {b : MS} {ds : List D} {Q : D → Store → Prop} (hl : ds.length = k) (h : WS (b (ds.map some ++ List.replicate (n - k) none) st) (fun _ st' => st'.length = st.length ∧ Q .non st') (fun d st' => st'.length = st.length ∧ Q d st')) : WM (runB fr n k b ds st) Q := by
  unfold runB
  rw [decide_eq_true hl]
  show WM (match b (ds.map some ++ List.replicate (n - k) none) st with
      | .nx _ st' => (match fr with
        | true => endOk st .non st'
        | false => .ok .non st')
      | .rt d st' => (match fr with
        | true => endOk st d st'
        | false => .ok d st')
      | .exc c _ st' => (match fr with
        | true => endEx st c st'
        | false => .exc c st')
      | _ => .bad) Q
  cases q : b (ds.map some ++ List.replicate (n - k) none) st with
  | nx ρ st' =>
    rw [q] at h
    rw [ws_nx] at h
    cases fr with
    | false => show WM (.ok .non st') Q; rw [wm_ok]; exact h.2
    | true => show WM (endOk st .non st') Q; unfold endOk; rw [decide_eq_true h.1]; show WM (.ok .non st') Q; rw [wm_ok]; exact h.2
  | rt d st' =>
    rw [q] at h
    rw [ws_rt] at h
    cases fr with
    | false => show WM (.ok d st') Q; rw [wm_ok]; exact h.2
    | true => show WM (endOk st d st') Q; unfold endOk; rw [decide_eq_true h.1]; show WM (.ok d st') Q; rw [wm_ok]; exact h.2
  | _ => rw [q] at h; simp only [ws_bk, ws_ct, ws_exc, ws_bad] at h
/-- the same where nothing is changed -/
theorem wm_runP {fr : Bool} {n k : Nat} {b : MS} {ds : List D} {Q : D → Store → Prop} (hl : ds.length = k) (h : WS (b (ds.map some ++ List.replicate (n - k) none) st) (fun _ st' => st' = st ∧ Q .non st) (fun d st' => st' = st ∧ Q d st)) : WM (runB fr n k b ds st) Q :=
  wm_run hl (h.imp (fun ρ st' ⟨e, q⟩ => by subst e; exact ⟨rfl, q⟩) (fun ρ st' ⟨e, q⟩ => by subst e; exact ⟨rfl, q⟩))
theorem is_of {a b : α} (h : b = a) : Is st a b st := ⟨h, rfl⟩
theorem is_rfl {a : α} : Is st a a st := ⟨rfl, rfl⟩
theorem wm_runI {fr : Bool} {n k : Nat} {b : MS} {ds : List D} {a : D} (hl : ds.length = k) (h : WS (b (ds.map some ++ List.replicate (n - k) none) st) (fun _ => Is st a .non) (Is st a)) : WM (runB fr n k b ds st) (Is st a) :=
  wm_run hl (h.imp (fun ρ st' q => ⟨by rw [q.s], q⟩) (fun ρ st' q => ⟨by rw [q.s], q⟩))
/-- cells of its own are let go -/
theorem wm_runC {n k : Nat} {b : MS} {ds : List D} {Q : D → Store → Prop} (hl : ds.length = k) (h : WS (b (ds.map some ++ List.replicate (n - k) none) st) (fun _ st' => clean st st' = true ∧ st'.length ≠ st.length ∧ Q .non (st'.take st.length)) (fun d st' => clean st st' = true ∧ st'.length ≠ st.length ∧ ∃ d', frz st' st.length d = some d' ∧ Q d' (st'.take st.length))) : WM (runB true n k b ds st) Q := by
  unfold runB
  rw [decide_eq_true hl]
  show WM (match b (ds.map some ++ List.replicate (n - k) none) st with
      | .nx _ st' => endOk st .non st'
      | .rt d st' => endOk st d st'
      | .exc c _ st' => endEx st c st'
      | _ => .bad) Q
  cases q : b (ds.map some ++ List.replicate (n - k) none) st with
  | nx ρ st' =>
    rw [q, ws_nx] at h
    show WM (endOk st .non st') Q
    unfold endOk
    rw [decide_eq_false h.2.1, h.1]
    show WM (.ok _ _) Q
    rw [wm_ok]
    exact h.2.2
  | rt d st' =>
    rw [q, ws_rt] at h
    obtain ⟨h1, h2, d', h3, h4⟩ := h
    show WM (endOk st d st') Q
    unfold endOk
    rw [decide_eq_false h2, h1, h3]
    show WM (.ok _ _) Q
    rw [wm_ok]
    exact h4
  | _ => rw [q] at h; simp only [ws_bk, ws_ct, ws_exc, ws_bad] at h
/-! operators upon written kinds -/
variable {Q : D → Store → Prop}
theorem wm_addI {i j : Int} : WM (dAdd (.int i) (.int j) st) Q = Q (.int (i + j)) st := by simp only [wm_p, ws_p]; exact propext ⟨fun h => h, fun h => h⟩
theorem wm_addS {s t : List Nat} : WM (dAdd (.str s) (.str t) st) Q = (s.length + t.length ≤ LIM ∧ Q (.str (s ++ t)) st) := by
  show WM (chk _ _ st) Q = _; rw [wm_chk, decide_eq_true_eq, wm_ret]
theorem wm_addT {s t : List D} : WM (dAdd (.tup s) (.tup t) st) Q = (s.length + t.length ≤ LIM ∧ Q (.tup (s ++ t)) st) := by
  show WM (chk _ _ st) Q = _; rw [wm_chk, decide_eq_true_eq, wm_ret]
theorem wm_addL {s t : List D} : WM (dAdd (.lst s) (.lst t) st) Q = (s.length + t.length ≤ LIM ∧ Q (.lst (s ++ t)) st) := by
  show WM (dCat _ _ st) Q = _; unfold dCat; simp only [wm_p, ws_p, wmp_bnd, lLst, wmp_ret, wmp_chk, decide_eq_true_eq]
theorem wm_sub {i j : Int} : WM (dSub (.int i) (.int j) st) Q = Q (.int (i - j)) st := by simp only [wm_p, ws_p]; exact propext ⟨fun h => h, fun h => h⟩
theorem wm_mul {i j : Int} : WM (dMulX (.int i) (.int j) st) Q = (mulOk i j = true ∧ Q (.int (i * j)) st) := by
  show WM (chk _ _ st) Q = _; rw [wm_chk, wm_ret]
theorem wm_mulL {xs : List D} {k : Int} : WM (dMulX (.lst xs) (.int k) st) Q = (repOk xs.length k = true ∧ Q (.lst (List.replicate k.toNat xs).flatten) st) := by
  show WM (chk _ _ st) Q = _; rw [wm_chk, wm_ret]
theorem wm_mod {i j : Int} : WM (dMod (.int i) (.int j) st) Q = (0 < j ∧ Q (.int (i % j)) st) := by
  show WM (chk _ _ st) Q = _; rw [wm_chk, decide_eq_true_eq, wm_ret]
theorem wm_fdiv {i j : Int} : WM (dFdiv (.int i) (.int j) st) Q = ((0 < j ∧ j.natAbs.log2 < 9000) ∧ Q (.int (i / j)) st) := by
  show WM (chk _ _ st) Q = _; rw [wm_chk, Bool.and_eq_true, decide_eq_true_eq, decide_eq_true_eq, wm_ret]
theorem wm_pow {i j : Int} : WM (dPow (.int i) (.int j) st) Q = (powOk i j = true ∧ Q (.int (i ^ j.toNat)) st) := by
  show WM (chk _ _ st) Q = _; rw [wm_chk, wm_ret]
theorem wm_shl {i j : Int} : WM (dShl (.int i) (.int j) st) Q = (powOk i j = true ∧ Q (.int (i * 2 ^ j.toNat)) st) := by
  show WM (chk _ _ st) Q = _; rw [wm_chk, wm_ret]
theorem wm_shr {i j : Int} : WM (dShr (.int i) (.int j) st) Q = (0 ≤ j ∧ Q (.int (i / 2 ^ j.toNat)) st) := by
  show WM (chk _ _ st) Q = _; rw [wm_chk, decide_eq_true_eq, wm_ret]
theorem wm_lt {i j : Int} : WM (dLt (.int i) (.int j) st) Q = Q (.bl (decide (i < j))) st := by simp only [wm_p, ws_p]; exact propext ⟨fun h => h, fun h => h⟩
theorem wm_le {i j : Int} : WM (dLe (.int i) (.int j) st) Q = Q (.bl (decide (i ≤ j))) st := by simp only [wm_p, ws_p]; exact propext ⟨fun h => h, fun h => h⟩
theorem wm_gt {i j : Int} : WM (dGt (.int i) (.int j) st) Q = Q (.bl (decide (j < i))) st := by simp only [wm_p, ws_p]; exact propext ⟨fun h => h, fun h => h⟩
theorem wm_ge {i j : Int} : WM (dGe (.int i) (.int j) st) Q = Q (.bl (decide (j ≤ i))) st := by simp only [wm_p, ws_p]; exact propext ⟨fun h => h, fun h => h⟩
theorem wm_neg {i : Int} : WM (dNeg (.int i) st) Q = Q (.int (-i)) st := by simp only [wm_p, ws_p]; exact propext ⟨fun h => h, fun h => h⟩
theorem wm_abs {i : Int} : WM (dAbs (.int i) st) Q = Q (.int (if i < 0 then -i else i)) st := by simp only [wm_p, ws_p]; exact propext ⟨fun h => h, fun h => h⟩
theorem wm_max {i j : Int} : WM (dMax (.int i) (.int j) st) Q = Q (.int (if j > i then j else i)) st := by
  show WM (ret _ st) Q = _; rw [wm_ret]
theorem wm_min {i j : Int} : WM (dMin (.int i) (.int j) st) Q = Q (.int (if j < i then j else i)) st := by
  show WM (ret _ st) Q = _; rw [wm_ret]
theorem wm_isNN : WM (dIsN .non st) Q = Q (.bl true) st := by simp only [wm_p, ws_p]; exact propext ⟨fun h => h, fun h => h⟩
theorem wm_notNN : WM (dNotN .non st) Q = Q (.bl false) st := by simp only [wm_p, ws_p]; exact propext ⟨fun h => h, fun h => h⟩
theorem wm_int1 {i : Int} : WM (dInt1 (.int i) st) Q = Q (.int i) st := by simp only [wm_p, ws_p]; exact propext ⟨fun h => h, fun h => h⟩
theorem wm_int1b {b : Bool} : WM (dInt1 (.bl b) st) Q = Q (.int (if b then 1 else 0)) st := by simp only [wm_p, ws_p]; exact propext ⟨fun h => h, fun h => h⟩
/-- two values without cells -/
theorem deref_no {d : D} (h : D.dp 60 d = true) : deref d st = .ok d st := by
  cases d <;> first | rfl | (simp [D.dp] at h)
theorem wm_eq {x y : D} (hx : D.dp 60 x = true) (hy : D.dp 60 y = true) : WM (dEq x y st) Q = Q (.bl (D.eqv x y)) st := by
  unfold dEq
  simp only [wm_p, ws_p, wmp_bnd, deref_no hx, deref_no hy, wmp_ok, wmp_chk, hx, hy, Bool.and_self, true_and, wmp_ret]
theorem wm_ne {x y : D} (hx : D.dp 60 x = true) (hy : D.dp 60 y = true) : WM (dNe x y st) Q = Q (.bl (!D.eqv x y)) st := by
  unfold dNe
  simp only [wm_p, ws_p, wmp_bnd, deref_no hx, deref_no hy, wmp_ok, wmp_chk, hx, hy, Bool.and_self, true_and, wmp_ret]
theorem wm_eqI {i j : Int} : WM (dEq (.int i) (.int j) st) Q = Q (.bl (decide (i = j))) st := by
  rw [wm_eq rfl rfl]; simp [D.eqv]
theorem wm_neI {i j : Int} : WM (dNe (.int i) (.int j) st) Q = Q (.bl (!decide (i = j))) st := by
  rw [wm_ne rfl rfl]; simp [D.eqv]
theorem wm_eqS {i j : List Nat} : WM (dEq (.str i) (.str j) st) Q = Q (.bl (decide (i = j))) st := by
  rw [wm_eq rfl rfl]; simp [D.eqv]
theorem wm_neS {i j : List Nat} : WM (dNe (.str i) (.str j) st) Q = Q (.bl (!decide (i = j))) st := by
  rw [wm_ne rfl rfl]; simp [D.eqv]
theorem wm_eqB {i j : Bool} : WM (dEq (.bl i) (.bl j) st) Q = Q (.bl (i == j)) st := by
  rw [wm_eq rfl rfl]; simp [D.eqv]
theorem wm_ixT {xs : List D} {i : Int} : WM (dIx (.tup xs) (.int i) st) Q = WM (atD xs i st) Q := by simp only [wm_p, ws_p]; exact propext ⟨fun h => h, fun h => h⟩
theorem wm_ixC {xs : List D} {i : Int} : WM (dIx (.scr xs) (.int i) st) Q = WM (atD xs i st) Q := by simp only [wm_p, ws_p]; exact propext ⟨fun h => h, fun h => h⟩
theorem wm_ixL {xs : List D} {i : Int} : WM (dIx (.lst xs) (.int i) st) Q = WM (atD xs i st) Q := by
  simp only [wm_p, ws_p]; exact propext ⟨fun h => h, fun h => h⟩
theorem wm_atD {xs : List D} {i : Int} {j : Nat} {d : D} (h : L2.ixN xs.length i = some j) (h2 : xs[j]? = some d) : WM (atD xs i st) Q = Q d st := by
  unfold atD; simp only [wm_p, ws_p, h, h2, wmp_ret]
theorem ix_nat {n k : Nat} (h : k < n) : L2.ixN n (k : Int) = some k := by
  unfold L2.ixN
  simp [h]
theorem wm_atN {xs : List D} {k : Nat} (h : k < xs.length) : WM (atD xs (k : Int) st) Q = Q xs[k] st := wm_atD (ix_nat h) (List.getElem?_eq_getElem h)
theorem wm_at0 {x : D} {xs : List D} : WM (atD (x :: xs) 0 st) Q = Q x st := wm_atN (k := 0) (by simp)
theorem wm_at1 {x y : D} {xs : List D} : WM (atD (x :: y :: xs) 1 st) Q = Q y st := wm_atN (k := 1) (by simp)
theorem wm_at2 {x y z : D} {xs : List D} : WM (atD (x :: y :: z :: xs) 2 st) Q = Q z st := wm_atN (k := 2) (by simp)
theorem wm_lenT {xs : List D} : WM (dLen (.tup xs) st) Q = Q (.int xs.length) st := by simp only [wm_p, ws_p]; exact propext ⟨fun h => h, fun h => h⟩
theorem wm_lenC {xs : List D} : WM (dLen (.scr xs) st) Q = Q (.int xs.length) st := by simp only [wm_p, ws_p]; exact propext ⟨fun h => h, fun h => h⟩
theorem wm_lenL {xs : List D} : WM (dLen (.lst xs) st) Q = Q (.int xs.length) st := by
  simp only [wm_p, ws_p]; exact propext ⟨fun h => h, fun h => h⟩
theorem wm_lenS {s : List Nat} : WM (dLen (.str s) st) Q = (s.length ≤ LIM ∧ Q (.int s.length) st) := by
  show WM (chk _ _ st) Q = _; rw [wm_chk, decide_eq_true_eq, wm_ret]
theorem wm_f1 {g : D → M D} {x : D} : WM (f1 g [x] st) Q = WM (g x st) Q := by simp only [wm_p, ws_p]; exact propext ⟨fun h => h, fun h => h⟩
theorem wm_f2 {g : D → D → M D} {x y : D} : WM (f2 g [x, y] st) Q = WM (g x y st) Q := by simp only [wm_p, ws_p]; exact propext ⟨fun h => h, fun h => h⟩
theorem wm_tupT {xs : List D} : WM (dTuple (.tup xs) st) Q = Q (.tup xs) st := by simp only [wm_p, ws_p]; exact propext ⟨fun h => h, fun h => h⟩
theorem wm_tupL {xs : List D} : WM (dTuple (.lst xs) st) Q = Q (.tup xs) st := by
  simp only [wm_p, ws_p]; exact propext ⟨fun h => h, fun h => h⟩
theorem wm_listT {xs : List D} : WM (dList (.tup xs) st) Q = Q (.lst xs) st := by simp only [wm_p, ws_p]; exact propext ⟨fun h => h, fun h => h⟩
theorem wm_listL {xs : List D} : WM (dList (.lst xs) st) Q = Q (.lst xs) st := by
  simp only [wm_p, ws_p]; exact propext ⟨fun h => h, fun h => h⟩
theorem wm_kLst {xs : List D} {Q : Unit → Store → Prop} : WM (kLst (.lst xs) st) Q = Q () st := by
  unfold kLst; rw [wm_bnd]; show WM (ret _ _) _ = _; rw [wm_ret, wm_ret]
theorem wm_kStr {s : List Nat} {Q : Unit → Store → Prop} : WM (kStr (.str s) st) Q = Q () st := by simp only [wm_p, ws_p]; exact propext ⟨fun h => h, fun h => h⟩
theorem intsD_map : ∀ xs : List Int, intsD (xs.map D.int) = some xs
  | [] => rfl
  | x :: r => by simp [intsD, intsD_map r]
theorem bls_map : ∀ xs : List Bool, bls (xs.map D.bl) = some xs
  | [] => rfl
  | x :: r => by simp [bls, bls_map r]
theorem strs_map : ∀ xs : List (List Nat), strs' (xs.map D.str) = some xs
  | [] => rfl
  | x :: r => by simp [strs', strs_map r]
theorem wm_sum {xs : List Int} : WM (dSum (.lst (xs.map D.int)) st) Q = Q (.int xs.sum) st := by
  unfold dSum; simp only [wm_p, ws_p, wmp_bnd, lLst, wmp_ret, intsD_map]
theorem wm_all {xs : List Bool} : WM (dAll (.lst (xs.map D.bl)) st) Q = Q (.bl (xs.all id)) st := by
  unfold dAll; simp only [wm_p, ws_p, wmp_bnd, lLst, wmp_ret, bls_map]
theorem wm_any {xs : List Bool} : WM (dAny (.lst (xs.map D.bl)) st) Q = Q (.bl (xs.any id)) st := by
  unfold dAny; simp only [wm_p, ws_p, wmp_bnd, lLst, wmp_ret, bls_map]
theorem wm_join {a : List Nat} {xs : List (List Nat)} : WM (dJoin (.str a) [.lst (xs.map D.str)] st) Q = ((xs.map List.length).sum + xs.length * a.length ≤ LIM ∧ Q (.str (joinS a xs)) st) := by
  unfold dJoin
  simp only [wm_p, ws_p, wmp_bnd, lLst, wmp_ret, strs_map, wmp_chk, decide_eq_true_eq]
theorem wm_itL {xs : List D} {Q : Itm → Store → Prop} : WM (itA (.lst xs) st) Q = Q ⟨xs, always⟩ st := by simp only [wm_p, ws_p]; exact propext ⟨fun h => h, fun h => h⟩
theorem wm_itT {xs : List D} {Q : Itm → Store → Prop} : WM (itA (.tup xs) st) Q = Q ⟨xs, always⟩ st := by simp only [wm_p, ws_p]; exact propext ⟨fun h => h, fun h => h⟩
theorem wm_itS {s : List Nat} {Q : Itm → Store → Prop} : WM (itA (.str s) st) Q = Q ⟨s.map sgn, always⟩ st := by simp only [wm_p, ws_p]; exact propext ⟨fun h => h, fun h => h⟩
theorem wm_r1 {j : Int} {Q : Itm → Store → Prop} : WM (itR1 [.int j] st) Q = (rOk j = true ∧ Q ⟨rngL 0 j.toNat, always⟩ st) := by
  show WM (chk _ _ st) Q = _; rw [wm_chk, wm_ret]
theorem wm_r2 {i j : Int} {Q : Itm → Store → Prop} : WM (itR2 [.int i, .int j] st) Q = ((rOk i && rOk j) = true ∧ Q ⟨rngL i (j - i).toNat, always⟩ st) := by
  show WM (chk _ _ st) Q = _; rw [wm_chk, wm_ret]
theorem wm_enum {xs : List D} {Q : Itm → Store → Prop} : WM (itEnum [.lst xs] st) Q = Q ⟨enumL 0 xs, always⟩ st := by
  simp only [wm_p, ws_p]; exact propext ⟨fun h => h, fun h => h⟩
theorem wm_zip {xs ys : List D} {Q : Itm → Store → Prop} : WM (itZip [.lst xs, .lst ys] st) Q = Q ⟨zipL xs ys, always⟩ st := by
  simp only [wm_p, ws_p]; exact propext ⟨fun h => h, fun h => h⟩
end
end DL

namespace DL
theorem pr_wh {c : Env' → M Bool} {b : MS} (hc : PureE c) (hb : PureS b) : ∀ n : Nat, PureS (whL c b n)
  | 0 => fun ρ => .bad rfl
  | n + 1 => fun ρ => by
    refine pr_sB (hc ρ) fun k => ?_
    cases k with
    | false => exact pr_nx ρ
    | true =>
      refine PureR.congr (fun st hs => ?_) (pr_lp (hb ρ) (pr_wh hc hb n))
      show lpK (b ρ st) (whL c b n) = _
      unfold lpK
      cases b ρ st <;> rfl
theorem ps_wh {i : Nat} {c : Env' → M Bool} {b : MS} (hc : PureE c) (hb : PureS b) : PureS (sWh (fuelN i) c b) := fun ρ =>
  PureR.congr (fun _ _ => rfl) (pr_wh hc hb (fuelN i ρ []) ρ)
theorem pf_iso (m : List D → M D) : PureF (iso m) := fun ds => by
  cases c : D.noL ds with
  | false => exact pu_bad (by unfold iso; rw [c])
  | true =>
    cases q : m ds [] with
    | bad => exact pu_bad (by unfold iso; rw [c]; simp only [q])
    | ok d s =>
      cases s with
      | cons _ _ => exact pu_bad (by unfold iso; rw [c]; simp only [q])
      | nil =>
        have e : ∀ st, iso m ds st = .ok d st := fun st => by unfold iso; rw [c]; simp only [q]
        exact ⟨fun a st' h => (by rw [e] at h; cases h; exact ⟨rfl, fun st _ => e st⟩), fun c st' h => (by rw [e] at h; cases h)⟩
    | exc k s =>
      cases s with
      | cons _ _ => exact pu_bad (by unfold iso; rw [c]; simp only [q])
      | nil =>
        have e : ∀ st, iso m ds st = .exc k st := fun st => by unfold iso; rw [c]; simp only [q]
        exact ⟨fun a st' h => (by rw [e] at h; cases h), fun c st' h => (by rw [e] at h; cases h; exact ⟨rfl, fun st _ => e st⟩)⟩
theorem pu_dRepl {y z : List Nat} : PureF (dRepl y z) := fun d => by
  unfold dRepl
  split
  · exact pu_chk (pu_ret _)
  · exact pu_fail
theorem pu_mV {m : Env' → M Bool} (h : PureE m) : PureE (mV m) := fun ρ => pu_bnd (h ρ) fun b => pu_ret _
theorem pf_const {m : List D → M D} (h : ∀ ds, PureM (m ds)) : PureF m := h
theorem pf_fail : PureF (fun _ : List D => (fail : M D)) := fun _ => pu_fail
/-- a closed run told once -/
theorem wm_pure {α : Type} {m : M α} {a : α} {st : Store} (h : PureM m) (e : m [] = .ok a []) (hn : nhS st = true) {Q : α → Store → Prop} : WM (m st) Q = Q a st := by
  rw [(h.ok a [] e).2 st hn]
  simp only [wm_ok, ws_nx, ws_rt]
theorem wm_pureI {α : Type} {m : M α} {a : α} {st : Store} (h : PureM m) (e : m [] = .ok a []) (hn : nhS st = true) : WM (m st) (Is st a) := by
  rw [wm_pure h e hn]; exact is_rfl
theorem wm_pf {f : List D → M D} (h : PureF f) (ds : List D) {a : D} {st : Store} (e : f ds [] = .ok a []) (hn : nhS st = true) : WM (f ds st) (Is st a) := by
  have q := ((h ds).ok a [] e).2 st hn
  rw [q, wm_ok]
  exact is_rfl
theorem ws_pureN {b : MS} {ρ ρ' : Env'} {st : Store} (h : PureS b) (e : b ρ [] = .nx ρ' []) (hn : nhS st = true) {N : Env' → Store → Prop} {T : D → Store → Prop} : WS (b ρ st) N T = N ρ' st := by
  cases h ρ with
  | nx h0 h1 =>
    rw [h0] at e
    cases e
    rw [h1 st hn]
    simp only [wm_ok, ws_nx, ws_rt]
  | rt h0 h1 => rw [h0] at e; cases e
  | bk h0 h1 => rw [h0] at e; cases e
  | ct h0 h1 => rw [h0] at e; cases e
  | exc h0 h1 => rw [h0] at e; cases e
  | bad h0 => rw [h0] at e; cases e
theorem ws_pureT {b : MS} {ρ : Env'} {d : D} {st : Store} (h : PureS b) (e : b ρ [] = .rt d []) (hn : nhS st = true) {N : Env' → Store → Prop} {T : D → Store → Prop} : WS (b ρ st) N T = T d st := by
  cases h ρ with
  | rt h0 h1 =>
    rw [h0] at e
    cases e
    rw [h1 st hn]
    simp only [wm_ok, ws_nx, ws_rt]
  | nx h0 h1 => rw [h0] at e; cases e
  | bk h0 h1 => rw [h0] at e; cases e
  | ct h0 h1 => rw [h0] at e; cases e
  | exc h0 h1 => rw [h0] at e; cases e
  | bad h0 => rw [h0] at e; cases e
/-! lists of a caller's own at the store's end -/
theorem wm_appE {st : Store} {xs : List D} {d : D} {Q : D → Store → Prop} : WM (dAppend (.cel st.length) [d] (st ++ [.lst xs])) Q = (xs.length + 1 ≤ LIM ∧ Q .non (st ++ [.lst (xs ++ [d])])) := by
  have e : dAppend (.cel st.length) [d] = bnd (celL st.length) fun xs => chk (decide (xs.length + 1 ≤ LIM)) (putC st.length (.lst (xs ++ [d]))) := rfl
  have e2 : celL st.length (st ++ [.lst xs]) = .ok xs (st ++ [.lst xs]) := by unfold celL; simp
  rw [e, wm_bnd, e2, wm_ok, wm_chk, decide_eq_true_eq]
  have e3 : putC st.length (.lst (xs ++ [d])) (st ++ [.lst xs]) = .ok .non (st ++ [.lst (xs ++ [d])]) := by unfold putC; simp
  rw [e3, wm_ok]
theorem wm_kLstE {st : Store} {xs : List D} {Q : Unit → Store → Prop} : WM (kLst (.cel st.length) (st ++ [.lst xs])) Q = Q () (st ++ [.lst xs]) := by
  have e : kLst (.cel st.length) = bnd (lLst (.cel st.length)) fun _ => ret () := rfl
  have e2 : lLst (.cel st.length) (st ++ [.lst xs]) = .ok xs (st ++ [.lst xs]) := by
    simp [lLst]
  rw [e, wm_bnd, e2, wm_ok, wm_ret]
theorem derefE {st : Store} {xs : List D} : deref (.cel st.length) (st ++ [.lst xs]) = .ok (.lst xs) (st ++ [.lst xs]) := by
  simp [deref]
theorem wm_neE {st : Store} {xs : List D} {y : D} (hx : D.dp 60 (.lst xs) = true) (hy : D.dp 60 y = true) {Q : D → Store → Prop} : WM (dNe (.cel st.length) y (st ++ [.lst xs])) Q = Q (.bl (!D.eqv (.lst xs) y)) (st ++ [.lst xs]) := by
  have e : dNe (.cel st.length) y = bnd (deref (.cel st.length)) fun a => bnd (deref y) fun b => chk (D.dp 60 a && D.dp 60 b) (ret (.bl (!D.eqv a b))) := rfl
  rw [e, wm_bnd, derefE, wm_ok, wm_bnd, deref_no hy, wm_ok, wm_chk, hx, hy, wm_ret]
  simp
theorem wm_eqE {st : Store} {xs : List D} {y : D} (hx : D.dp 60 (.lst xs) = true) (hy : D.dp 60 y = true) {Q : D → Store → Prop} : WM (dEq (.cel st.length) y (st ++ [.lst xs])) Q = Q (.bl (D.eqv (.lst xs) y)) (st ++ [.lst xs]) := by
  have e : dEq (.cel st.length) y = bnd (deref (.cel st.length)) fun a => bnd (deref y) fun b => chk (D.dp 60 a && D.dp 60 b) (ret (.bl (D.eqv a b))) := rfl
  rw [e, wm_bnd, derefE, wm_ok, wm_bnd, deref_no hy, wm_ok, wm_chk, hx, hy, wm_ret]
  simp
/-- cells of its own stand behind the elder ones -/
theorem wm_runG {n k : Nat} {b : MS} {ds : List D} {st : Store} {Q : D → Store → Prop} (hl : ds.length = k) (h : WS (b (ds.map some ++ List.replicate (n - k) none) st) (fun _ st' => (∃ g, st' = st ++ g) ∧ Q .non st) (fun d st' => (∃ g, st' = st ++ g) ∧ D.no d = true ∧ Q d st)) : WM (runB true n k b ds st) Q := by
  unfold runB
  rw [decide_eq_true hl]
  show WM (match b (ds.map some ++ List.replicate (n - k) none) st with
      | .nx _ st' => endOk st .non st'
      | .rt d st' => endOk st d st'
      | .exc c _ st' => endEx st c st'
      | _ => .bad) Q
  have fin : ∀ (d : D) (g : Store), D.no d = true → Q d st → WM (endOk st d (st ++ g)) Q := fun d g hd q => by
    unfold endOk
    by_cases hg : (st ++ g).length = st.length
    · have : g = [] := by
        rw [List.length_append] at hg
        exact List.length_eq_zero_iff.mp (by omega)
      subst this
      rw [decide_eq_true hg, List.append_nil]
      show WM (.ok _ _) Q
      rw [wm_ok]
      exact q
    · rw [decide_eq_false hg, clean_app]
      have : frz (st ++ g) st.length d = some d := by unfold frz; rw [hd]
      rw [this]
      show WM (.ok d ((st ++ g).take st.length)) Q
      rw [wm_ok, List.take_left]
      exact q
  cases q : b (ds.map some ++ List.replicate (n - k) none) st with
  | nx ρ st' =>
    rw [q, ws_nx] at h
    obtain ⟨⟨g, rfl⟩, h2⟩ := h
    exact fin .non g rfl h2
  | rt d st' =>
    rw [q, ws_rt] at h
    obtain ⟨⟨g, rfl⟩, h2, h3⟩ := h
    exact fin d g h2 h3
  | _ => rw [q] at h; simp only [ws_bk, ws_ct, ws_exc, ws_bad] at h
/-- one statement after another, by what holds between -/
theorem ws_cut {a b : MS} {ρ : Env'} {st : Store} {N : Env' → Store → Prop} {T : D → Store → Prop} (P : Env' → Store → Prop) (h1 : WS (a ρ st) P T) (h2 : ∀ ρ1 st1, P ρ1 st1 → WS (b ρ1 st1) N T) : WS (sSeq a b ρ st) N T := by
  rw [ws_seq]
  exact h1.imp h2 fun _ _ h => h
/-- the end of a law -/
theorem law_end {n : Nat} {b : MS} {d : D} (h : WS (b ([d].map some ++ List.replicate (n - 1) none) []) (fun _ _ => False) (fun r _ => r = .bl true)) : ∃ st', runB true n 1 b [d] [] = .ok (.bl true) st' := by
  have q : WM (runB true n 1 b [d] []) (fun r _ => r = .bl true) := by
    unfold runB
    rw [decide_eq_true (show [d].length = 1 from rfl)]
    show WM (match b ([d].map some ++ List.replicate (n - 1) none) [] with
      | .nx _ st' => endOk [] .non st'
      | .rt d st' => endOk [] d st'
      | .exc c _ st' => endEx [] c st'
      | _ => .bad) _
    cases q : b ([d].map some ++ List.replicate (n - 1) none) [] with
    | nx ρ st' => rw [q, ws_nx] at h; exact h.elim
    | rt d st' =>
      rw [q, ws_rt] at h
      subst h
      show WM (endOk [] (.bl true) st') _
      unfold endOk
      cases c : decide (st'.length = ([] : Store).length) with
      | true => show WM (.ok _ _) _; rw [wm_ok]
      | false => show WM (.ok _ _) _; rw [wm_ok]
    | _ => rw [q] at h; simp only [ws_bk, ws_ct, ws_exc, ws_bad] at h
  obtain ⟨a, st', e, rfl⟩ := q.eq
  exact ⟨st', e⟩
end DL

namespace DL
end DL
local macro_rules | `(tactic| contradiction) => `(tactic| first | with_reducible exact DL.pu_vr _ | with_reducible exact DL.pu_cst _ | with_reducible exact DL.pu_mNil | with_reducible exact DL.pu_oNo | with_reducible exact DL.pu_yes | with_reducible exact DL.pug_gNm _ | with_reducible exact DL.pug_nil | with_reducible exact DL.ps_nx | with_reducible exact DL.ps_brk | with_reducible exact DL.ps_cnt | with_reducible exact DL.ps_retN | with_reducible exact DL.ps_raise _ | with_reducible exact DL.pu_dAdd | with_reducible exact DL.pu_dSub | with_reducible exact DL.pu_dMulX | with_reducible exact DL.pu_dMul | with_reducible exact DL.pu_dMod | with_reducible exact DL.pu_dFdiv | with_reducible exact DL.pu_dPow | with_reducible exact DL.pu_dShl | with_reducible exact DL.pu_dShr | with_reducible exact DL.pu_dEq | with_reducible exact DL.pu_dNe | with_reducible exact DL.pu_dLt | with_reducible exact DL.pu_dLe | with_reducible exact DL.pu_dGt | with_reducible exact DL.pu_dGe | with_reducible exact DL.pu_dMax | with_reducible exact DL.pu_dMin | with_reducible exact DL.pu_dInG _ | with_reducible exact DL.pu_dIx | with_reducible exact DL.pu_dCut | with_reducible exact DL.pu_dNeg | with_reducible exact DL.pu_dAbs | with_reducible exact DL.pu_dInt1 | with_reducible exact DL.pu_dStr1 | with_reducible exact DL.pu_dLen | with_reducible exact DL.pu_dTuple | with_reducible exact DL.pu_dList | with_reducible exact DL.pu_dSum | with_reducible exact DL.pu_dAll | with_reducible exact DL.pu_dAny | with_reducible exact DL.pu_kLst | with_reducible exact DL.pu_kStr | with_reducible exact DL.pu_dJoin | with_reducible exact DL.pu_dIndex | with_reducible exact DL.pu_dIsN | with_reducible exact DL.pu_dNotN | with_reducible exact DL.pu_dIsStr | with_reducible exact DL.pu_dIsInt | with_reducible exact DL.pu_dIsBool | with_reducible exact DL.pu_dIsTup | with_reducible exact DL.pu_dRev | with_reducible exact DL.pui_itR1 | with_reducible exact DL.pui_itR2 | with_reducible exact DL.pui_itR3 | with_reducible exact DL.pui_itEnum | with_reducible exact DL.pui_itZip | with_reducible apply DL.pu_m2 | with_reducible apply DL.pu_m1 | with_reducible apply DL.pu_mB | with_reducible apply DL.pu_mAnd | with_reducible apply DL.pu_mOr | with_reducible apply DL.pu_mNot | with_reducible apply DL.pu_mIf | with_reducible apply DL.pu_vAnd | with_reducible apply DL.pu_vOr | with_reducible apply DL.pu_vNot | with_reducible apply DL.pu_mCons | with_reducible apply DL.pu_mTup | with_reducible apply DL.pu_mLst | with_reducible apply DL.pu_mCall | with_reducible apply DL.pu_mCall0 | with_reducible apply DL.pu_mFn | with_reducible apply DL.pu_f1 | with_reducible apply DL.pu_f2 | with_reducible apply DL.pu_mMeth | with_reducible apply DL.pu_mCut | with_reducible apply DL.pu_oAt | with_reducible apply DL.pu_mChain | with_reducible apply DL.pui_mIt | with_reducible apply DL.pui_mItL | with_reducible apply DL.pu_mComp | with_reducible apply DL.ps_seq | with_reducible apply DL.ps_expr | with_reducible apply DL.ps_ret | with_reducible apply DL.ps_if | with_reducible apply DL.ps_asg | with_reducible apply DL.ps_par | with_reducible apply DL.pug_tp | with_reducible apply DL.pug_cons | with_reducible apply DL.ps_for | with_reducible apply DL.ps_try | with_reducible apply DL.ps_wh | with_reducible exact DL.pu_dRepl | with_reducible exact DL.pf_iso _ | with_reducible apply DL.pu_mV | with_reducible apply DL.pf_runB | with_reducible apply DL.pu_mLam | with_reducible apply DL.pu_mHof | with_reducible assumption)

namespace DL
end DL
local macro_rules | `(tactic| and_intros) => `(tactic| simp only [DL.ws_seq, DL.ws_asg, DL.ws_if, DL.ws_ret, DL.ws_retN, DL.ws_sNx, DL.ws_expr, DL.ws_for, DL.ws_par, DL.ws_wh, DL.ws_forN, DL.wm_ret, DL.wm_ok, DL.wm_bnd, DL.wm_chk, DL.wm_noEx, DL.vr_s, DL.wm_vr0, DL.wm_cst, DL.wm_m2, DL.wm_m1, DL.wm_asB, DL.wm_mB, DL.wm_mNot, DL.wm_mAnd, DL.wm_mOr, DL.wm_mIf, DL.wm_mV, DL.wm_vAnd, DL.wm_vOr, DL.wm_vNot, DL.wm_mNil, DL.wm_mCons, DL.wm_mTup, DL.wm_mLst, DL.wm_mCel, DL.wm_newCell, DL.wm_mCall, DL.wm_mCall0, DL.wm_iso, DL.wm_mFn, DL.wm_mMeth, DL.wm_oNo, DL.wm_oAt, DL.wm_mCut, DL.wm_mChain, DL.wm_mIt, DL.wm_mItL, DL.wm_yes, DL.wm_mComp, DL.wm_cmpN, DL.wm_gNm, DL.wm_gTp, DL.wm_gLN, DL.wm_gLC, DL.wm_gSub, DL.wm_addI, DL.wm_addS, DL.wm_addT, DL.wm_addL, DL.wm_sub, DL.wm_mul, DL.wm_mulL, DL.wm_mod, DL.wm_fdiv, DL.wm_pow, DL.wm_shl, DL.wm_shr, DL.wm_lt, DL.wm_le, DL.wm_gt, DL.wm_ge, DL.wm_neg, DL.wm_abs, DL.wm_max, DL.wm_min, DL.wm_isNN, DL.wm_notNN, DL.wm_int1, DL.wm_int1b, DL.wm_eqI, DL.wm_neI, DL.wm_eqS, DL.wm_neS, DL.wm_eqB, DL.wm_ixT, DL.wm_ixL, DL.wm_ixC, DL.wm_at0, DL.wm_at1, DL.wm_at2, DL.wm_lenT, DL.wm_lenL, DL.wm_lenC, DL.wm_lenS, DL.wm_f1, DL.wm_f2, DL.wm_tupT, DL.wm_tupL, DL.wm_listT, DL.wm_listL, DL.wm_kLst, DL.wm_kStr, DL.wm_sum, DL.wm_all, DL.wm_any, DL.wm_join, DL.wm_itL, DL.wm_itT, DL.wm_itS, DL.wm_r1, DL.wm_r2, DL.wm_enum, DL.wm_zip, DL.dIsInt, DL.dIsBool, DL.dIsStr, DL.dIsTup, DL.dIsN, DL.dNotN, DL.sgn, DL.D.no, DL.D.noL, Bool.and_self, Bool.and_true, Bool.true_and, List.map_cons, List.map_nil, List.length_cons, List.length_nil, List.cons_append, List.nil_append, List.set_cons_zero, List.set_cons_succ, List.set_nil, List.replicate_succ, List.replicate_zero, if_true, if_false, true_and, and_true, decide_true, decide_false, Bool.not_true, Bool.not_false, Bool.false_eq_true, DL.wipeE, Nat.reduceSub, Nat.reduceAdd])

namespace MM
open PySem DL
def b_common_of : MS := (sSeq (sPar 0 1 (mCons (mFn (f1 dAbs) (mCons (vr 0) mNil)) (mCons (mFn (f1 dAbs) (mCons (vr 1) mNil)) mNil)))
  (sSeq (sWh (fuelN 1) (mB (m2 dGt (vr 1) (cst (.int 0)))) (sPar 0 1 (mCons (vr 1) (mCons (m2 dMod (vr 0) (vr 1)) mNil))))
  (sRet (vr 0))))
def m_common_of : List D → M D := runB true 2 2 (b_common_of)

def b_is_whole : MS := (sRet (vAnd (m1 dIsInt (vr 0)) (vAnd (vNot (m1 dIsBool (vr 0))) (mChain dLe dLe (vr 1) (vr 0) (vr 2)))))
def m_is_whole : List D → M D := runB true 3 3 (b_is_whole)

def b_is_part : MS := (sSeq (sIf (mOr (mNot (mB (m1 dIsTup (vr 0)))) (mOr (mB (m2 dNe (mFn (f1 dLen) (mCons (vr 0) mNil)) (cst (.int 2)))) (mNot (mB (mCall 3 (iso m_is_whole) (mCons (m2 dIx (vr 0) (cst (.int 1))) (mCons (cst (.int 1)) (mCons (vr 1) mNil)))))))) (sRet (cst (.bl false))) sNx)
  (sRet (vAnd (mCall 3 (iso m_is_whole) (mCons (m2 dIx (vr 0) (cst (.int 0))) (mCons (cst (.int 0)) (mCons (m2 dIx (vr 0) (cst (.int 1))) mNil)))) (m2 dEq (mCall 2 (iso m_common_of) (mCons (m2 dIx (vr 0) (cst (.int 0))) (mCons (m2 dIx (vr 0) (cst (.int 1))) mNil))) (cst (.int 1))))))
def m_is_part : List D → M D := runB true 2 2 (b_is_part)

def b_is_good : MS := (sRet (vAnd (m1 dIsStr (vr 0)) (vAnd (m2 dLe (mFn (f1 dLen) (mCons (vr 0) mNil)) (cst (.int 5))) (mFn (f1 dAll) (mCons (mComp [1] (.nm 1) (mIt (vr 0)) yes (m2 dIn (vr 1) (mTup (mCons (cst (.str [45])) (mCons (cst (.str [43])) mNil))))) mNil)))))
def m_is_good : List D → M D := runB true 2 1 (b_is_good)

def b_need_signs : MS := (sIf (mNot (mB (mCall 1 (iso m_is_good) (mCons (vr 0) mNil)))) (sRaise 0) sNx)
def m_need_signs : List D → M D := runB true 1 1 (b_need_signs)

def b_need_chance : MS := (sIf (mNot (mB (mCall 2 (iso m_is_part) (mCons (vr 0) (mCons (cst (.int 1000)) mNil))))) (sRaise 1) sNx)
def m_need_chance : List D → M D := runB true 1 1 (b_need_chance)

def b_need_steps : MS := (sIf (mNot (mB (mCall 3 (iso m_is_whole) (mCons (vr 0) (mCons (cst (.int 0)) (mCons (vr 1) mNil)))))) (sRaise 2) sNx)
def m_need_steps : List D → M D := runB true 2 2 (b_need_steps)

def b_made_loss : MS := (sSeq (sAsg (vr 1) (gTp [(gNm 3), (gNm 4)]))
  (sSeq (sFor (mIt (vr 0)) (gNm 2) (sPar 3 4 (mCons (mIf (mB (m2 dEq (vr 2) (cst (.str [43])))) (m2 dMulX (vr 3) (vr 3)) (m2 dSub (m2 dMulX (m2 dMulX (cst (.int 2)) (vr 3)) (vr 4)) (m2 dMulX (vr 3) (vr 3)))) (mCons (m2 dMulX (vr 4) (vr 4)) mNil))))
  (sRet (mTup (mCons (vr 3) (mCons (vr 4) mNil))))))
def m_made_loss : List D → M D := runB true 5 2 (b_made_loss)

def b_joined : MS := (sSeq (sAsg (mLst mNil) (gNm 2))
  (sSeq (sFor (mItL itR1 (mCons (m2 dSub (m2 dAdd (mFn (f1 dLen) (mCons (vr 0) mNil)) (mFn (f1 dLen) (mCons (vr 1) mNil))) (cst (.int 1))) mNil)) (gNm 3) (sSeq (sAsg (mComp [5] (.nm 5) (mItL itR1 (mCons (mFn (f1 dLen) (mCons (vr 0) mNil)) mNil)) (mB (mChain dLe dLt (cst (.int 0)) (m2 dSub (vr 3) (vr 5)) (mFn (f1 dLen) (mCons (vr 1) mNil)))) (vr 5)) (gNm 4))
  (sAsg (m2 dAdd (vr 2) (mLst (mCons (mFn (f1 dSum) (mCons (mComp [5] (.nm 5) (mIt (vr 4)) yes (m2 dMulX (m2 dIx (vr 0) (vr 5)) (m2 dIx (vr 1) (m2 dSub (vr 3) (vr 5))))) mNil)) mNil))) (gNm 2))))
  (sRet (vr 2))))
def m_joined : List D → M D := runB true 6 2 (b_joined)

def b_made_polynomial : MS := (sSeq (sAsg (mLst (mCons (cst (.int 0)) (mCons (cst (.int 1)) mNil))) (gNm 1))
  (sSeq (sFor (mIt (vr 0)) (gNm 2) (sSeq (sAsg (mCall 2 (iso m_joined) (mCons (vr 1) (mCons (vr 1) mNil))) (gNm 3))
  (sSeq (sAsg (m2 dAdd (mComp [5] (.nm 5) (mIt (vr 1)) yes (m2 dMulX (cst (.int 2)) (vr 5))) (m2 dMulX (mLst (mCons (cst (.int 0)) mNil)) (m2 dSub (mFn (f1 dLen) (mCons (vr 3) mNil)) (mFn (f1 dLen) (mCons (vr 1) mNil))))) (gNm 4))
  (sAsg (mIf (mB (m2 dEq (vr 2) (cst (.str [43])))) (vr 3) (mComp [6, 7] (.tp [6, 7]) (mItL itZip (mCons (vr 4) (mCons (vr 3) mNil))) yes (m2 dSub (vr 6) (vr 7)))) (gNm 1)))))
  (sRet (vr 1))))
def m_made_polynomial : List D → M D := runB true 8 1 (b_made_polynomial)

def b_number_by : MS := (sSeq (sAsg (cst (.int 0)) (gNm 1))
  (sSeq (sFor (mIt (vr 0)) (gNm 2) (sAsg (m2 dAdd (m2 dMulX (cst (.int 2)) (vr 1)) (mIf (mB (m2 dEq (vr 2) (cst (.str [43])))) (cst (.int 1)) (cst (.int 0)))) (gNm 1)))
  (sRet (vr 1))))
def m_number_by : List D → M D := runB true 3 1 (b_number_by)

def b_signs_by : MS := (sRet (mMeth kStr dJoin (cst (.str [])) (mCons (mComp [2] (.nm 2) (mItL itR1 (mCons (vr 0) mNil)) yes (mIf (mB (m2 dEq (m2 dMod (m2 dShr (vr 1) (m2 dSub (m2 dSub (vr 0) (cst (.int 1))) (vr 2))) (cst (.int 2))) (cst (.int 1)))) (cst (.str [43])) (cst (.str [45])))) mNil)))
def m_signs_by : List D → M D := runB true 3 2 (b_signs_by)

def b_all_signs : MS := (sRet (mComp [1] (.nm 1) (mItL itR1 (mCons (m2 dShl (cst (.int 1)) (vr 0)) mNil)) yes (mCall 2 (iso m_signs_by) (mCons (vr 0) (mCons (vr 1) mNil)))))
def m_all_signs : List D → M D := runB true 2 1 (b_all_signs)

def b_is_within : MS := (sRet (vAnd (m2 dLe (m2 dMulX (m2 dIx (vr 1) (cst (.int 0))) (m2 dIx (vr 0) (cst (.int 1)))) (m2 dMulX (m2 dIx (vr 0) (cst (.int 0))) (m2 dIx (vr 1) (cst (.int 1))))) (m2 dLe (m2 dMulX (m2 dIx (vr 0) (cst (.int 0))) (m2 dIx (vr 2) (cst (.int 1)))) (m2 dMulX (m2 dIx (vr 2) (cst (.int 0))) (m2 dIx (vr 0) (cst (.int 1)))))))
def m_is_within : List D → M D := runB true 3 3 (b_is_within)

def b_is_signs : MS := (sRet (mCall 1 (iso m_is_good) (mCons (vr 0) mNil)))
def m_is_signs : List D → M D := runB true 1 1 (b_is_signs)

def b_loss : MS := (sSeq (sExpr (mCall 1 (iso m_need_signs) (mCons (vr 0) mNil)))
  (sSeq (sExpr (mCall 1 (iso m_need_chance) (mCons (vr 1) mNil)))
  (sRet (mCall 2 (iso m_made_loss) (mCons (vr 0) (mCons (vr 1) mNil))))))
def m_loss : List D → M D := runB true 2 2 (b_loss)

def b_polynomial : MS := (sSeq (sExpr (mCall 1 (iso m_need_signs) (mCons (vr 0) mNil)))
  (sRet (mFn (f1 dTuple) (mCons (mCall 1 (iso m_made_polynomial) (mCons (vr 0) mNil)) mNil))))
def m_polynomial : List D → M D := runB true 1 1 (b_polynomial)

def b_number_of : MS := (sSeq (sExpr (mCall 1 (iso m_need_signs) (mCons (vr 0) mNil)))
  (sRet (mCall 1 (iso m_number_by) (mCons (vr 0) mNil))))
def m_number_of : List D → M D := runB true 1 1 (b_number_of)

def b_signs_of : MS := (sSeq (sExpr (mCall 2 (iso m_need_steps) (mCons (vr 0) (mCons (cst (.int 5)) mNil))))
  (sSeq (sIf (mNot (mB (mCall 3 (iso m_is_whole) (mCons (vr 1) (mCons (cst (.int 0)) (mCons (m2 dSub (m2 dShl (cst (.int 1)) (vr 0)) (cst (.int 1))) mNil)))))) (sRaise 2) sNx)
  (sRet (mCall 2 (iso m_signs_by) (mCons (vr 0) (mCons (vr 1) mNil))))))
def m_signs_of : List D → M D := runB true 2 2 (b_signs_of)

def b_losses : MS := (sSeq (sExpr (mCall 2 (iso m_need_steps) (mCons (vr 0) (mCons (cst (.int 5)) mNil))))
  (sSeq (sExpr (mCall 1 (iso m_need_chance) (mCons (vr 1) mNil)))
  (sRet (mComp [2] (.nm 2) (mIt (mCall 1 (iso m_all_signs) (mCons (vr 0) mNil))) yes (mCall 2 (iso m_made_loss) (mCons (vr 2) (mCons (vr 1) mNil)))))))
def m_losses : List D → M D := runB true 3 2 (b_losses)

def b_count_between : MS := (sSeq (sExpr (mCall 2 (iso m_need_steps) (mCons (vr 0) (mCons (cst (.int 5)) mNil))))
  (sSeq (sExpr (mCall 1 (iso m_need_chance) (mCons (vr 1) mNil)))
  (sSeq (sFor (mIt (mTup (mCons (vr 2) (mCons (vr 3) mNil)))) (gNm 4) (sIf (mNot (mB (mCall 2 (iso m_is_part) (mCons (vr 4) (mCons (cst (.int 1000000000000000000000000000000)) mNil))))) (sRaise 1) sNx))
  (sRet (mFn (f1 dLen) (mCons (mComp [5] (.nm 5) (mIt (mCall 1 (iso m_all_signs) (mCons (vr 0) mNil))) (mB (mCall 3 (iso m_is_within) (mCons (mCall 2 (iso m_made_loss) (mCons (vr 5) (mCons (vr 1) mNil))) (mCons (vr 2) (mCons (vr 3) mNil))))) (vr 5)) mNil))))))
def m_count_between : List D → M D := runB true 6 4 (b_count_between)

def b__law_vat : MS := (sSeq (sAsg (m2 dAdd (m2 dMulX (cst (.int 7919)) (vr 1)) (cst (.int 43))) (gNm 2))
  (sSeq (sIf (mB (m2 dLt (vr 1) (mFn (f1 dLen) (mCons (vr 0) mNil)))) (sAsg (mFn (f1 dAbs) (mCons (mFn (f1 dInt1) (mCons (m2 dIx (vr 0) (vr 1)) mNil)) mNil)) (gNm 2)) sNx)
  (sRet (mCel (mCons (mIf (mB (m2 dGe (vr 2) (m2 dPow (cst (.int 10)) (cst (.int 18))))) (vr 2) (cst (.int 0))) (mCons (m2 dAdd (m2 dMod (mFn (f1 dInt1) (mCons (m2 dAdd (m2 dAdd (m2 dMulX (vr 2) (cst (.int 131071))) (m2 dMulX (cst (.int 8191)) (vr 1))) (cst (.int 5))) mNil)) (cst (.int 2147483629))) (cst (.int 1))) mNil))))))
def m__law_vat : List D → M D := runB false 3 2 (b__law_vat)

def b__law_under : MS := (sSeq (sIf (mB (m2 dGt (m2 dIx (vr 0) (cst (.int 0))) (cst (.int 0)))) (sSeq (sAsg (m2 dMod (mFn (f1 dInt1) (mCons (m2 dIx (vr 0) (cst (.int 0))) mNil)) (vr 1)) (gNm 3))
  (sSeq (sAsg (m2 dFdiv (m2 dIx (vr 0) (cst (.int 0))) (vr 1)) (gSubX (vr 0) (cst (.int 0))))
  (sRet (vr 3)))) sNx)
  (sSeq (sAsg (m2 dMod (mFn (f1 dInt1) (mCons (m2 dAdd (m2 dMulX (m2 dIx (vr 0) (cst (.int 1))) (cst (.int 39373))) (cst (.int 101))) mNil)) (cst (.int 2147483629))) (gSubX (vr 0) (cst (.int 1))))
  (sSeq (sAsg (m2 dMod (mFn (f1 dInt1) (mCons (m2 dMulX (m2 dIx (vr 0) (cst (.int 1))) (m2 dAdd (m2 dFdiv (m2 dIx (vr 0) (cst (.int 1))) (cst (.int 5))) (cst (.int 9)))) mNil)) (cst (.int 2147483587))) (gNm 2))
  (sRet (m2 dMod (mFn (f1 dInt1) (mCons (m2 dFdiv (vr 2) (cst (.int 32))) mNil)) (vr 1))))))
def m__law_under : List D → M D := runB true 4 2 (b__law_under)

def b__law_some : MS := (sRet (m2 dIx (vr 1) (mCall 2 m__law_under (mCons (vr 0) (mCons (mFn (f1 dLen) (mCons (vr 1) mNil)) mNil)))))
def m__law_some : List D → M D := runB true 2 2 (b__law_some)

def b__law_truly : MS := (sRet (vAnd (m1 dIsBool (vr 0)) (m2 dEq (vr 0) (vr 1))))
def m__law_truly : List D → M D := runB true 2 2 (b__law_truly)

def b__law_gcd : MS := (sSeq (sWh (fuelN 1) (mB (m2 dNe (vr 1) (cst (.int 0)))) (sPar 0 1 (mCons (vr 1) (mCons (m2 dMod (vr 0) (vr 1)) mNil))))
  (sRet (mFn (f1 dAbs) (mCons (vr 0) mNil))))
def m__law_gcd : List D → M D := runB true 2 2 (b__law_gcd)

def b__law_low : MS := (sSeq (sAsg (mCall 2 (iso m__law_gcd) (mCons (vr 0) (mCons (vr 1) mNil))) (gNm 2))
  (sRet (mTup (mCons (m2 dFdiv (vr 0) (vr 2)) (mCons (m2 dFdiv (vr 1) (vr 2)) mNil)))))
def m__law_low : List D → M D := runB true 3 2 (b__law_low)

def b__law_loss : MS := (sSeq (sPar 3 4 (mCons (m2 dIx (vr 1) (cst (.int 0))) (mCons (m2 dSub (m2 dIx (vr 1) (cst (.int 1))) (m2 dIx (vr 1) (cst (.int 0)))) mNil)))
  (sSeq (sFor (mIt (vr 0)) (gNm 2) (sSeq (sAsg (m2 dMulX (m2 dAdd (vr 3) (vr 4)) (m2 dAdd (vr 3) (vr 4))) (gNm 5))
  (sIf (mB (m2 dEq (vr 2) (cst (.str [43])))) (sPar 3 4 (mCons (m2 dMulX (vr 3) (vr 3)) (mCons (m2 dSub (vr 5) (m2 dMulX (vr 3) (vr 3))) mNil))) (sPar 3 4 (mCons (m2 dSub (vr 5) (m2 dMulX (vr 4) (vr 4))) (mCons (m2 dMulX (vr 4) (vr 4)) mNil))))))
  (sRet (mCall 2 (iso m__law_low) (mCons (vr 3) (mCons (m2 dAdd (vr 3) (vr 4)) mNil))))))
def m__law_loss : List D → M D := runB true 6 2 (b__law_loss)

def b__law_less : MS := (sRet (m2 dLe (m2 dMulX (m2 dIx (vr 0) (cst (.int 0))) (m2 dIx (vr 1) (cst (.int 1)))) (m2 dMulX (m2 dIx (vr 1) (cst (.int 0))) (m2 dIx (vr 0) (cst (.int 1))))))
def m__law_less : List D → M D := runB true 2 2 (b__law_less)

def b__law_every : MS := (sSeq (sAsg (mLst (mCons (cst (.str [])) mNil)) (gNm 1))
  (sSeq (sFor (mItL itR1 (mCons (vr 0) mNil)) (gNm 2) (sSeq (sAsg (mLst mNil) (gNm 3))
  (sSeq (sFor (mIt (vr 1)) (gNm 4) (sAsg (m2 dAdd (vr 3) (mLst (mCons (m2 dAdd (vr 4) (cst (.str [45]))) (mCons (m2 dAdd (vr 4) (cst (.str [43]))) mNil)))) (gNm 3)))
  (sAsg (vr 3) (gNm 1)))))
  (sRet (vr 1))))
def m__law_every : List D → M D := runB true 5 1 (b__law_every)

def b__law_chance : MS := (sSeq (sAsg (mCall 2 m__law_some (mCons (vr 0) (mCons (mLst (mCons (cst (.int 1)) (mCons (cst (.int 2)) (mCons (cst (.int 3)) (mCons (cst (.int 4)) (mCons (cst (.int 5)) (mCons (cst (.int 7)) (mCons (cst (.int 10)) (mCons (cst (.int 100)) (mCons (cst (.int 1000)) (mCons (cst (.int 997)) mNil))))))))))) mNil))) (gNm 1))
  (sRet (mCall 2 (iso m__law_low) (mCons (mCall 2 m__law_under (mCons (vr 0) (mCons (m2 dAdd (vr 1) (cst (.int 1))) mNil))) (mCons (vr 1) mNil)))))
def m__law_chance : List D → M D := runB true 2 1 (b__law_chance)

def b__law_signs : MS := (sRet (mMeth kStr dJoin (cst (.str [])) (mCons (mComp [2] (.nm 2) (mItL itR1 (mCons (mCall 2 m__law_under (mCons (vr 0) (mCons (m2 dAdd (vr 1) (cst (.int 1))) mNil))) mNil)) yes (mCall 2 m__law_some (mCons (vr 0) (mCons (mLst (mCons (cst (.str [45])) (mCons (cst (.str [43])) mNil))) mNil)))) mNil)))
def m__law_signs : List D → M D := runB true 3 2 (b__law_signs)

def b__law_spoilt (rec : List D → M D) : MS := (sSeq (sIf (mAnd (mB (m1 dIsTup (vr 1))) (mAnd (mB (m2 dNe (vr 1) (mTup mNil))) (mB (m2 dGt (mCall 2 m__law_under (mCons (vr 0) (mCons (cst (.int 4)) mNil))) (cst (.int 0)))))) (sSeq (sAsg (mCall 2 m__law_under (mCons (vr 0) (mCons (mFn (f1 dLen) (mCons (vr 1) mNil)) mNil))) (gNm 3))
  (sRet (m2 dAdd (m2 dAdd (mCut (vr 1) oNo (oAt (vr 3))) (mTup (mCons (mCall 2 rec (mCons (vr 0) (mCons (m2 dIx (vr 1) (vr 3)) mNil))) mNil))) (mCut (vr 1) (oAt (m2 dAdd (vr 3) (cst (.int 1)))) oNo)))) sNx)
  (sSeq (sAsg (mCall 2 m__law_under (mCons (vr 0) (mCons (cst (.int 6)) mNil))) (gNm 2))
  (sSeq (sIf (mB (m1 dIsTup (vr 1))) (sRet (m2 dIx (mLst (mCons (mFn (f1 dList) (mCons (vr 1) mNil)) (mCons (mCut (vr 1) (oAt (cst (.int 1))) oNo) (mCons (m2 dAdd (vr 1) (mCut (vr 1) (oAt (m1 dNeg (cst (.int 1)))) oNo)) (mCons (mCut (vr 1) oNo (oAt (m1 dNeg (cst (.int 1))))) (mCons (cst .non) (mCons (mTup (mCons (vr 1) (mCons (vr 1) mNil))) mNil))))))) (vr 2))) sNx)
  (sSeq (sIf (mB (m1 dIsStr (vr 1))) (sRet (m2 dIx (mLst (mCons (m2 dAdd (vr 1) (cst (.str [45]))) (mCons (m2 dAdd (cst (.str [42])) (vr 1)) (mCons (mCut (vr 1) (oAt (cst (.int 1))) oNo) (mCons (m2 dAdd (vr 1) (cst (.str [43, 45, 43]))) (mCons (cst (.int 3)) (mCons (m1 (dRepl [45] [43]) (vr 1)) mNil))))))) (vr 2))) sNx)
  (sSeq (sIf (mB (m1 dIsInt (vr 1))) (sRet (m2 dIx (mLst (mCons (m2 dAdd (vr 1) (cst (.int 1))) (mCons (m2 dSub (vr 1) (cst (.int 1))) (mCons (cst (.int 4)) (mCons (cst (.bl true)) (mCons (cst .non) (mCons (cst (.str [45])) mNil))))))) (vr 2))) sNx)
  (sRet (cst .non)))))))
def m__law_spoilt : Nat → List D → M D
  | 0 => fun _ => fail
  | n + 1 => runB true 4 2 (b__law_spoilt (m__law_spoilt n))

def nmT : Nat → List Nat
  | 0 => [115, 105, 103, 110, 115, 32, 118, 97, 108, 117, 101]
  | 1 => [99, 104, 97, 110, 99, 101, 32, 118, 97, 108, 117, 101]
  | 2 => [110, 117, 109, 98, 101, 114, 32, 118, 97, 108, 117, 101]
  | 3 => [99, 111, 100, 101, 32, 118, 97, 108, 117, 101]
  | 4 => [100, 97, 116, 97, 32, 118, 97, 108, 117, 101]
  | 5 => [115, 101, 101, 110, 32, 118, 97, 108, 117, 101]
  | 6 => [108, 111, 115, 116, 32, 118, 97, 108, 117, 101]
  | 7 => [116, 97, 98, 108, 101, 32, 118, 97, 108, 117, 101]
  | 8 => [102, 97, 99, 116, 115, 32, 118, 97, 108, 117, 101]
  | 9 => [115, 104, 97, 114, 101, 32, 118, 97, 108, 117, 101]
  | 10 => [112, 108, 97, 99, 101, 32, 118, 97, 108, 117, 101]
  | 11 => [115, 105, 103, 110, 32, 118, 97, 108, 117, 101]
  | 12 => [116, 101, 120, 116, 32, 118, 97, 108, 117, 101]
  | 13 => [109, 105, 115, 102, 105, 116, 32, 118, 97, 108, 117, 101]
  | 14 => [117, 110, 108, 105, 107, 101, 32, 118, 97, 108, 117, 101]
  | 15 => [117, 110, 100, 111, 32, 118, 97, 108, 117, 101]
  | _ => []

def b__law_error (act : Env' → M D) : MS := (sSeq (sTry 16 1 (sExpr act) (fun j => D.str (nmT j)))
  (sRet (cst (.str []))))

def b__law_all_refused (mf : List D → M D) : MS := (sRet (m2 dEq (mComp [3] (.nm 3) (mIt (vr 1)) (mB (m2 dNe (mLam 2 b__law_error (mHof 0 mf (mCons (vr 3) mNil))) (vr 2))) (vr 3)) (mLst mNil)))
def m__law_all_refused (mf : List D → M D) : List D → M D := runB true 4 3 (b__law_all_refused mf)

def b__law_bad_signs : MS := (sRet (mLst (mCons (cst .non) (mCons (cst (.str [42])) (mCons (cst (.str [43, 43, 43, 43, 43, 43])) (mCons (cst (.int 0)) (mCons (mTup (mCons (cst (.str [45])) mNil)) (mCons (mLst (mCons (cst (.str [43])) mNil)) (mCons (cst (.str [43, 32, 45])) (mCons (cst (.str [48])) mNil))))))))))
def m__law_bad_signs : List D → M D := runB true 0 0 (b__law_bad_signs)

def b__law_bad_chances : MS := (sRet (mLst (mCons (cst .non) (mCons (mTup (mCons (cst (.int 1)) (mCons (cst (.int 0)) mNil))) (mCons (mTup (mCons (cst (.int 2)) (mCons (cst (.int 4)) mNil))) (mCons (mTup (mCons (cst (.int 3)) (mCons (cst (.int 2)) mNil))) (mCons (mTup (mCons (m1 dNeg (cst (.int 1))) (mCons (cst (.int 2)) mNil))) (mCons (mLst (mCons (cst (.int 1)) (mCons (cst (.int 2)) mNil))) (mCons (mTup (mCons (cst (.int 1)) (mCons (cst (.int 1001)) mNil))) (mCons (mTup (mCons (cst (.int 1)) (mCons (cst (.int 2)) (mCons (cst (.int 3)) mNil)))) (mCons (mTup (mCons (cst (.bl true)) (mCons (cst (.int 1)) mNil))) (mCons (mTup (mCons (cst (.int 0)) (mCons (cst (.int 2)) mNil))) (mCons (cst (.int 0)) (mCons (cst (.str [49, 47, 50])) mNil))))))))))))))
def m__law_bad_chances : List D → M D := runB true 0 0 (b__law_bad_chances)

def b_reduced : MS := (sSeq (sAsg (cst (.int 0)) (gNm 1))
  (sSeq (sFor (mIt (vr 0)) (gNm 2) (sAsg (mCall 2 (iso m_common_of) (mCons (vr 1) (mCons (vr 2) mNil))) (gNm 1)))
  (sRet (mIf (mB (m2 dGt (vr 1) (cst (.int 1)))) (mComp [2] (.nm 2) (mIt (vr 0)) yes (m2 dFdiv (vr 2) (vr 1))) (vr 0)))))
def m_reduced : List D → M D := runB true 3 1 (b_reduced)

def b_worth : MS := (sSeq (sAsg (mTup (mCons (cst (.int 0)) (mCons (cst (.int 1)) mNil))) (gTp [(gNm 4), (gNm 5)]))
  (sSeq (sFor (mIt (m1 dRev (vr 0))) (gNm 3) (sPar 4 5 (mCons (m2 dAdd (m2 dMulX (vr 4) (vr 1)) (m2 dMulX (vr 3) (vr 5))) (mCons (m2 dMulX (vr 5) (vr 2)) mNil))))
  (sRet (vr 4))))
def m_worth : List D → M D := runB true 6 3 (b_worth)

def b_changes : MS := (sSeq (sAsg (mComp [4] (.nm 4) (mIt (mComp [6] (.nm 6) (mIt (vr 0)) yes (mCall 3 (iso m_worth) (mCons (vr 6) (mCons (vr 1) (mCons (vr 2) mNil)))))) (mB (m2 dNe (vr 4) (cst (.int 0)))) (vr 4)) (gNm 3))
  (sRet (mFn (f1 dLen) (mCons (mComp [5] (.nm 5) (mItL itR1 (mCons (m2 dSub (mFn (f1 dLen) (mCons (vr 3) mNil)) (cst (.int 1))) mNil)) (mB (m2 dNe (m2 dGt (m2 dIx (vr 3) (vr 5)) (cst (.int 0))) (m2 dGt (m2 dIx (vr 3) (m2 dAdd (vr 5) (cst (.int 1)))) (cst (.int 0))))) (vr 5)) mNil))))
def m_changes : List D → M D := runB true 7 3 (b_changes)

def b_steps_up : MS := (sSeq (sAsg (mLst mNil) (gNm 1))
  (sSeq (sFor (mItL itEnum (mCons (vr 0) mNil)) (gTp [(gNm 2), (gNm 3)]) (sSeq (sIf (mB (m2 dEq (vr 3) (cst (.str [45])))) (sAsg (m2 dAdd (vr 1) (mLst (mCons (m2 dAdd (m2 dAdd (mCut (vr 0) oNo (oAt (vr 2))) (cst (.str [43]))) (mCut (vr 0) (oAt (m2 dAdd (vr 2) (cst (.int 1)))) oNo)) mNil))) (gNm 1)) sNx)
  (sIf (mB (m2 dEq (mCut (vr 0) (oAt (vr 2)) (oAt (m2 dAdd (vr 2) (cst (.int 2))))) (cst (.str [45, 43])))) (sAsg (m2 dAdd (vr 1) (mLst (mCons (m2 dAdd (m2 dAdd (mCut (vr 0) oNo (oAt (vr 2))) (cst (.str [43, 45]))) (mCut (vr 0) (oAt (m2 dAdd (vr 2) (cst (.int 2)))) oNo)) mNil))) (gNm 1)) sNx)))
  (sRet (vr 1))))
def m_steps_up : List D → M D := runB true 4 1 (b_steps_up)

def b_need_two : MS := (sSeq (sExpr (mCall 1 (iso m_need_signs) (mCons (vr 0) mNil)))
  (sSeq (sExpr (mCall 1 (iso m_need_signs) (mCons (vr 1) mNil)))
  (sIf (mB (m2 dNe (mFn (f1 dLen) (mCons (vr 0) mNil)) (mFn (f1 dLen) (mCons (vr 1) mNil)))) (sRaise 14) sNx)))
def m_need_two : List D → M D := runB true 2 2 (b_need_two)

def b_is_rising : MS := (sSeq (sIf (mOr (mNot (mB (m1 dIsTup (vr 0)))) (mNot (mB (mFn (f1 dAll) (mCons (mComp [2] (.nm 2) (mIt (vr 0)) yes (mCall 3 (iso m_is_whole) (mCons (vr 2) (mCons (cst (.int 0)) (mCons (vr 1) mNil))))) mNil))))) (sRet (cst (.bl false))) sNx)
  (sRet (mFn (f1 dAll) (mCons (mComp [2, 3] (.tp [2, 3]) (mItL itZip (mCons (vr 0) (mCons (mCut (vr 0) (oAt (cst (.int 1))) oNo) mNil))) yes (m2 dLt (vr 2) (vr 3))) mNil))))
def m_is_rising : List D → M D := runB true 4 2 (b_is_rising)

def b_is_good_code : MS := (sSeq (sIf (mOr (mNot (mB (m1 dIsTup (vr 0)))) (mOr (mB (m2 dNe (mFn (f1 dLen) (mCons (vr 0) mNil)) (cst (.int 2)))) (mNot (mB (mCall 3 (iso m_is_whole) (mCons (m2 dIx (vr 0) (cst (.int 0))) (mCons (cst (.int 0)) (mCons (cst (.int 4)) mNil)))))))) (sRet (cst (.bl false))) sNx)
  (sRet (mCall 2 (iso m_is_rising) (mCons (m2 dIx (vr 0) (cst (.int 1))) (mCons (m2 dSub (m2 dShl (cst (.int 1)) (m2 dIx (vr 0) (cst (.int 0)))) (cst (.int 1))) mNil)))))
def m_is_good_code : List D → M D := runB true 1 1 (b_is_good_code)

def b_need_code : MS := (sIf (mNot (mB (mCall 1 (iso m_is_good_code) (mCons (vr 0) mNil)))) (sRaise 3) sNx)
def m_need_code : List D → M D := runB true 1 1 (b_need_code)

def b_is_less : MS := (sRet (m2 dLt (m2 dMulX (m2 dIx (vr 0) (cst (.int 0))) (m2 dIx (vr 1) (cst (.int 1)))) (m2 dMulX (m2 dIx (vr 1) (cst (.int 0))) (m2 dIx (vr 0) (cst (.int 1))))))
def m_is_less : List D → M D := runB true 2 2 (b_is_less)

def b_is_sign : MS := (sRet (mCall 3 (iso m_is_whole) (mCons (vr 0) (mCons (cst (.int 0)) (mCons (cst (.int 1)) mNil)))))
def m_is_sign : List D → M D := runB true 1 1 (b_is_sign)

def b_joined_word (rec : List D → M D) : MS := (sSeq (sIf (mB (m2 dEq (mFn (f1 dLen) (mCons (vr 0) mNil)) (cst (.int 1)))) (sRet (vr 0)) sNx)
  (sSeq (sAsg (m2 dFdiv (mFn (f1 dLen) (mCons (vr 0) mNil)) (cst (.int 2))) (gNm 1))
  (sSeq (sPar 2 3 (mCons (mCall 1 (iso rec) (mCons (mCut (vr 0) oNo (oAt (vr 1))) mNil)) (mCons (mCall 1 (iso rec) (mCons (mCut (vr 0) (oAt (vr 1)) oNo) mNil)) mNil)))
  (sRet (m2 dAdd (mComp [4, 5] (.tp [4, 5]) (mItL itZip (mCons (vr 2) (mCons (vr 3) mNil))) yes (m2 dMod (m2 dAdd (vr 4) (vr 5)) (cst (.int 2)))) (vr 3))))))
def m_joined_word : Nat → List D → M D
  | 0 => fun _ => fail
  | n + 1 => runB true 6 1 (b_joined_word (m_joined_word n))

def b_all_data : MS := (sRet (mComp [1] (.nm 1) (mItL itR1 (mCons (m2 dShl (cst (.int 1)) (vr 0)) mNil)) yes (mFn (f1 dTuple) (mCons (mComp [2] (.nm 2) (mItL itR1 (mCons (vr 0) mNil)) yes (m2 dMod (m2 dShr (vr 1) (m2 dSub (m2 dSub (vr 0) (cst (.int 1))) (vr 2))) (cst (.int 2)))) mNil))))
def m_all_data : List D → M D := runB true 3 1 (b_all_data)

def b_is_seen : MS := (sSeq (sIf (mOr (mNot (mB (m1 dIsTup (vr 1)))) (mB (m2 dNe (mFn (f1 dLen) (mCons (vr 1) mNil)) (m2 dShl (cst (.int 1)) (m2 dIx (vr 0) (cst (.int 0))))))) (sRet (cst (.bl false))) sNx)
  (sRet (mFn (f1 dAll) (mCons (mComp [2] (.nm 2) (mIt (vr 1)) yes (vOr (m1 dIsN (vr 2)) (mCall 1 (iso m_is_sign) (mCons (vr 2) mNil)))) mNil))))
def m_is_seen : List D → M D := runB true 3 2 (b_is_seen)

def b_lost_of : MS := (sRet (mFn (f1 dTuple) (mCons (mComp [1, 2] (.tp [1, 2]) (mItL itEnum (mCons (vr 0) mNil)) (mB (m1 dIsN (vr 2))) (vr 1)) mNil)))
def m_lost_of : List D → M D := runB true 3 1 (b_lost_of)

def b_is_code : MS := (sRet (mCall 1 (iso m_is_good_code) (mCons (vr 0) mNil)))
def m_is_code : List D → M D := runB true 1 1 (b_is_code)

def b__law_is_whole : MS := (sRet (vAnd (m1 dIsInt (vr 0)) (vAnd (vNot (m1 dIsBool (vr 0))) (mChain dLe dLe (vr 1) (vr 0) (vr 2)))))
def m__law_is_whole : List D → M D := runB true 3 3 (b__law_is_whole)

def b__law_lost_use : MS := (sSeq (sAsg (mComp [5] (.nm 5) (mItL itR1 (mCons (m2 dShl (cst (.int 1)) (mFn (f1 dLen) (mCons (vr 0) mNil))) mNil)) yes (m2 dIn (vr 5) (vr 1))) (gNm 2))
  (sSeq (sFor (mIt (vr 0)) (gNm 3) (sSeq (sAsg (m2 dFdiv (mFn (f1 dLen) (mCons (vr 2) mNil)) (cst (.int 2))) (gNm 4))
  (sIf (mB (m2 dEq (vr 3) (cst (.str [45])))) (sAsg (mComp [6] (.nm 6) (mItL itR1 (mCons (vr 4) mNil)) yes (vOr (m2 dIx (vr 2) (vr 6)) (m2 dIx (vr 2) (m2 dAdd (vr 6) (vr 4))))) (gNm 2)) (sAsg (mComp [6] (.nm 6) (mItL itR1 (mCons (vr 4) mNil)) yes (vAnd (m2 dIx (vr 2) (vr 6)) (m2 dIx (vr 2) (m2 dAdd (vr 6) (vr 4))))) (gNm 2)))))
  (sRet (m2 dIx (vr 2) (cst (.int 0))))))
def m__law_lost_use : List D → M D := runB true 7 2 (b__law_lost_use)

def b__law_lost_uses : MS := (sSeq (sAsg (mCall 1 (iso m__law_every) (mCons (vr 0) mNil)) (gNm 2))
  (sRet (mComp [3] (.nm 3) (mItL itR1 (mCons (mFn (f1 dLen) (mCons (vr 2) mNil)) mNil)) (mB (mCall 2 (iso m__law_lost_use) (mCons (m2 dIx (vr 2) (vr 3)) (mCons (vr 1) mNil)))) (vr 3))))
def m__law_lost_uses : List D → M D := runB true 4 2 (b__law_lost_uses)

def b__law_code : MS := (sSeq (sAsg (mCall 2 m__law_under (mCons (vr 0) (mCons (m2 dAdd (vr 1) (cst (.int 1))) mNil))) (gNm 2))
  (sSeq (sAsg (mTup mNil) (gNm 3))
  (sSeq (sFor (mItL itR1 (mCons (m2 dShl (cst (.int 1)) (vr 2)) mNil)) (gNm 4) (sIf (mAnd (mB (m2 dLt (mFn (f1 dLen) (mCons (vr 3) mNil)) (cst (.int 6)))) (mB (m2 dEq (mCall 2 m__law_under (mCons (vr 0) (mCons (cst (.int 3)) mNil))) (cst (.int 0))))) (sAsg (m2 dAdd (vr 3) (mTup (mCons (vr 4) mNil))) (gNm 3)) sNx))
  (sRet (mTup (mCons (vr 2) (mCons (vr 3) mNil)))))))
def m__law_code : List D → M D := runB true 5 2 (b__law_code)

def b__law_told (act : Env' → M D) : MS := (sTry 16 1 (sRet (mTup (mCons act (mCons (cst (.str [])) mNil)))) (fun j => D.tup [.non, D.str (nmT j)]))

def b__law_bad_codes : MS := (sSeq (sAsg (mLst (mCons (cst .non) (mCons (mTup mNil) (mCons (mTup (mCons (cst (.int 5)) (mCons (mTup mNil) mNil))) (mCons (mTup (mCons (m1 dNeg (cst (.int 1))) (mCons (mTup mNil) mNil))) (mCons (mTup (mCons (cst (.int 2)) (mCons (mLst (mCons (cst (.int 1)) mNil)) mNil))) (mCons (mTup (mCons (cst (.int 2)) (mCons (mTup (mCons (cst (.int 4)) mNil)) mNil))) (mCons (mTup (mCons (cst (.int 2)) (mCons (mTup (mCons (cst (.int 1)) (mCons (cst (.int 1)) mNil))) mNil))) (mCons (mTup (mCons (cst (.int 2)) (mCons (mTup (mCons (cst (.int 3)) (mCons (cst (.int 1)) mNil))) mNil))) (mCons (mLst (mCons (cst (.int 2)) (mCons (mTup (mCons (cst (.int 1)) mNil)) mNil))) (mCons (mTup (mCons (cst (.bl true)) (mCons (mTup mNil) mNil))) (mCons (mTup (mCons (cst (.int 1)) (mCons (mTup (mCons (cst (.bl true)) mNil)) mNil))) mNil)))))))))))) (gNm 0))
  (sRet (m2 dAdd (vr 0) (mLst (mCons (mTup (mCons (cst (.int 0)) (mCons (mTup (mCons (cst (.int 1)) mNil)) mNil))) (mCons (mTup (mCons (cst (.int 2)) (mCons (mTup (mCons (m1 dNeg (cst (.int 1))) mNil)) mNil))) (mCons (mTup (mCons (cst (.int 2)) (mCons (cst (.int 1)) mNil))) (mCons (mTup (mCons (cst (.int 2)) (mCons (mTup (mCons (cst (.int 1)) mNil)) (mCons (cst (.int 0)) mNil)))) mNil))))))))
def m__law_bad_codes : List D → M D := runB true 1 0 (b__law_bad_codes)

def b_need_lost : MS := (sIf (mNot (mB (mCall 2 (iso m_is_rising) (mCons (vr 1) (mCons (m2 dSub (m2 dShl (cst (.int 1)) (vr 0)) (cst (.int 1))) mNil))))) (sRaise 6) sNx)
def m_need_lost : List D → M D := runB true 2 2 (b_need_lost)

def b_all_lots : MS := (sSeq (sAsg (m2 dShl (cst (.int 1)) (vr 0)) (gNm 1))
  (sRet (mComp [2] (.nm 2) (mItL itR1 (mCons (m2 dShl (cst (.int 1)) (vr 1)) mNil)) yes (mFn (f1 dTuple) (mCons (mComp [3] (.nm 3) (mItL itR1 (mCons (vr 1) mNil)) (mB (m2 dEq (m2 dMod (m2 dShr (vr 2) (vr 3)) (cst (.int 2))) (cst (.int 1)))) (vr 3)) mNil)))))
def m_all_lots : List D → M D := runB true 4 1 (b_all_lots)

def b_mixed : MS := (sSeq (sAsg (mComp [4, 5] (.tp [4, 5]) (mItL itEnum (mCons (vr 0) mNil)) (mB (m2 dEq (m2 dMod (m2 dShr (vr 1) (vr 4)) (cst (.int 2))) (cst (.int 1)))) (vr 5)) (gNm 2))
  (sRet (mComp [3] (.nm 3) (mItL itR1 (mCons (mFn (f1 dLen) (mCons (vr 0) mNil)) mNil)) yes (m2 dMod (mFn (f1 dSum) (mCons (mComp [5] (.nm 5) (mIt (vr 2)) yes (m2 dIx (vr 5) (vr 3))) mNil)) (cst (.int 2))))))
def m_mixed : List D → M D := runB true 6 2 (b_mixed)

def b_is_good_table : MS := (sSeq (sIf (mOr (mNot (mB (m1 dIsTup (vr 0)))) (mNot (mB (mChain dLe dLe (cst (.int 2)) (mFn (f1 dLen) (mCons (vr 0) mNil)) (cst (.int 4)))))) (sRet (cst (.bl false))) sNx)
  (sSeq (sFor (mIt (vr 0)) (gNm 1) (sIf (mOr (mNot (mB (m1 dIsTup (vr 1)))) (mOr (mB (m2 dNe (mFn (f1 dLen) (mCons (vr 1) mNil)) (mFn (f1 dLen) (mCons (vr 0) mNil)))) (mNot (mB (mFn (f1 dAll) (mCons (mComp [3] (.nm 3) (mIt (vr 1)) yes (mCall 3 (iso m_is_whole) (mCons (vr 3) (mCons (cst (.int 0)) (mCons (cst (.int 1)) mNil))))) mNil)))))) (sRet (cst (.bl false))) sNx))
  (sRet (mFn (f1 dAll) (mCons (mComp [2] (.nm 2) (mItL itR2 (mCons (cst (.int 1)) (mCons (m2 dShl (cst (.int 1)) (mFn (f1 dLen) (mCons (vr 0) mNil))) mNil))) yes (mFn (f1 dAny) (mCons (mCall 2 (iso m_mixed) (mCons (vr 0) (mCons (vr 2) mNil))) mNil))) mNil)))))
def m_is_good_table : List D → M D := runB true 4 1 (b_is_good_table)

def b_need_table : MS := (sIf (mNot (mB (mCall 1 (iso m_is_good_table) (mCons (vr 0) mNil)))) (sRaise 7) sNx)
def m_need_table : List D → M D := runB true 1 1 (b_need_table)

def b_is_table : MS := (sRet (mCall 1 (iso m_is_good_table) (mCons (vr 0) mNil)))
def m_is_table : List D → M D := runB true 1 1 (b_is_table)

def b_is_fact : MS := (sSeq (sIf (mOr (mNot (mB (m1 dIsTup (vr 0)))) (mOr (mB (m2 dNe (mFn (f1 dLen) (mCons (vr 0) mNil)) (cst (.int 3)))) (mNot (mB (mCall 2 (iso m_is_part) (mCons (m2 dIx (vr 0) (cst (.int 0))) (mCons (cst (.int 1000)) mNil))))))) (sRet (cst (.bl false))) sNx)
  (sRet (vAnd (mCall 2 (iso m_is_part) (mCons (m2 dIx (vr 0) (cst (.int 1))) (mCons (cst (.int 1000000000000000000000000000000)) mNil))) (mCall 2 (iso m_is_part) (mCons (m2 dIx (vr 0) (cst (.int 2))) (mCons (cst (.int 1000000000000000000000000000000)) mNil))))))
def m_is_fact : List D → M D := runB true 1 1 (b_is_fact)

def b_is_true : MS := (sSeq (sAsg (vr 1) (gTp [(gNm 2), (gNm 3), (gNm 4)]))
  (sRet (mCall 3 (iso m_is_within) (mCons (mCall 2 (iso m_made_loss) (mCons (vr 0) (mCons (vr 2) mNil))) (mCons (vr 3) (mCons (vr 4) mNil))))))
def m_is_true : List D → M D := runB true 5 2 (b_is_true)

def b_text_of : MS := (sSeq (sIf (mB (m2 dEq (vr 0) (cst (.str [])))) (sRet (cst (.str [48]))) sNx)
  (sSeq (sAsg (m2 dAdd (mComp [2] (.nm 2) (mItL itR1 (mCons (mFn (f1 dLen) (mCons (vr 0) mNil)) mNil)) (mOr (mB (m2 dEq (vr 2) (cst (.int 0)))) (mB (m2 dNe (m2 dIx (vr 0) (vr 2)) (m2 dIx (vr 0) (m2 dSub (vr 2) (cst (.int 1))))))) (vr 2)) (mLst (mCons (mFn (f1 dLen) (mCons (vr 0) mNil)) mNil))) (gNm 1))
  (sRet (mMeth kStr dJoin (cst (.str [])) (mCons (mComp [2, 3] (.tp [2, 3]) (mItL itZip (mCons (vr 1) (mCons (mCut (vr 1) (oAt (cst (.int 1))) oNo) mNil))) yes (m2 dAdd (mFn (f1 dStr1) (mCons (m2 dSub (vr 3) (vr 2)) mNil)) (m2 dIx (vr 0) (vr 2)))) mNil)))))
def m_text_of : List D → M D := runB true 4 1 (b_text_of)

def b_read_in : MS := (sSeq (sIf (mOr (mNot (mB (m1 dIsStr (vr 0)))) (mB (m2 dGt (mFn (f1 dLen) (mCons (vr 0) mNil)) (cst (.int 10))))) (sRet (cst .non)) sNx)
  (sSeq (sIf (mB (m2 dEq (vr 0) (cst (.str [48])))) (sRet (cst (.str []))) sNx)
  (sSeq (sAsg (cst (.str [])) (gNm 1))
  (sSeq (sFor (mItL itR3 (mCons (cst (.int 0)) (mCons (m2 dSub (mFn (f1 dLen) (mCons (vr 0) mNil)) (cst (.int 1))) (mCons (cst (.int 2)) mNil)))) (gNm 2) (sSeq (sIf (mOr (mB (m2 dNotIn (m2 dIx (vr 0) (vr 2)) (cst (.str [49, 50, 51, 52, 53])))) (mB (m2 dNotIn (m2 dIx (vr 0) (m2 dAdd (vr 2) (cst (.int 1)))) (cst (.str [45, 43]))))) (sRet (cst .non)) sNx)
  (sAsg (m2 dAdd (vr 1) (m2 dMulX (m2 dIx (vr 0) (m2 dAdd (vr 2) (cst (.int 1)))) (mFn (f1 dInt1) (mCons (m2 dIx (vr 0) (vr 2)) mNil)))) (gNm 1))))
  (sRet (mIf (mAnd (mB (m2 dNe (vr 1) (cst (.str [])))) (mAnd (mB (mCall 1 (iso m_is_good) (mCons (vr 1) mNil))) (mB (m2 dEq (mCall 1 (iso m_text_of) (mCons (vr 1) mNil)) (vr 0))))) (vr 1) (cst .non)))))))
def m_read_in : List D → M D := runB true 3 1 (b_read_in)

def b_signs_text : MS := (sSeq (sExpr (mCall 1 (iso m_need_signs) (mCons (vr 0) mNil)))
  (sRet (mCall 1 (iso m_text_of) (mCons (vr 0) mNil))))
def m_signs_text : List D → M D := runB true 1 1 (b_signs_text)

def b_read_signs : MS := (sSeq (sAsg (mCall 1 (iso m_read_in) (mCons (vr 0) mNil)) (gNm 1))
  (sSeq (sIf (mB (m1 dIsN (vr 1))) (sRaise 12) sNx)
  (sRet (vr 1))))
def m_read_signs : List D → M D := runB true 2 1 (b_read_signs)
end MM

namespace MM
open DL
theorem pf_common_of : PureF m_common_of := by unfold m_common_of b_common_of; repeat (first | contradiction)
theorem pf_is_whole : PureF m_is_whole := by unfold m_is_whole b_is_whole; repeat (first | contradiction)
theorem pf_is_part : PureF m_is_part := by unfold m_is_part b_is_part; repeat (first | contradiction)
theorem pf_is_good : PureF m_is_good := by unfold m_is_good b_is_good; repeat (first | contradiction)
theorem pf_need_signs : PureF m_need_signs := by unfold m_need_signs b_need_signs; repeat (first | contradiction)
theorem pf_need_chance : PureF m_need_chance := by unfold m_need_chance b_need_chance; repeat (first | contradiction)
theorem pf_need_steps : PureF m_need_steps := by unfold m_need_steps b_need_steps; repeat (first | contradiction)
theorem pf_made_loss : PureF m_made_loss := by unfold m_made_loss b_made_loss; repeat (first | contradiction)
theorem pf_joined : PureF m_joined := by unfold m_joined b_joined; repeat (first | contradiction)
theorem pf_made_polynomial : PureF m_made_polynomial := by unfold m_made_polynomial b_made_polynomial; repeat (first | contradiction)
theorem pf_number_by : PureF m_number_by := by unfold m_number_by b_number_by; repeat (first | contradiction)
theorem pf_signs_by : PureF m_signs_by := by unfold m_signs_by b_signs_by; repeat (first | contradiction)
theorem pf_all_signs : PureF m_all_signs := by unfold m_all_signs b_all_signs; repeat (first | contradiction)
theorem pf_is_within : PureF m_is_within := by unfold m_is_within b_is_within; repeat (first | contradiction)
theorem pf_is_signs : PureF m_is_signs := by unfold m_is_signs b_is_signs; repeat (first | contradiction)
theorem pf_loss : PureF m_loss := by unfold m_loss b_loss; repeat (first | contradiction)
theorem pf_polynomial : PureF m_polynomial := by unfold m_polynomial b_polynomial; repeat (first | contradiction)
theorem pf_number_of : PureF m_number_of := by unfold m_number_of b_number_of; repeat (first | contradiction)
theorem pf_signs_of : PureF m_signs_of := by unfold m_signs_of b_signs_of; repeat (first | contradiction)
theorem pf_losses : PureF m_losses := by unfold m_losses b_losses; repeat (first | contradiction)
theorem pf_count_between : PureF m_count_between := by unfold m_count_between b_count_between; repeat (first | contradiction)
theorem pf__law_truly : PureF m__law_truly := by unfold m__law_truly b__law_truly; repeat (first | contradiction)
theorem pf__law_gcd : PureF m__law_gcd := by unfold m__law_gcd b__law_gcd; repeat (first | contradiction)
theorem pf__law_low : PureF m__law_low := by unfold m__law_low b__law_low; repeat (first | contradiction)
theorem pf__law_loss : PureF m__law_loss := by unfold m__law_loss b__law_loss; repeat (first | contradiction)
theorem pf__law_less : PureF m__law_less := by unfold m__law_less b__law_less; repeat (first | contradiction)
theorem pf__law_every : PureF m__law_every := by unfold m__law_every b__law_every; repeat (first | contradiction)
theorem ps__law_error (act : Env' → M D) (h : PureE act) : PureS (b__law_error act) := by unfold b__law_error; repeat (first | contradiction)
theorem pf__law_all_refused (mf : List D → M D) (h : PureF mf) : PureF (m__law_all_refused mf) := by unfold m__law_all_refused b__law_all_refused; repeat (first | contradiction | exact ps__law_error)
theorem pf__law_bad_signs : PureF m__law_bad_signs := by unfold m__law_bad_signs b__law_bad_signs; repeat (first | contradiction)
theorem pf__law_bad_chances : PureF m__law_bad_chances := by unfold m__law_bad_chances b__law_bad_chances; repeat (first | contradiction)
theorem pf_reduced : PureF m_reduced := by unfold m_reduced b_reduced; repeat (first | contradiction)
theorem pf_worth : PureF m_worth := by unfold m_worth b_worth; repeat (first | contradiction)
theorem pf_changes : PureF m_changes := by unfold m_changes b_changes; repeat (first | contradiction)
theorem pf_steps_up : PureF m_steps_up := by unfold m_steps_up b_steps_up; repeat (first | contradiction)
theorem pf_need_two : PureF m_need_two := by unfold m_need_two b_need_two; repeat (first | contradiction)
theorem pf_is_rising : PureF m_is_rising := by unfold m_is_rising b_is_rising; repeat (first | contradiction)
theorem pf_is_good_code : PureF m_is_good_code := by unfold m_is_good_code b_is_good_code; repeat (first | contradiction)
theorem pf_need_code : PureF m_need_code := by unfold m_need_code b_need_code; repeat (first | contradiction)
theorem pf_is_less : PureF m_is_less := by unfold m_is_less b_is_less; repeat (first | contradiction)
theorem pf_is_sign : PureF m_is_sign := by unfold m_is_sign b_is_sign; repeat (first | contradiction)
theorem pf_joined_word : ∀ n : Nat, PureF (m_joined_word n)
  | 0 => pf_fail
  | n + 1 => by
    have ih := pf_joined_word n
    show PureF (runB _ _ _ (b_joined_word (m_joined_word n)))
    unfold b_joined_word
    repeat (first | contradiction)
theorem pf_all_data : PureF m_all_data := by unfold m_all_data b_all_data; repeat (first | contradiction)
theorem pf_is_seen : PureF m_is_seen := by unfold m_is_seen b_is_seen; repeat (first | contradiction)
theorem pf_lost_of : PureF m_lost_of := by unfold m_lost_of b_lost_of; repeat (first | contradiction)
theorem pf_is_code : PureF m_is_code := by unfold m_is_code b_is_code; repeat (first | contradiction)
theorem pf__law_is_whole : PureF m__law_is_whole := by unfold m__law_is_whole b__law_is_whole; repeat (first | contradiction)
theorem pf__law_lost_use : PureF m__law_lost_use := by unfold m__law_lost_use b__law_lost_use; repeat (first | contradiction)
theorem pf__law_lost_uses : PureF m__law_lost_uses := by unfold m__law_lost_uses b__law_lost_uses; repeat (first | contradiction)
theorem ps__law_told (act : Env' → M D) (h : PureE act) : PureS (b__law_told act) := by unfold b__law_told; repeat (first | contradiction)
theorem pf__law_bad_codes : PureF m__law_bad_codes := by unfold m__law_bad_codes b__law_bad_codes; repeat (first | contradiction)
theorem pf_need_lost : PureF m_need_lost := by unfold m_need_lost b_need_lost; repeat (first | contradiction)
theorem pf_all_lots : PureF m_all_lots := by unfold m_all_lots b_all_lots; repeat (first | contradiction)
theorem pf_mixed : PureF m_mixed := by unfold m_mixed b_mixed; repeat (first | contradiction)
theorem pf_is_good_table : PureF m_is_good_table := by unfold m_is_good_table b_is_good_table; repeat (first | contradiction)
theorem pf_need_table : PureF m_need_table := by unfold m_need_table b_need_table; repeat (first | contradiction)
theorem pf_is_table : PureF m_is_table := by unfold m_is_table b_is_table; repeat (first | contradiction)
theorem pf_is_fact : PureF m_is_fact := by unfold m_is_fact b_is_fact; repeat (first | contradiction)
theorem pf_is_true : PureF m_is_true := by unfold m_is_true b_is_true; repeat (first | contradiction)
theorem pf_text_of : PureF m_text_of := by unfold m_text_of b_text_of; repeat (first | contradiction)
theorem pf_read_in : PureF m_read_in := by unfold m_read_in b_read_in; repeat (first | contradiction)
theorem pf_signs_text : PureF m_signs_text := by unfold m_signs_text b_signs_text; repeat (first | contradiction)
theorem pf_read_signs : PureF m_read_signs := by unfold m_read_signs b_read_signs; repeat (first | contradiction)
end MM

namespace MM
open DL
/-! ### sizes -/
theorem log_le {n a : Nat} (h : n < 2 ^ a) : n.log2 ≤ a := by
  by_cases h0 : n = 0
  · subst h0; simp
  · have := (Nat.log2_lt h0).mpr h
    omega
theorem mulok {i j : Int} {a b : Nat} (h1 : i.natAbs < 2 ^ a) (h2 : j.natAbs < 2 ^ b) (h : a + b < 1000000) : mulOk i j = true := by
  have := log_le h1
  have := log_le h2
  unfold mulOk
  have : i.natAbs.log2 + j.natAbs.log2 < 1000000 := by omega
  simp [this]
theorem mulok1 {i j : Int} (h : i.natAbs < 2 ^ 64) : mulOk i j = true := by
  unfold mulOk; simp [h]
theorem mulok2 {i j : Int} (h : j.natAbs < 2 ^ 64) : mulOk i j = true := by
  unfold mulOk; simp [h]
/-! ### the vat -/
abbrev vatC (a b : Int) : Cell := .lst [.int a, .int b]
structure VatAt (n : Nat) (st : Store) : Prop where
  nh : nhS st = true
  v : ∃ a b : Int, st[n]? = some (vatC a b) ∧ 0 ≤ a ∧ 0 ≤ b ∧ b < 2 ^ 31
structure Sm (n : Nat) (st st' : Store) : Prop where
  len : st'.length = st.length
  oth : ∀ j, j ≠ n → st'[j]? = st[j]?
  vat : VatAt n st'
theorem Sm.refl {n : Nat} {st : Store} (v : VatAt n st) : Sm n st st := ⟨rfl, fun _ _ => rfl, v⟩
theorem Sm.trans {n : Nat} {st s1 s2 : Store} (a : Sm n st s1) (b : Sm n s1 s2) : Sm n st s2 := ⟨b.len.trans a.len, fun j h => (b.oth j h).trans (a.oth j h), b.vat⟩
theorem nhS_set : ∀ {st : Store} {n : Nat} {c : Cell}, nhS st = true → Cell.nh c = true → nhS (st.set n c) = true
  | [], _, _, h, _ => h
  | _ :: _, 0, _, h, hc => by
    have := (Bool.and_eq_true_iff.mp (show (_ && _) = true from h)).2
    show (_ && _) = true
    rw [hc, this]; rfl
  | a :: r, n + 1, c, h, hc => by
    obtain ⟨h1, h2⟩ := Bool.and_eq_true_iff.mp (show (_ && _) = true from h)
    show (_ && nhS (r.set n c)) = true
    rw [h1, nhS_set h2 hc]; rfl
theorem nhS_app : ∀ {st : Store} {c : Cell}, nhS st = true → Cell.nh c = true → nhS (st ++ [c]) = true
  | [], c, _, hc => by show (_ && _) = true; rw [hc]; rfl
  | a :: r, c, h, hc => by
    obtain ⟨h1, h2⟩ := Bool.and_eq_true_iff.mp (show (_ && _) = true from h)
    show (_ && nhS (r ++ [c])) = true
    rw [h1, nhS_app h2 hc]; rfl
theorem set_at {st : Store} {n : Nat} {c c' : Cell} (h : st[n]? = some c) : (st.set n c')[n]? = some c' := List.getElem?_set_self (List.getElem?_eq_some_iff.mp h).1
theorem sm_set {st : Store} {n : Nat} {a b : Int} {c : Cell} (v : nhS st = true) (h : st[n]? = some c) (ha : 0 ≤ a) (hb : 0 ≤ b) (hb2 : b < 2 ^ 31) : Sm n st (st.set n (vatC a b)) :=
  ⟨List.length_set, fun j hj => List.getElem?_set_ne (Ne.symm hj), ⟨nhS_set v rfl, a, b, set_at h, ha, hb, hb2⟩⟩
theorem vat0 {st : Store} {n : Nat} {a b : Int} (h : st[n]? = some (vatC a b)) : dIx (.cel n) (.int 0) st = .ok (.int a) st := by
  simp [dIx, bnd, lLst, h, atD, L2.ixN, ret]
theorem vat1 {st : Store} {n : Nat} {a b : Int} (h : st[n]? = some (vatC a b)) : dIx (.cel n) (.int 1) st = .ok (.int b) st := by
  simp [dIx, bnd, lLst, h, atD, L2.ixN, ret]
theorem vset0 {st : Store} {n : Nat} {a b : Int} {d : D} (h : st[n]? = some (vatC a b)) : setIxX (.cel n) (.int 0) d st = .ok .non (st.set n (.lst [d, .int b])) := by
  simp [setIxX, setIx, bnd, celL, h, L2.ixN, putC, ret]
theorem vset1 {st : Store} {n : Nat} {a b : Int} {d : D} (h : st[n]? = some (vatC a b)) : setIxX (.cel n) (.int 1) d st = .ok .non (st.set n (.lst [.int a, d])) := by
  simp [setIxX, setIx, bnd, celL, h, L2.ixN, putC, ret]
theorem log_lt {j : Int} (h0 : 0 < j) (h : j < 2 ^ 40) : j.natAbs.log2 < 9000 := by
  have : j.natAbs.log2 < 40 := (Nat.log2_lt (by omega)).mpr (by omega)
  omega
theorem sp_under {st : Store} {n : Nat} {many : Int} (v : VatAt n st) (hm : 0 < many) (hm2 : many < 2 ^ 40) :
    WM (m__law_under [.cel n, .int many] st) fun d st' => (∃ r : Nat, d = .int r ∧ (r : Int) < many) ∧ Sm n st st' := by
  obtain ⟨a, b, h, ha, hb, hb2⟩ := v.v
  have hlog := log_lt hm hm2
  refine wm_run rfl ?_
  unfold b__law_under
  and_intros
  rw [vat0 h]
  and_intros
  by_cases ha0 : 0 < a
  · rw [if_pos (by simpa using ha0), vat0 h]
    and_intros
    refine ⟨hm, ?_⟩
    rw [vat0 h]
    and_intros
    refine ⟨⟨hm, hlog⟩, ?_⟩
    rw [vset0 h]
    and_intros
    have s := sm_set (a := a / many) (b := b) v.nh h (Int.ediv_nonneg ha (by omega)) hb hb2
    have q := Int.emod_nonneg a (b := many) (by omega)
    exact ⟨s.len, ⟨(a % many).toNat, by rw [Int.toNat_of_nonneg q], by rw [Int.toNat_of_nonneg q]; exact Int.emod_lt_of_pos _ hm⟩, s⟩
  · have ea : a = 0 := by omega
    subst ea
    rw [if_neg (by simp)]
    rw [vat1 h]
    and_intros
    refine ⟨mulok1 (by omega), by decide, ?_⟩
    rw [vset1 h]
    and_intros
    have b10 : 0 ≤ (b * 39373 + 101) % 2147483629 := Int.emod_nonneg _ (by decide)
    have b11 : (b * 39373 + 101) % 2147483629 < 2147483629 := Int.emod_lt_of_pos _ (by decide)
    have s := sm_set (a := 0) (b := (b * 39373 + 101) % 2147483629) v.nh h (Int.le_refl _) b10 (by omega)
    rw [vat1 (set_at h)]
    and_intros
    rw [vat1 (set_at h)]
    and_intros
    refine ⟨⟨by decide, log_lt (by omega) (by omega)⟩, mulok1 (by omega), by decide, ⟨by decide, log_lt (by omega) (by omega)⟩, hm, s.len, ?_, s⟩
    generalize (b * 39373 + 101) % 2147483629 * ((b * 39373 + 101) % 2147483629 / 5 + 9) % 2147483587 / 32 = z
    have q := Int.emod_nonneg z (b := many) (by omega)
    exact ⟨(z % many).toNat, by rw [Int.toNat_of_nonneg q], by rw [Int.toNat_of_nonneg q]; exact Int.emod_lt_of_pos _ hm⟩
theorem sp_some {st : Store} {n : Nat} {xs : List D} (v : VatAt n st) (hx : 0 < xs.length) (hx2 : xs.length < 1000000) : WM (m__law_some [.cel n, .lst xs] st) fun d st' => d ∈ xs ∧ Sm n st st' := by
  refine wm_run rfl ?_
  unfold b__law_some
  and_intros
  refine (sp_under v (by omega) (by omega)).imp fun d st' ⟨⟨r, e, hr⟩, s⟩ => ?_
  subst e
  have hk : r < xs.length := by omega
  and_intros
  rw [wm_atN hk]
  exact ⟨s.len, List.getElem_mem hk, s⟩
theorem sp_vat {st : Store} {d : D} {ns : List Int} {k : Nat} (hd : d = .scr (ns.map D.int) ∨ d = .lst (ns.map D.int)) (hk : k < 1000) (hn : nhS st = true) : WM (m__law_vat [d, .int k] st) fun r st' => r = .cel st.length ∧ VatAt st.length st' ∧ st'.length = st.length + 1 ∧ ∀ j, j < st.length → st'[j]? = st[j]? := by
  have fin : ∀ cell : Int, 0 ≤ cell → VatAt st.length (st ++ [vatC (if cell ≥ 1000000000000000000 then cell else 0) (((cell * 131071 + 8191 * (k : Int)) + 5) % 2147483629 + 1)]) := fun cell hc => by
    refine ⟨nhS_app hn rfl, (if cell ≥ 1000000000000000000 then cell else 0), ((cell * 131071 + 8191 * (k : Int)) + 5) % 2147483629 + 1, by simp, by split <;> omega, ?_, ?_⟩
    · have := Int.emod_nonneg ((cell * 131071 + 8191 * (k : Int)) + 5) (b := 2147483629) (by decide)
      omega
    · have := Int.emod_lt_of_pos ((cell * 131071 + 8191 * (k : Int)) + 5) (b := 2147483629) (by decide)
      omega
  have p18 : (10 : Int) ^ (18 : Int).toNat = 1000000000000000000 := by decide +kernel
  have run : ∀ Q, WS (b__law_vat ([d, .int k].map some ++ List.replicate (3 - 2) none) st) (fun _ st' => Q .non st') Q → WM (m__law_vat [d, .int k] st) Q := fun Q h => by
    unfold m__law_vat runB
    rw [decide_eq_true (show [d, D.int k].length = 2 from rfl)]
    show WM (match b__law_vat ([d, .int k].map some ++ List.replicate (3 - 2) none) st with
      | .nx _ st' => .ok .non st'
      | .rt d st' => .ok d st'
      | .exc c _ st' => .exc c st'
      | _ => .bad) Q
    revert h
    cases b__law_vat ([d, .int k].map some ++ List.replicate (3 - 2) none) st <;> intro h <;> simp only [ws_nx, ws_rt, ws_bk, ws_ct, ws_exc, ws_bad, wm_ok, wm_exc, wm_bad] at h ⊢ <;> exact h
  refine run _ ?_
  unfold b__law_vat
  have hlen : WM (dLen d st) (fun z s => z = .int ns.length ∧ s = st) := by
    rcases hd with rfl | rfl
    · rw [wm_lenC]; exact ⟨by simp, rfl⟩
    · rw [wm_lenL]; exact ⟨by simp, rfl⟩
  have hix : ∀ i : Nat, (h : i < ns.length) → WM (dIx d (.int i) st) (fun z s => z = .int ns[i] ∧ s = st) := fun i h => by
    rcases hd with rfl | rfl
    · rw [wm_ixC, wm_atN (by simpa using h)]; exact ⟨by simp, rfl⟩
    · rw [wm_ixL, wm_atN (by simpa using h)]; exact ⟨by simp, rfl⟩
  and_intros
  refine ⟨mulok1 (by decide), ?_⟩
  refine hlen.imp fun z s ⟨e1, e2⟩ => ?_
  subst e1 e2
  and_intros
  by_cases hk2 : k < ns.length
  · rw [if_pos (by simpa using hk2)]
    refine (hix k hk2).imp fun z s ⟨e1, e2⟩ => ?_
    subst e1 e2
    and_intros
    have hc : 0 ≤ (if ns[k] < 0 then -ns[k] else ns[k]) := by split <;> omega
    generalize (if ns[k] < 0 then -ns[k] else ns[k]) = cell at hc ⊢
    rw [p18]
    refine ⟨by decide +kernel, ?_⟩
    have f := fin cell hc
    by_cases hg : (1000000000000000000 : Int) ≤ cell
    · rw [if_pos (by simpa using hg)]
      rw [if_pos hg] at f
      exact ⟨mulok2 (by decide), mulok1 (by decide), by decide, by decide, f, by simp, fun j hj => List.getElem?_append_left hj⟩
    · rw [if_neg (by simpa using hg)]
      rw [if_neg hg] at f
      exact ⟨mulok2 (by decide), mulok1 (by decide), by decide, by decide, f, by simp, fun j hj => List.getElem?_append_left hj⟩
  · rw [if_neg (by simpa using hk2)]
    have hc : 0 ≤ 7919 * (k : Int) + 43 := by omega
    generalize 7919 * (k : Int) + 43 = cell at hc ⊢
    rw [p18]
    refine ⟨by decide +kernel, ?_⟩
    have f := fin cell hc
    by_cases hg : (1000000000000000000 : Int) ≤ cell
    · rw [if_pos (by simpa using hg)]
      rw [if_pos hg] at f
      exact ⟨mulok2 (by decide), mulok1 (by decide), by decide, by decide, f, by simp, fun j hj => List.getElem?_append_left hj⟩
    · rw [if_neg (by simpa using hg)]
      rw [if_neg hg] at f
      exact ⟨mulok2 (by decide), mulok1 (by decide), by decide, by decide, f, by simp, fun j hj => List.getElem?_append_left hj⟩
/-! ### greatest common divisors -/
theorem gcd_step (a b : Nat) : Nat.gcd b (a % b) = Nat.gcd a b := by rw [Nat.gcd_comm a b, Nat.gcd_rec b a, Nat.gcd_comm]
theorem sp__law_gcd {a b : Nat} {st : Store} : WM (m__law_gcd [.int a, .int b] st) (Is st (.int (Nat.gcd a b))) := by
  refine wm_runI rfl ?_
  unfold b__law_gcd
  and_intros
  refine ws_whI (fun n ρ st' => st' = st ∧ ∃ x y : Nat, ρ = [some (.int x), some (.int y)] ∧ y ≤ n ∧ Nat.gcd x y = Nat.gcd a b) ?_ (n := b) ⟨rfl, a, b, rfl, Nat.le_refl _, rfl⟩ ?_
  · rintro n ρ st' ⟨rfl, x, y, rfl, hy, hg⟩
    and_intros
    by_cases h0 : y = 0
    · subst h0
      rw [if_neg (by simp), if_neg (by omega), ← hg, Nat.gcd_zero_right]
      exact is_rfl
    · rw [if_pos (by simp; omega)]
      refine ⟨n - 1, by omega, by omega, y, x % y, by simp, ?_, ?_⟩
      · have := Nat.mod_lt x (show 0 < y by omega)
        omega
      · rw [gcd_step, hg]
  · show b < (b : Int).natAbs + 2
    omega
theorem sp_common_of {a b : Int} {st : Store} : WM (m_common_of [.int a, .int b] st) (Is st (.int (Int.gcd a b))) := by
  refine wm_runI rfl ?_
  unfold b_common_of
  and_intros
  have ab : ∀ i : Int, (if i < 0 then -i else i) = (i.natAbs : Int) := fun i => by split <;> omega
  rw [ab, ab]
  refine ws_whI (fun n ρ st' => st' = st ∧ ∃ x y : Nat, ρ = [some (.int x), some (.int y)] ∧ y ≤ n ∧ Nat.gcd x y = Int.gcd a b) ?_ (n := b.natAbs) ⟨rfl, a.natAbs, b.natAbs, rfl, Nat.le_refl _, rfl⟩ ?_
  · rintro n ρ st' ⟨rfl, x, y, rfl, hy, hg⟩
    and_intros
    by_cases h0 : y = 0
    · subst h0
      rw [if_neg (by simp), ← hg, Nat.gcd_zero_right]
      exact is_rfl
    · rw [if_pos (by simp; omega)]
      refine ⟨n - 1, by omega, by omega, y, x % y, by simp, ?_, ?_⟩
      · have := Nat.mod_lt x (show 0 < y by omega)
        omega
      · rw [gcd_step, hg]
  · show b.natAbs < (b.natAbs : Int).natAbs + 2
    omega
/-- a fraction in lowest terms -/
theorem sp__law_low {a b : Nat} {st : Store} (hb : 0 < b) (hb2 : b.log2 < 9000) : WM (m__law_low [.int a, .int b] st) (Is st (.tup [.int (a / Nat.gcd a b : Nat), .int (b / Nat.gcd a b : Nat)])) := by
  refine wm_runI rfl ?_
  unfold b__law_low
  and_intros
  rw [wm_is sp__law_gcd]
  and_intros
  have hg : 0 < Nat.gcd a b := Nat.gcd_pos_of_pos_right _ hb
  have hg2 : Nat.gcd a b ≤ b := Nat.le_of_dvd hb (Nat.gcd_dvd_right a b)
  have hl : Nat.log2 (Nat.gcd a b) < 9000 := by
    have h1 : 2 ^ (Nat.log2 (Nat.gcd a b)) ≤ b := Nat.le_trans (Nat.log2_self_le (by omega)) hg2
    have h2 : b < 2 ^ (b.log2 + 1) := Nat.lt_log2_self
    have h3 : Nat.log2 (Nat.gcd a b) < b.log2 + 1 := (Nat.pow_lt_pow_iff_right (by decide)).mp (Nat.lt_of_le_of_lt h1 h2)
    omega
  exact ⟨⟨by omega, hl⟩, ⟨by omega, hl⟩, by decide, is_of (by simp)⟩
end MM

namespace MM
open DL
/-! ### kinds -/
/-- a value that isinstance is asked about -/
def vl : D → Bool
  | .cel _ => false
  | .fn _ => false
  | .hof => false
  | .scr _ => false
  | .str s => decide (s.length ≤ LIM)
  | .tup xs => D.noL xs
  | .lst xs => D.noL xs
  | _ => true
theorem vl_no {d : D} (h : vl d = true) : D.no d = true := by
  cases d <;> first | rfl | (simp [vl] at h; done) | (simp only [D.no]; simpa only [vl] using h)
def isWh (d : D) (lo hi : Int) : Bool := match d with
  | .int i => decide (lo ≤ i) && decide (i ≤ hi)
  | _ => false
theorem sp_is_whole {d : D} {lo hi : Int} {st : Store} (h : vl d = true) : WM (m_is_whole [d, .int lo, .int hi] st) (Is st (.bl (isWh d lo hi))) := by
  refine wm_runI rfl ?_
  unfold b_is_whole
  cases d <;> simp only [vl, Bool.false_eq_true] at h <;> and_intros <;> (try exact is_of rfl)
  rename_i i
  by_cases h1 : lo ≤ i
  · rw [if_pos (by simpa using h1)]
    exact is_of (by simp [isWh, h1])
  · rw [if_neg (by simpa using h1)]
    exact is_of (by simp [isWh, h1])
theorem sp__law_is_whole {d : D} {lo hi : Int} {st : Store} (h : vl d = true) : WM (m__law_is_whole [d, .int lo, .int hi] st) (Is st (.bl (isWh d lo hi))) := sp_is_whole h
def sgnB (c : Nat) : Bool := decide (c = 45) || decide (c = 43)
def isGood (d : D) : Bool := match d with
  | .str s => decide (s.length ≤ 5) && s.all sgnB
  | _ => false
theorem all_sgn (s : List Nat) : (s.map sgn).map (fun x => match x with
    | .str [c] => D.bl (sgnB c)
    | _ => D.bl false) = (s.map sgnB).map D.bl := by
  rw [List.map_map, List.map_map]
  rfl
theorem sp_is_good {d : D} {st : Store} (h : vl d = true) : WM (m_is_good [d] st) (Is st (.bl (isGood d))) := by
  refine wm_runI rfl ?_
  unfold b_is_good
  cases d <;> simp only [vl, Bool.false_eq_true] at h <;> and_intros <;> (try exact is_of rfl)
  rename_i s
  have h' := of_decide_eq_true h
  refine ⟨h', ?_⟩
  by_cases h1 : s.length ≤ 5
  · rw [if_pos (by simp; omega)]
    refine ⟨by rw [List.length_map]; exact h', ?_⟩
    refine wm_cmpM (fun x => match x with
      | .str [c] => D.bl (sgnB c)
      | _ => D.bl false) (fun x hx => ?_) ?_
    · obtain ⟨c, _, rfl⟩ := List.mem_map.mp hx
      show WM (gNm 1 (sgn c) [some (.str s), none] st) _
      and_intros
      refine ⟨by decide, ?_⟩
      simp only [dInG, D.flat, List.all_cons, List.all_nil, Bool.and_self, chk, wm_ret, isIn, List.any_cons, List.any_nil, D.eqv, Bool.or_false, Bool.false_xor, sgnB]
      simp [eq_comm]
    · rw [all_sgn]
      and_intros
      exact is_of (by simp [isGood, h1, List.all_map])
  · rw [if_neg (by simp; omega)]
    exact is_of (by simp [isGood, h1])
theorem sp_is_signs {d : D} {st : Store} (h : vl d = true) : WM (m_is_signs [d] st) (Is st (.bl (isGood d))) := by
  refine wm_runI rfl ?_
  unfold b_is_signs
  and_intros
  exact ⟨vl_no h, by rw [wm_is (sp_is_good h)]; exact ⟨rfl, is_rfl⟩⟩
theorem sp_need_signs {d : D} {st : Store} (h : vl d = true) (g : isGood d = true) : WM (m_need_signs [d] st) (Is st .non) := by
  refine wm_runI rfl ?_
  unfold b_need_signs
  and_intros
  refine ⟨vl_no h, ?_⟩
  rw [wm_is (sp_is_good h), g]
  and_intros
  exact is_rfl
def isPt (d : D) (most : Int) : Bool := match d with
  | .tup [a, .int b] => isWh (.int b) 1 most && (isWh a 0 b && (match a with
    | .int a => decide (Int.gcd a b = 1)
    | _ => false))
  | _ => false
theorem sp_is_part {d : D} {most : Int} {st : Store} (h : vl d = true) (h2 : ∀ xs, d = .tup xs → xs.all vl = true) : WM (m_is_part [d, .int most] st) (Is st (.bl (isPt d most))) := by
  refine wm_runI rfl ?_
  unfold b_is_part
  cases d <;> simp only [vl, Bool.false_eq_true] at h <;> and_intros <;> (try exact is_of rfl)
  rename_i xs
  match xs, h2 xs rfl with
  | [], _ => and_intros; exact is_of (by simp [isPt])
  | [_], _ => and_intros; exact is_of (by simp [isPt])
  | _ :: _ :: _ :: r, _ =>
    and_intros
    rw [if_pos (by simp; omega)]
    exact is_of (by simp [isPt])
  | [a, b], hv =>
    have hv1 : vl a = true ∧ vl b = true := by simpa using hv
    and_intros
    rw [if_neg (by simp)]
    refine ⟨vl_no hv1.2, ?_⟩
    rw [wm_is (sp_is_whole hv1.2)]
    and_intros
    cases hb : isWh b 1 most with
    | false =>
      rw [if_pos (by simp)]
      cases b <;> exact is_of (by simp [isPt, hb])
    | true =>
      rw [if_neg (by simp)]
      cases b with
      | int b =>
        refine ⟨by rw [vl_no hv1.1]; rfl, ?_⟩
        rw [wm_is (sp_is_whole hv1.1)]
        and_intros
        cases ha : isWh a 0 b with
        | false => 
          rw [if_neg (by simp)]
          exact is_of (by simp [isPt, ha])
        | true =>
          rw [if_pos rfl]
          cases a with
          | int a =>
            rw [wm_is sp_common_of]
            and_intros
            refine is_of ?_
            simp only [isPt, hb, ha, Bool.true_and]
            congr 1
            rw [decide_eq_decide]
            omega
          | _ => simp [isWh] at ha
      | _ => simp [isWh] at hb
theorem sp_need_chance {d : D} {st : Store} (h : vl d = true) (h2 : ∀ xs, d = .tup xs → xs.all vl = true) (g : isPt d 1000 = true) : WM (m_need_chance [d] st) (Is st .non) := by
  refine wm_runI rfl ?_
  unfold b_need_chance
  and_intros
  refine ⟨vl_no h, ?_⟩
  rw [wm_is (sp_is_part h h2), g]
  and_intros
  exact is_rfl
theorem sp_need_steps {k : Nat} {most : Int} {st : Store} (g : (k : Int) ≤ most) : WM (m_need_steps [.int k, .int most] st) (Is st .non) := by
  refine wm_runI rfl ?_
  unfold b_need_steps
  and_intros
  have e : isWh (.int k) 0 most = true := by simp [isWh, g]
  rw [wm_is (sp_is_whole rfl), e]
  and_intros
  exact is_rfl
/-! ### losses -/
def lossN : List Nat → Nat → Nat → Nat × Nat
  | [], t, b => (t, b)
  | c :: s, t, b => if c = 43 then lossN s (t * t) (b * b) else lossN s (2 * t * b - t * t) (b * b)
theorem tt_le {t b : Nat} (h : t ≤ b) : t * t ≤ 2 * t * b := by
  have : t * t ≤ t * b := Nat.mul_le_mul_left _ h
  rw [Nat.mul_assoc, Nat.two_mul]
  omega
theorem lt_le {t b : Nat} (h : t ≤ b) : 2 * t * b - t * t ≤ b * b := by
  obtain ⟨k, rfl⟩ := Nat.exists_eq_add_of_le h
  have : 2 * t * (t + k) = t * t + (t * t + 2 * (t * k)) := by
    rw [Nat.mul_assoc, Nat.mul_add, Nat.mul_add]
    have : 2 * (t * t) = t * t + t * t := Nat.two_mul _
    omega
  rw [this, Nat.add_sub_cancel_left]
  have : (t + k) * (t + k) = t * t + 2 * (t * k) + k * k := by
    rw [Nat.add_mul, Nat.mul_add, Nat.mul_add, Nat.mul_comm k t]
    omega
  omega
theorem loss_le : ∀ {s : List Nat} {t b : Nat}, t ≤ b → (lossN s t b).1 ≤ (lossN s t b).2
  | [], _, _, h => h
  | c :: s, t, b, h => by
    unfold lossN
    split
    · exact loss_le (Nat.mul_le_mul h h)
    · exact loss_le (lt_le h)
theorem loss_pos : ∀ {s : List Nat} {t b : Nat}, 0 < b → 0 < (lossN s t b).2
  | [], _, _, h => h
  | c :: s, t, b, h => by
    unfold lossN
    split <;> exact loss_pos (Nat.mul_pos h h)
theorem sq_lt {b k : Nat} (h : b < 2 ^ k) : b * b < 2 ^ (2 * k) := by
  rw [Nat.two_mul, Nat.pow_add]
  exact Nat.mul_lt_mul'' h h
theorem loss_lt : ∀ {s : List Nat} {t b k : Nat}, b < 2 ^ k → (lossN s t b).2 < 2 ^ (k * 2 ^ s.length)
  | [], _, _, k, h => by simpa [lossN] using h
  | c :: s, t, b, k, h => by
    have e : k * 2 ^ (c :: s).length = (2 * k) * 2 ^ s.length := by
      rw [List.length_cons, Nat.pow_succ, Nat.mul_comm 2 k, Nat.mul_assoc, Nat.mul_comm 2]
    rw [e]
    unfold lossN
    split <;> exact loss_lt (sq_lt h)
theorem cop_sq {t b : Nat} (h : Nat.gcd t b = 1) : Nat.gcd (t * t) (b * b) = 1 := by
  have h1 : Nat.Coprime t b := h
  exact Nat.Coprime.mul_left (Nat.Coprime.mul_right h1 h1) (Nat.Coprime.mul_right h1 h1)
theorem cop_mi {t b : Nat} (hl : t ≤ b) (h : Nat.gcd t b = 1) : Nat.gcd (2 * t * b - t * t) (b * b) = 1 := by
  have h1 : Nat.Coprime t b := h
  have e : 2 * t * b - t * t = t * (2 * b - t) := by
    rw [Nat.mul_sub, Nat.mul_comm 2 t, Nat.mul_assoc]
  have h2 : Nat.Coprime (2 * b - t) b := by
    have d1 : Nat.gcd (2 * b - t) b ∣ b := Nat.gcd_dvd_right _ _
    have d2 : Nat.gcd (2 * b - t) b ∣ 2 * b - t := Nat.gcd_dvd_left _ _
    have d3 : Nat.gcd (2 * b - t) b ∣ 2 * b - (2 * b - t) := Nat.dvd_sub (Nat.dvd_trans d1 (Nat.dvd_mul_left b 2)) d2
    have e3 : 2 * b - (2 * b - t) = t := by omega
    rw [e3] at d3
    exact Nat.dvd_one.mp (h ▸ Nat.dvd_gcd d3 d1)
  rw [e]
  exact Nat.Coprime.mul_left (Nat.Coprime.mul_right h1 h1) (Nat.Coprime.mul_right h2 h2)
theorem loss_cop : ∀ {s : List Nat} {t b : Nat}, t ≤ b → Nat.gcd t b = 1 → Nat.gcd (lossN s t b).1 (lossN s t b).2 = 1
  | [], _, _, _, h => h
  | c :: s, t, b, hl, h => by
    unfold lossN
    split
    · exact loss_cop (Nat.mul_le_mul hl hl) (cop_sq h)
    · exact loss_cop (lt_le hl) (cop_mi hl h)
abbrev frD (p : Nat × Nat) : D := .tup [.int p.1, .int p.2]
theorem sp_made_loss {s : List Nat} {t b k : Nat} {st : Store} (hl : t ≤ b) (hb : b < 2 ^ k) (hk : k * 2 ^ s.length < 400000) : WM (m_made_loss [.str s, .tup [.int t, .int b]] st) (Is st (frD (lossN s t b))) := by
  refine wm_runI rfl ?_
  unfold b_made_loss
  and_intros
  refine ws_forI (fun xs ρ st' => st' = st ∧ ∃ (r : List Nat) (t' b' k' : Nat) (o : Option D), xs = r.map sgn ∧ ρ = [some (.str s), some (.tup [.int t, .int b]), o, some (.int t'), some (.int b')] ∧ t' ≤ b' ∧ b' < 2 ^ k' ∧ k' * 2 ^ r.length < 400000 ∧ lossN r t' b' = lossN s t b) ⟨rfl, s, t, b, k, none, rfl, rfl, hl, hb, hk, rfl⟩ ?_ ?_
  · rintro x xs ρ st' ⟨rfl, r, t', b', k', o, hx, rfl, h1, h2, h3, h4⟩
    cases r with
    | nil => cases hx
    | cons c r =>
      rw [List.map_cons] at hx
      injection hx with e1 e2
      subst e1 e2
      and_intros
      have h3' : 2 * k' * 2 ^ r.length < 400000 := by
        have e : k' * 2 ^ (c :: r).length = (2 * k') * 2 ^ r.length := by
          rw [List.length_cons, Nat.pow_succ, Nat.mul_comm 2 k', Nat.mul_assoc, Nat.mul_comm 2]
        rw [← e]; exact h3
      have hk' : 2 * k' < 400000 := Nat.lt_of_le_of_lt (Nat.le_mul_of_pos_right _ (Nat.pos_of_ne_zero (by simp))) h3'
      have ht : t' < 2 ^ k' := Nat.lt_of_le_of_lt h1 h2
      have m1 : mulOk (t' : Int) t' = true := mulok (a := k') (b := k') (by simpa using ht) (by simpa using ht) (by omega)
      have m2 : mulOk (b' : Int) b' = true := mulok (a := k') (b := k') (by simpa using h2) (by simpa using h2) (by omega)
      have m3 : mulOk (2 * (t' : Int)) b' = true := mulok (a := k' + 1) (b := k') (by rw [Nat.pow_succ]; omega) (by simpa using h2) (by omega)
      by_cases hc : c = 43
      · subst hc
        rw [if_pos (by simp)]
        refine ⟨m1, m2, ?_⟩
        refine ⟨r, t' * t', b' * b', 2 * k', some (sgn 43), rfl, by simp [sgn], Nat.mul_le_mul h1 h1, sq_lt h2, h3', ?_⟩
        rw [← h4]
        exact (if_pos (show (43 : Nat) = 43 from rfl)).symm
      · rw [if_neg (by simp; exact hc)]
        refine ⟨mulok1 (by decide), m3, m1, m2, ?_⟩
        refine ⟨r, 2 * t' * b' - t' * t', b' * b', 2 * k', some (sgn c), rfl, ?_, lt_le h1, sq_lt h2, h3', ?_⟩
        · rw [Int.ofNat_sub (tt_le h1)]
          simp [sgn]
        · rw [← h4]
          conv => rhs; unfold lossN
          rw [if_neg hc]
  · rintro ρ st' ⟨rfl, r, t', b', k', o, hx, rfl, h1, h2, h3, h4⟩
    cases r with
    | cons c r => cases hx
    | nil =>
      and_intros
      exact ⟨by decide, is_of (by rw [← h4]; rfl)⟩
theorem log_of {n a : Nat} (h : n < 2 ^ a) (ha : a < 9000) : n.log2 < 9000 := Nat.lt_of_le_of_lt (log_le h) ha
theorem sp__law_loss {s : List Nat} {t b k : Nat} {st : Store} (hl : t ≤ b) (h0 : 0 < b) (hb : b < 2 ^ k) (hk : k * 2 ^ s.length < 9000) (hg : Nat.gcd t b = 1) : WM (m__law_loss [.str s, .tup [.int t, .int b]] st) (Is st (frD (lossN s t b))) := by
  refine wm_runI rfl ?_
  unfold b__law_loss
  and_intros
  refine ws_forI (fun xs ρ st' => st' = st ∧ ∃ (r : List Nat) (t' b' k' : Nat) (o p : Option D), xs = r.map sgn ∧ ρ = [some (.str s), some (.tup [.int t, .int b]), o, some (.int t'), some (.int (b' - t')), p] ∧ t' ≤ b' ∧ b' < 2 ^ k' ∧ k' * 2 ^ r.length < 9000 ∧ lossN r t' b' = lossN s t b) ⟨rfl, s, t, b, k, none, none, rfl, rfl, hl, hb, hk, rfl⟩ ?_ ?_
  · rintro x xs ρ st' ⟨rfl, r, t', b', k', o, p, hx, rfl, h1, h2, h3, h4⟩
    cases r with
    | nil => cases hx
    | cons c r =>
      rw [List.map_cons] at hx
      injection hx with e1 e2
      subst e1 e2
      and_intros
      have h3' : 2 * k' * 2 ^ r.length < 9000 := by
        have e : k' * 2 ^ (c :: r).length = (2 * k') * 2 ^ r.length := by
          rw [List.length_cons, Nat.pow_succ, Nat.mul_comm 2 k', Nat.mul_assoc, Nat.mul_comm 2]
        rw [← e]; exact h3
      have hk' : 2 * k' < 9000 := Nat.lt_of_le_of_lt (Nat.le_mul_of_pos_right _ (Nat.pos_of_ne_zero (by simp))) h3'
      have ht : t' < 2 ^ k' := Nat.lt_of_le_of_lt h1 h2
      have e0 : (t' : Int) + (b' - t') = b' := by omega
      rw [e0]
      have m1 : mulOk (t' : Int) t' = true := mulok (a := k') (b := k') (by simpa using ht) (by simpa using ht) (by omega)
      have m2 : mulOk (b' : Int) b' = true := mulok (a := k') (b := k') (by simpa using h2) (by simpa using h2) (by omega)
      have m3 : mulOk ((b' : Int) - t') (b' - t') = true := mulok (a := k') (b := k') (by omega) (by omega) (by omega)
      refine ⟨m2, ?_⟩
      by_cases hc : c = 43
      · subst hc
        rw [if_pos (by simp)]
        refine ⟨m1, m1, ?_⟩
        refine ⟨r, t' * t', b' * b', 2 * k', some (sgn 43), _, rfl, by simp [sgn]; rfl, Nat.mul_le_mul h1 h1, sq_lt h2, h3', ?_⟩
        rw [← h4]
        exact (if_pos (show (43 : Nat) = 43 from rfl)).symm
      · rw [if_neg (by simp; exact hc)]
        refine ⟨m3, m3, ?_⟩
        have e1 : (b' : Int) * b' - (b' - t') * (b' - t') = ((2 * t' * b' - t' * t' : Nat) : Int) := by
          rw [Int.ofNat_sub (tt_le h1)]
          simp only [Int.natCast_mul, Int.sub_mul, Int.mul_sub]
          rw [Int.mul_comm (t' : Int) b', show ((2 : Nat) : Int) = 2 from rfl, Int.mul_assoc, Int.mul_comm (t' : Int) b']
          omega
        have e2 : ((b' : Int) - t') * (b' - t') = ((b' * b' : Nat) : Int) - ((2 * t' * b' - t' * t' : Nat) : Int) := by
          rw [← e1]
          simp only [Int.natCast_mul]
          omega
        rw [e1, e2]
        refine ⟨r, 2 * t' * b' - t' * t', b' * b', 2 * k', some (sgn c), _, rfl, by simp [sgn]; rfl, lt_le h1, sq_lt h2, h3', ?_⟩
        rw [← h4]
        conv => rhs; unfold lossN
        rw [if_neg hc]
  · rintro ρ st' ⟨rfl, r, t', b', k', o, p, hx, rfl, h1, h2, h3, h4⟩
    cases r with
    | cons c r => cases hx
    | nil =>
      and_intros
      have e0 : (t' : Int) + (b' - t') = b' := by omega
      rw [e0]
      have h5 : (t', b') = lossN s t b := h4
      have hp : 0 < b' := by
        have := loss_pos (s := s) (t := t) h0
        rw [← h5] at this
        exact this
      have hg2 : Nat.gcd t' b' = 1 := by
        have := loss_cop (s := s) hl hg
        rw [← h5] at this
        exact this
      rw [wm_is (sp__law_low hp (log_of h2 (by simpa using h3)))]
      exact ⟨rfl, is_of (by rw [hg2, Nat.div_one, Nat.div_one, ← h5])⟩
end MM

namespace MM
open DL
/-! ### what is drawn -/
structure Ch (t b : Nat) : Prop where
  le : t ≤ b
  pos : 0 < b
  lt : b ≤ 1000
  cop : Nat.gcd t b = 1
theorem Ch.part {t b : Nat} (c : Ch t b) : isPt (frD (t, b)) 1000 = true := by
  have h1 := c.le
  have h2 := c.pos
  have h3 := c.lt
  have h4 := c.cop
  simp only [frD, isPt, isWh]
  simp [h1, h3, Int.gcd, h4]
  omega
theorem Ch.b10 {t b : Nat} (c : Ch t b) : b < 2 ^ 10 := by have := c.lt; omega
theorem div_gcd_cop {a b : Nat} (hb : 0 < b) : Nat.gcd (a / Nat.gcd a b) (b / Nat.gcd a b) = 1 := Nat.coprime_div_gcd_div_gcd (Nat.gcd_pos_of_pos_right _ hb)
theorem sp__law_chance {st : Store} {n : Nat} (v : VatAt n st) : WM (m__law_chance [.cel n] st) fun d st' => (∃ t b : Nat, d = frD (t, b) ∧ Ch t b) ∧ Sm n st st' := by
  refine wm_run rfl ?_
  unfold b__law_chance
  and_intros
  refine ⟨by decide, (sp_some v (by decide) (by decide)).imp fun d st1 ⟨hd, s1⟩ => ?_⟩
  have hb : ∃ b : Nat, d = .int b ∧ 0 < b ∧ b ≤ 1000 := by
    simp only [List.mem_cons, List.not_mem_nil, or_false] at hd
    rcases hd with rfl | rfl | rfl | rfl | rfl | rfl | rfl | rfl | rfl | rfl
    · exact ⟨1, rfl, by decide, by decide⟩
    · exact ⟨2, rfl, by decide, by decide⟩
    · exact ⟨3, rfl, by decide, by decide⟩
    · exact ⟨4, rfl, by decide, by decide⟩
    · exact ⟨5, rfl, by decide, by decide⟩
    · exact ⟨7, rfl, by decide, by decide⟩
    · exact ⟨10, rfl, by decide, by decide⟩
    · exact ⟨100, rfl, by decide, by decide⟩
    · exact ⟨1000, rfl, by decide, by decide⟩
    · exact ⟨997, rfl, by decide, by decide⟩
  obtain ⟨b, rfl, h0, h1⟩ := hb
  and_intros
  refine (sp_under s1.vat (by omega) (by omega)).imp fun d st2 ⟨⟨r, e, hr⟩, s2⟩ => ?_
  subst e
  have s12 := s1.trans s2
  and_intros
  rw [wm_is (sp__law_low h0 (log_of (n := b) (a := 10) (by omega) (by decide)))]
  have hg : 0 < Nat.gcd r b := Nat.gcd_pos_of_pos_right _ h0
  refine ⟨rfl, s12.len, ⟨_, _, rfl, ?_, ?_, ?_, div_gcd_cop h0⟩, s12⟩
  · exact Nat.div_le_div_right (by omega)
  · exact Nat.div_pos (Nat.le_of_dvd h0 (Nat.gcd_dvd_right _ _)) hg
  · exact Nat.le_trans (Nat.div_le_self _ _) h1
theorem join_signs : ∀ ss : List (List Nat), (∀ s ∈ ss, s = [45] ∨ s = [43]) → (joinS [] ss).length = ss.length ∧ (joinS [] ss).all sgnB = true ∧ (ss.map List.length).sum = ss.length
  | [], _ => ⟨rfl, rfl, rfl⟩
  | [s], h => by
    rcases h s List.mem_cons_self with rfl | rfl <;> exact ⟨rfl, rfl, rfl⟩
  | s :: t :: r, h => by
    obtain ⟨e1, e2, e3⟩ := join_signs (t :: r) fun z hz => h z (List.mem_cons_of_mem _ hz)
    have ej : joinS [] (s :: t :: r) = s ++ joinS [] (t :: r) := by simp [joinS]
    rw [ej]
    rcases h s List.mem_cons_self with rfl | rfl
    · refine ⟨by simp [e1], by rw [List.all_append, e2]; rfl, by simp only [List.map_cons, List.sum_cons, List.length_cons] at e3 ⊢; simp at e3 ⊢; omega⟩
    · refine ⟨by simp [e1], by rw [List.all_append, e2]; rfl, by simp only [List.map_cons, List.sum_cons, List.length_cons] at e3 ⊢; simp at e3 ⊢; omega⟩
theorem two_strs : ∀ {xs ys : List D}, All2 (fun _ y => y = D.str [45] ∨ y = D.str [43]) xs ys → ∃ ss : List (List Nat), ys = ss.map D.str ∧ ∀ s ∈ ss, s = [45] ∨ s = [43]
  | _, _, .nil => ⟨[], rfl, fun s h => by cases h⟩
  | _, _, .cons h r => by
    obtain ⟨ss, rfl, hs⟩ := two_strs r
    rcases h with rfl | rfl
    · exact ⟨[45] :: ss, rfl, fun s h => (List.mem_cons.mp h).elim .inl (hs s)⟩
    · exact ⟨[43] :: ss, rfl, fun s h => (List.mem_cons.mp h).elim .inr (hs s)⟩
theorem rngL_len {lo : Int} {n : Nat} : (rngL lo n).length = n := by simp [rngL]
theorem rok {j : Nat} (h : j < 2 ^ 61) : rOk j = true := by unfold rOk; simp; omega
theorem sp__law_signs {st : Store} {n : Nat} {most : Nat} (v : VatAt n st) (hmo : most < 100) : WM (m__law_signs [.cel n, .int most] st) fun d st' => (∃ s, d = .str s ∧ s.length ≤ most ∧ s.all sgnB = true) ∧ Sm n st st' := by
  refine wm_run rfl ?_
  unfold b__law_signs
  and_intros
  refine (sp_under v (by omega) (by omega)).imp fun d st1 ⟨⟨r, e, hr⟩, s1⟩ => ?_
  subst e
  and_intros
  refine ⟨rok (by omega), by rw [rngL_len]; unfold LIM; omega, ?_⟩
  refine wm_cmpI (Sm n st) (fun _ y => y = D.str [45] ∨ y = D.str [43]) s1 (fun x _ st2 s2 => ?_) fun ys st3 s3 ha => ?_
  · show WM (gNm 2 x [some (.cel n), some (.int most), none] st2) _
    and_intros
    refine ⟨by decide, (sp_some s2.vat (by decide) (by decide)).imp fun d st3 ⟨hd, s3⟩ => ⟨s2.trans s3, ?_⟩⟩
    simpa using hd
  · obtain ⟨ss, rfl, hs⟩ := two_strs ha
    obtain ⟨j1, j2, j3⟩ := join_signs ss hs
    have hl := ha.len
    rw [List.length_map, rngL_len] at hl
    have hr2 : (r : Int).toNat = r := by omega
    and_intros
    refine ⟨by rw [j3]; unfold LIM; omega, s3.len, ⟨_, rfl, by omega, j2⟩, s3⟩
/-! ### all signs of so many steps -/
def every : Nat → List (List Nat)
  | 0 => [[]]
  | n + 1 => (every n).flatMap fun s => [s ++ [45], s ++ [43]]
theorem every_mem : ∀ {n : Nat} {s : List Nat}, s ∈ every n → s.length = n ∧ s.all sgnB = true
  | 0, s, h => by simp [every] at h; subst h; exact ⟨rfl, rfl⟩
  | n + 1, s, h => by
    obtain ⟨t, ht, h2⟩ := List.mem_flatMap.mp (show s ∈ (every n).flatMap _ from h)
    obtain ⟨h3, h4⟩ := every_mem ht
    simp only [List.mem_cons, List.not_mem_nil, or_false] at h2
    rcases h2 with rfl | rfl
    · exact ⟨by simp [h3], by rw [List.all_append, h4]; rfl⟩
    · exact ⟨by simp [h3], by rw [List.all_append, h4]; rfl⟩
theorem every_has : ∀ {n : Nat} {s : List Nat}, s.length = n → s.all sgnB = true → s ∈ every n
  | 0, s, h, _ => by
    have := List.length_eq_zero_iff.mp h
    subst this
    simp [every]
  | n + 1, s, h, hs => by
    have hne : s ≠ [] := fun e => by subst e; simp at h
    have e := List.dropLast_concat_getLast hne
    have h1 : s.dropLast.length = n := by rw [List.length_dropLast]; omega
    rw [← e, List.all_append] at hs
    obtain ⟨h2, h3⟩ := Bool.and_eq_true_iff.mp hs
    have i := every_has h1 h2
    have h4 : sgnB (s.getLast hne) = true := by simpa using h3
    unfold sgnB at h4
    refine List.mem_flatMap.mpr ⟨_, i, ?_⟩
    rw [← e]
    rcases Bool.or_eq_true_iff.mp h4 with q | q <;> rw [of_decide_eq_true q] <;> simp
theorem every_len : ∀ n : Nat, (every n).length = 2 ^ n
  | 0 => rfl
  | n + 1 => by
    have : ∀ l : List (List Nat), (l.flatMap fun s => [s ++ [45], s ++ [43]]).length = 2 * l.length := fun l => by
      induction l with
      | nil => rfl
      | cons a r ih => rw [List.flatMap_cons, List.length_append, ih, List.length_cons, List.length_cons, List.length_cons, List.length_nil]; omega
    have e := this (every n)
    rw [every_len n] at e
    rw [Nat.pow_succ, Nat.mul_comm, ← e]
    rfl
theorem sp__law_every {n : Nat} {st : Store} (h : n ≤ 5) (hn : nhS st = true) : WM (m__law_every [.int n] st) (Is st (.lst ((every n).map D.str))) := by
  refine wm_pf pf__law_every _ ?_ hn
  match n, h with
  | 0, _ => kernel_rfl
  | 1, _ => kernel_rfl
  | 2, _ => kernel_rfl
  | 3, _ => kernel_rfl
  | 4, _ => kernel_rfl
  | 5, _ => kernel_rfl
theorem sp_all_signs {n : Nat} {st : Store} (h : n ≤ 5) (hn : nhS st = true) : WM (m_all_signs [.int n] st) (Is st (.lst ((every n).map D.str))) := by
  refine wm_pf pf_all_signs _ ?_ hn
  match n, h with
  | 0, _ => kernel_rfl
  | 1, _ => kernel_rfl
  | 2, _ => kernel_rfl
  | 3, _ => kernel_rfl
  | 4, _ => kernel_rfl
  | 5, _ => kernel_rfl
theorem good_of {s : List Nat} (h : s.length ≤ 5) (h2 : s.all sgnB = true) : isGood (.str s) = true := by
  simp [isGood, h, h2]
theorem vl_str {s : List Nat} (h : s.length ≤ 1000) : vl (.str s) = true := by
  unfold vl
  exact decide_eq_true (by unfold LIM; omega)
theorem vl_fr {p : Nat × Nat} : ∀ xs, frD p = .tup xs → xs.all vl = true := fun xs h => by
  cases h; rfl
theorem sp_loss {s : List Nat} {t b : Nat} {st : Store} (h : s.length ≤ 5) (h2 : s.all sgnB = true) (c : Ch t b) : WM (m_loss [.str s, frD (t, b)] st) (Is st (frD (lossN s t b))) := by
  refine wm_runI rfl ?_
  unfold b_loss
  and_intros
  rw [wm_is (sp_need_signs (vl_str (by omega)) (good_of h h2))]
  and_intros
  rw [wm_is (sp_need_chance rfl vl_fr c.part)]
  and_intros
  have : 2 ^ s.length ≤ 2 ^ 5 := Nat.pow_le_pow_right (by decide) h
  rw [wm_is (sp_made_loss (k := 10) c.le c.b10 (by omega))]
  exact ⟨rfl, is_rfl⟩
theorem sp_lawloss {s : List Nat} {t b : Nat} {st : Store} (h : s.length ≤ 5) (c : Ch t b) : WM (m__law_loss [.str s, frD (t, b)] st) (Is st (frD (lossN s t b))) := by
  refine sp__law_loss c.le c.pos c.b10 ?_ c.cop
  have : 2 ^ s.length ≤ 2 ^ 5 := Nat.pow_le_pow_right (by decide) h
  omega
theorem sp_losses {n : Nat} {t b : Nat} {st : Store} (h : n ≤ 5) (c : Ch t b) : WM (m_losses [.int n, frD (t, b)] st) (Is st (.lst ((every n).map fun s => frD (lossN s t b)))) := by
  refine wm_runI rfl ?_
  unfold b_losses
  and_intros
  rw [wm_is (sp_need_steps (by omega))]
  and_intros
  rw [wm_is (sp_need_chance rfl vl_fr c.part)]
  and_intros
  rw [wm_is (sp_all_signs h rfl)]
  and_intros
  have hl := every_len n
  have h32 : 2 ^ n ≤ 2 ^ 5 := Nat.pow_le_pow_right (by decide) h
  refine ⟨by rw [List.length_map, hl]; unfold LIM; omega, ?_⟩
  refine wm_cmpM (fun x => match x with
    | .str s => frD (lossN s t b)
    | _ => .non) (fun x hx => ?_) ?_
  · obtain ⟨s, hs, rfl⟩ := List.mem_map.mp hx
    obtain ⟨h1, h2⟩ := every_mem hs
    show WM (gNm 2 (.str s) [some (.int n), some (frD (t, b)), none] st) _
    and_intros
    rw [wm_is (sp_made_loss (k := 10) c.le c.b10 (by rw [h1]; omega))]
    exact ⟨rfl, rfl, rfl⟩
  · refine is_of ?_
    rw [List.map_map]
    rfl
end MM

namespace K01
open PySem PySem.Spec PyProof.Rows L2 DL MM
abbrev topS (i : Nat) : Stmt := PySem.Challenge.pw_splituses_k01_whole_losses_and_polynomia.main.body.getD i (.Pass ⟨0, 0, 0, 0⟩)
def tbK (K : PySem.W.Frag) : Tb := ⟨[He.ga K "common_of", He.ga K "is_whole", He.ga K "is_part", He.ga K "is_good", He.ga K "need_signs", He.ga K "need_chance", He.ga K "need_steps", He.ga K "made_loss", He.ga K "joined", He.ga K "made_polynomial", He.ga K "number_by", He.ga K "signs_by", He.ga K "all_signs", He.ga K "is_within", He.ga K "is_signs", He.ga K "loss", He.ga K "polynomial", He.ga K "number_of", He.ga K "signs_of", He.ga K "losses", He.ga K "count_between", He.ga K "_law_vat", He.ga K "_law_under", He.ga K "_law_some", He.ga K "_law_truly", He.ga K "_law_gcd", He.ga K "_law_low", He.ga K "_law_is_signs", He.ga K "_law_loss", He.ga K "_law_less", He.ga K "_law_every", He.ga K "_law_chance", He.ga K "_law_signs", He.ga K "_law_spoilt", He.ga K "_law_names", He.ga K "_law_error", He.ga K "_law_all_refused", He.ga K "_law_bad_signs", He.ga K "_law_bad_chances", He.ga K "_law_poly", He.ga K "_law_bounds", He.ga K "_law_refused", He.ga K "_law_written", He.ga K "law"], fun c => ([He.ga K "InvalidSigns", He.ga K "InvalidChance", He.ga K "InvalidNumber", He.ga K "InvalidCode", He.ga K "InvalidData", He.ga K "InvalidSeen", He.ga K "InvalidLost", He.ga K "InvalidTable", He.ga K "InvalidFacts", He.ga K "InvalidShare", He.ga K "InvalidPlace", He.ga K "InvalidSign", He.ga K "InvalidText", He.ga K "Misfit", He.ga K "Unlike", He.ga K "NothingToUndo"] : List Addr).getD c 0, fun _ => 0, [((He.cT K ("_law_all_refused", none)).2, ("_law_all_refused" : Str) ++ ".<locals>." ++ "<lambda>"), ((He.cT K ("_law_refused", none)).2, ("_law_refused" : Str) ++ ".<locals>." ++ "<lambda>"), ((He.cT K ("_law_written", none)).2, ("_law_written" : Str) ++ ".<locals>." ++ "<lambda>")]⟩
structure Fz (K : PySem.W.Frag) (mg : Str → Option Value) (base : Heap) : Prop where
  n_ValueError : mg "ValueError" = none
  n_abs : mg "abs" = none
  n_all : mg "all" = none
  n_bool : mg "bool" = none
  n_enumerate : mg "enumerate" = none
  n_int : mg "int" = none
  n_isinstance : mg "isinstance" = none
  n_len : mg "len" = none
  n_list : mg "list" = none
  n_max : mg "max" = none
  n_min : mg "min" = none
  n_range : mg "range" = none
  n_str : mg "str" = none
  n_sum : mg "sum" = none
  n_tuple : mg "tuple" = none
  n_zip : mg "zip" = none
  c_MOST_SIGNS : ∃ t, mg "MOST_SIGNS" = some (.int 5 t)
  c_MOST_BELOW : ∃ t, mg "MOST_BELOW" = some (.int 1000 t)
  c_FAR : ∃ t, mg "FAR" = some (.int 1000000000000000000000000000000 t)
  m_common_of : mg "common_of" = some (.ref (He.ga K "common_of"))
  k_common_of : PySem.W.keepIn K (.ref (He.ga K "common_of")) = true
  d_common_of : ∃ fd, L2.Fun K "common_of" "common_of" (topS 23) (He.ga K "common_of") fd
  m_is_whole : mg "is_whole" = some (.ref (He.ga K "is_whole"))
  k_is_whole : PySem.W.keepIn K (.ref (He.ga K "is_whole")) = true
  d_is_whole : ∃ fd, L2.Fun K "is_whole" "is_whole" (topS 24) (He.ga K "is_whole") fd
  m_is_part : mg "is_part" = some (.ref (He.ga K "is_part"))
  k_is_part : PySem.W.keepIn K (.ref (He.ga K "is_part")) = true
  d_is_part : ∃ fd, L2.Fun K "is_part" "is_part" (topS 25) (He.ga K "is_part") fd
  m_is_good : mg "is_good" = some (.ref (He.ga K "is_good"))
  k_is_good : PySem.W.keepIn K (.ref (He.ga K "is_good")) = true
  d_is_good : ∃ fd, L2.Fun K "is_good" "is_good" (topS 26) (He.ga K "is_good") fd
  m_need_signs : mg "need_signs" = some (.ref (He.ga K "need_signs"))
  k_need_signs : PySem.W.keepIn K (.ref (He.ga K "need_signs")) = true
  d_need_signs : ∃ fd, L2.Fun K "need_signs" "need_signs" (topS 27) (He.ga K "need_signs") fd
  m_need_chance : mg "need_chance" = some (.ref (He.ga K "need_chance"))
  k_need_chance : PySem.W.keepIn K (.ref (He.ga K "need_chance")) = true
  d_need_chance : ∃ fd, L2.Fun K "need_chance" "need_chance" (topS 28) (He.ga K "need_chance") fd
  m_need_steps : mg "need_steps" = some (.ref (He.ga K "need_steps"))
  k_need_steps : PySem.W.keepIn K (.ref (He.ga K "need_steps")) = true
  d_need_steps : ∃ fd, L2.Fun K "need_steps" "need_steps" (topS 29) (He.ga K "need_steps") fd
  m_made_loss : mg "made_loss" = some (.ref (He.ga K "made_loss"))
  k_made_loss : PySem.W.keepIn K (.ref (He.ga K "made_loss")) = true
  d_made_loss : ∃ fd, L2.Fun K "made_loss" "made_loss" (topS 30) (He.ga K "made_loss") fd
  m_joined : mg "joined" = some (.ref (He.ga K "joined"))
  k_joined : PySem.W.keepIn K (.ref (He.ga K "joined")) = true
  d_joined : ∃ fd, L2.Fun K "joined" "joined" (topS 31) (He.ga K "joined") fd
  m_made_polynomial : mg "made_polynomial" = some (.ref (He.ga K "made_polynomial"))
  k_made_polynomial : PySem.W.keepIn K (.ref (He.ga K "made_polynomial")) = true
  d_made_polynomial : ∃ fd, L2.Fun K "made_polynomial" "made_polynomial" (topS 32) (He.ga K "made_polynomial") fd
  m_number_by : mg "number_by" = some (.ref (He.ga K "number_by"))
  k_number_by : PySem.W.keepIn K (.ref (He.ga K "number_by")) = true
  d_number_by : ∃ fd, L2.Fun K "number_by" "number_by" (topS 33) (He.ga K "number_by") fd
  m_signs_by : mg "signs_by" = some (.ref (He.ga K "signs_by"))
  k_signs_by : PySem.W.keepIn K (.ref (He.ga K "signs_by")) = true
  d_signs_by : ∃ fd, L2.Fun K "signs_by" "signs_by" (topS 34) (He.ga K "signs_by") fd
  m_all_signs : mg "all_signs" = some (.ref (He.ga K "all_signs"))
  k_all_signs : PySem.W.keepIn K (.ref (He.ga K "all_signs")) = true
  d_all_signs : ∃ fd, L2.Fun K "all_signs" "all_signs" (topS 35) (He.ga K "all_signs") fd
  m_is_within : mg "is_within" = some (.ref (He.ga K "is_within"))
  k_is_within : PySem.W.keepIn K (.ref (He.ga K "is_within")) = true
  d_is_within : ∃ fd, L2.Fun K "is_within" "is_within" (topS 36) (He.ga K "is_within") fd
  m_is_signs : mg "is_signs" = some (.ref (He.ga K "is_signs"))
  k_is_signs : PySem.W.keepIn K (.ref (He.ga K "is_signs")) = true
  d_is_signs : ∃ fd, L2.Fun K "is_signs" "is_signs" (topS 37) (He.ga K "is_signs") fd
  m_loss : mg "loss" = some (.ref (He.ga K "loss"))
  k_loss : PySem.W.keepIn K (.ref (He.ga K "loss")) = true
  d_loss : ∃ fd, L2.Fun K "loss" "loss" (topS 38) (He.ga K "loss") fd
  m_polynomial : mg "polynomial" = some (.ref (He.ga K "polynomial"))
  k_polynomial : PySem.W.keepIn K (.ref (He.ga K "polynomial")) = true
  d_polynomial : ∃ fd, L2.Fun K "polynomial" "polynomial" (topS 39) (He.ga K "polynomial") fd
  m_number_of : mg "number_of" = some (.ref (He.ga K "number_of"))
  k_number_of : PySem.W.keepIn K (.ref (He.ga K "number_of")) = true
  d_number_of : ∃ fd, L2.Fun K "number_of" "number_of" (topS 40) (He.ga K "number_of") fd
  m_signs_of : mg "signs_of" = some (.ref (He.ga K "signs_of"))
  k_signs_of : PySem.W.keepIn K (.ref (He.ga K "signs_of")) = true
  d_signs_of : ∃ fd, L2.Fun K "signs_of" "signs_of" (topS 41) (He.ga K "signs_of") fd
  m_losses : mg "losses" = some (.ref (He.ga K "losses"))
  k_losses : PySem.W.keepIn K (.ref (He.ga K "losses")) = true
  d_losses : ∃ fd, L2.Fun K "losses" "losses" (topS 42) (He.ga K "losses") fd
  m_count_between : mg "count_between" = some (.ref (He.ga K "count_between"))
  k_count_between : PySem.W.keepIn K (.ref (He.ga K "count_between")) = true
  d_count_between : ∃ fd, L2.Fun K "count_between" "count_between" (topS 43) (He.ga K "count_between") fd
  m__law_vat : mg "_law_vat" = some (.ref (He.ga K "_law_vat"))
  k__law_vat : PySem.W.keepIn K (.ref (He.ga K "_law_vat")) = true
  d__law_vat : ∃ fd, L2.Fun K "_law_vat" "_law_vat" (topS 45) (He.ga K "_law_vat") fd
  m__law_under : mg "_law_under" = some (.ref (He.ga K "_law_under"))
  k__law_under : PySem.W.keepIn K (.ref (He.ga K "_law_under")) = true
  d__law_under : ∃ fd, L2.Fun K "_law_under" "_law_under" (topS 46) (He.ga K "_law_under") fd
  m__law_some : mg "_law_some" = some (.ref (He.ga K "_law_some"))
  k__law_some : PySem.W.keepIn K (.ref (He.ga K "_law_some")) = true
  d__law_some : ∃ fd, L2.Fun K "_law_some" "_law_some" (topS 47) (He.ga K "_law_some") fd
  m__law_truly : mg "_law_truly" = some (.ref (He.ga K "_law_truly"))
  k__law_truly : PySem.W.keepIn K (.ref (He.ga K "_law_truly")) = true
  d__law_truly : ∃ fd, L2.Fun K "_law_truly" "_law_truly" (topS 48) (He.ga K "_law_truly") fd
  m__law_gcd : mg "_law_gcd" = some (.ref (He.ga K "_law_gcd"))
  k__law_gcd : PySem.W.keepIn K (.ref (He.ga K "_law_gcd")) = true
  d__law_gcd : ∃ fd, L2.Fun K "_law_gcd" "_law_gcd" (topS 49) (He.ga K "_law_gcd") fd
  m__law_low : mg "_law_low" = some (.ref (He.ga K "_law_low"))
  k__law_low : PySem.W.keepIn K (.ref (He.ga K "_law_low")) = true
  d__law_low : ∃ fd, L2.Fun K "_law_low" "_law_low" (topS 50) (He.ga K "_law_low") fd
  m__law_is_signs : mg "_law_is_signs" = some (.ref (He.ga K "_law_is_signs"))
  k__law_is_signs : PySem.W.keepIn K (.ref (He.ga K "_law_is_signs")) = true
  d__law_is_signs : ∃ fd, L2.Fun K "_law_is_signs" "_law_is_signs" (topS 51) (He.ga K "_law_is_signs") fd
  m__law_loss : mg "_law_loss" = some (.ref (He.ga K "_law_loss"))
  k__law_loss : PySem.W.keepIn K (.ref (He.ga K "_law_loss")) = true
  d__law_loss : ∃ fd, L2.Fun K "_law_loss" "_law_loss" (topS 52) (He.ga K "_law_loss") fd
  m__law_less : mg "_law_less" = some (.ref (He.ga K "_law_less"))
  k__law_less : PySem.W.keepIn K (.ref (He.ga K "_law_less")) = true
  d__law_less : ∃ fd, L2.Fun K "_law_less" "_law_less" (topS 53) (He.ga K "_law_less") fd
  m__law_every : mg "_law_every" = some (.ref (He.ga K "_law_every"))
  k__law_every : PySem.W.keepIn K (.ref (He.ga K "_law_every")) = true
  d__law_every : ∃ fd, L2.Fun K "_law_every" "_law_every" (topS 54) (He.ga K "_law_every") fd
  m__law_chance : mg "_law_chance" = some (.ref (He.ga K "_law_chance"))
  k__law_chance : PySem.W.keepIn K (.ref (He.ga K "_law_chance")) = true
  d__law_chance : ∃ fd, L2.Fun K "_law_chance" "_law_chance" (topS 55) (He.ga K "_law_chance") fd
  m__law_signs : mg "_law_signs" = some (.ref (He.ga K "_law_signs"))
  k__law_signs : PySem.W.keepIn K (.ref (He.ga K "_law_signs")) = true
  d__law_signs : ∃ fd, L2.Fun K "_law_signs" "_law_signs" (topS 56) (He.ga K "_law_signs") fd
  m__law_spoilt : mg "_law_spoilt" = some (.ref (He.ga K "_law_spoilt"))
  k__law_spoilt : PySem.W.keepIn K (.ref (He.ga K "_law_spoilt")) = true
  d__law_spoilt : ∃ fd, L2.Fun K "_law_spoilt" "_law_spoilt" (topS 57) (He.ga K "_law_spoilt") fd
  m__law_names : mg "_law_names" = some (.ref (He.ga K "_law_names"))
  k__law_names : PySem.W.keepIn K (.ref (He.ga K "_law_names")) = true
  d__law_names : ∃ fd, L2.Fun K "_law_names" "_law_names" (topS 58) (He.ga K "_law_names") fd
  m__law_error : mg "_law_error" = some (.ref (He.ga K "_law_error"))
  k__law_error : PySem.W.keepIn K (.ref (He.ga K "_law_error")) = true
  d__law_error : ∃ fd, L2.Fun K "_law_error" "_law_error" (topS 59) (He.ga K "_law_error") fd
  m__law_all_refused : mg "_law_all_refused" = some (.ref (He.ga K "_law_all_refused"))
  k__law_all_refused : PySem.W.keepIn K (.ref (He.ga K "_law_all_refused")) = true
  d__law_all_refused : ∃ fd, L2.Fun K "_law_all_refused" "_law_all_refused" (topS 60) (He.ga K "_law_all_refused") fd
  m__law_bad_signs : mg "_law_bad_signs" = some (.ref (He.ga K "_law_bad_signs"))
  k__law_bad_signs : PySem.W.keepIn K (.ref (He.ga K "_law_bad_signs")) = true
  d__law_bad_signs : ∃ fd, L2.Fun K "_law_bad_signs" "_law_bad_signs" (topS 61) (He.ga K "_law_bad_signs") fd
  m__law_bad_chances : mg "_law_bad_chances" = some (.ref (He.ga K "_law_bad_chances"))
  k__law_bad_chances : PySem.W.keepIn K (.ref (He.ga K "_law_bad_chances")) = true
  d__law_bad_chances : ∃ fd, L2.Fun K "_law_bad_chances" "_law_bad_chances" (topS 62) (He.ga K "_law_bad_chances") fd
  m__law_poly : mg "_law_poly" = some (.ref (He.ga K "_law_poly"))
  k__law_poly : PySem.W.keepIn K (.ref (He.ga K "_law_poly")) = true
  d__law_poly : ∃ fd, L2.Fun K "_law_poly" "_law_poly" (topS 63) (He.ga K "_law_poly") fd
  m__law_bounds : mg "_law_bounds" = some (.ref (He.ga K "_law_bounds"))
  k__law_bounds : PySem.W.keepIn K (.ref (He.ga K "_law_bounds")) = true
  d__law_bounds : ∃ fd, L2.Fun K "_law_bounds" "_law_bounds" (topS 64) (He.ga K "_law_bounds") fd
  m__law_refused : mg "_law_refused" = some (.ref (He.ga K "_law_refused"))
  k__law_refused : PySem.W.keepIn K (.ref (He.ga K "_law_refused")) = true
  d__law_refused : ∃ fd, L2.Fun K "_law_refused" "_law_refused" (topS 65) (He.ga K "_law_refused") fd
  m__law_written : mg "_law_written" = some (.ref (He.ga K "_law_written"))
  k__law_written : PySem.W.keepIn K (.ref (He.ga K "_law_written")) = true
  d__law_written : ∃ fd, L2.Fun K "_law_written" "_law_written" (topS 66) (He.ga K "_law_written") fd
  m_law : mg "law" = some (.ref (He.ga K "law"))
  k_law : PySem.W.keepIn K (.ref (He.ga K "law")) = true
  d_law : ∃ fd, L2.Fun K "law" "law" (topS 67) (He.ga K "law") fd
  x_InvalidSigns : PySem.W.excIn K (He.ga K "InvalidSigns") He.veBase "ValueError.__new__" = true ∧ mg "InvalidSigns" = some (.ref (He.ga K "InvalidSigns")) ∧ PySem.W.keepIn K (.ref (He.ga K "InvalidSigns")) = true ∧ (PySem.W.subIn K (.ref (He.ga K "InvalidSigns")) (.type "BaseException") = some true ∧ PySem.W.typeIn K (.ref (He.ga K "InvalidSigns")) = some (.type "type"))
  x_InvalidChance : PySem.W.excIn K (He.ga K "InvalidChance") He.veBase "ValueError.__new__" = true ∧ mg "InvalidChance" = some (.ref (He.ga K "InvalidChance")) ∧ PySem.W.keepIn K (.ref (He.ga K "InvalidChance")) = true ∧ (PySem.W.subIn K (.ref (He.ga K "InvalidChance")) (.type "BaseException") = some true ∧ PySem.W.typeIn K (.ref (He.ga K "InvalidChance")) = some (.type "type"))
  x_InvalidNumber : PySem.W.excIn K (He.ga K "InvalidNumber") He.veBase "ValueError.__new__" = true ∧ mg "InvalidNumber" = some (.ref (He.ga K "InvalidNumber")) ∧ PySem.W.keepIn K (.ref (He.ga K "InvalidNumber")) = true ∧ (PySem.W.subIn K (.ref (He.ga K "InvalidNumber")) (.type "BaseException") = some true ∧ PySem.W.typeIn K (.ref (He.ga K "InvalidNumber")) = some (.type "type"))
  x_InvalidCode : PySem.W.excIn K (He.ga K "InvalidCode") He.veBase "ValueError.__new__" = true ∧ mg "InvalidCode" = some (.ref (He.ga K "InvalidCode")) ∧ PySem.W.keepIn K (.ref (He.ga K "InvalidCode")) = true ∧ (PySem.W.subIn K (.ref (He.ga K "InvalidCode")) (.type "BaseException") = some true ∧ PySem.W.typeIn K (.ref (He.ga K "InvalidCode")) = some (.type "type"))
  x_InvalidData : PySem.W.excIn K (He.ga K "InvalidData") He.veBase "ValueError.__new__" = true ∧ mg "InvalidData" = some (.ref (He.ga K "InvalidData")) ∧ PySem.W.keepIn K (.ref (He.ga K "InvalidData")) = true ∧ (PySem.W.subIn K (.ref (He.ga K "InvalidData")) (.type "BaseException") = some true ∧ PySem.W.typeIn K (.ref (He.ga K "InvalidData")) = some (.type "type"))
  x_InvalidSeen : PySem.W.excIn K (He.ga K "InvalidSeen") He.veBase "ValueError.__new__" = true ∧ mg "InvalidSeen" = some (.ref (He.ga K "InvalidSeen")) ∧ PySem.W.keepIn K (.ref (He.ga K "InvalidSeen")) = true ∧ (PySem.W.subIn K (.ref (He.ga K "InvalidSeen")) (.type "BaseException") = some true ∧ PySem.W.typeIn K (.ref (He.ga K "InvalidSeen")) = some (.type "type"))
  x_InvalidLost : PySem.W.excIn K (He.ga K "InvalidLost") He.veBase "ValueError.__new__" = true ∧ mg "InvalidLost" = some (.ref (He.ga K "InvalidLost")) ∧ PySem.W.keepIn K (.ref (He.ga K "InvalidLost")) = true ∧ (PySem.W.subIn K (.ref (He.ga K "InvalidLost")) (.type "BaseException") = some true ∧ PySem.W.typeIn K (.ref (He.ga K "InvalidLost")) = some (.type "type"))
  x_InvalidTable : PySem.W.excIn K (He.ga K "InvalidTable") He.veBase "ValueError.__new__" = true ∧ mg "InvalidTable" = some (.ref (He.ga K "InvalidTable")) ∧ PySem.W.keepIn K (.ref (He.ga K "InvalidTable")) = true ∧ (PySem.W.subIn K (.ref (He.ga K "InvalidTable")) (.type "BaseException") = some true ∧ PySem.W.typeIn K (.ref (He.ga K "InvalidTable")) = some (.type "type"))
  x_InvalidFacts : PySem.W.excIn K (He.ga K "InvalidFacts") He.veBase "ValueError.__new__" = true ∧ mg "InvalidFacts" = some (.ref (He.ga K "InvalidFacts")) ∧ PySem.W.keepIn K (.ref (He.ga K "InvalidFacts")) = true ∧ (PySem.W.subIn K (.ref (He.ga K "InvalidFacts")) (.type "BaseException") = some true ∧ PySem.W.typeIn K (.ref (He.ga K "InvalidFacts")) = some (.type "type"))
  x_InvalidShare : PySem.W.excIn K (He.ga K "InvalidShare") He.veBase "ValueError.__new__" = true ∧ mg "InvalidShare" = some (.ref (He.ga K "InvalidShare")) ∧ PySem.W.keepIn K (.ref (He.ga K "InvalidShare")) = true ∧ (PySem.W.subIn K (.ref (He.ga K "InvalidShare")) (.type "BaseException") = some true ∧ PySem.W.typeIn K (.ref (He.ga K "InvalidShare")) = some (.type "type"))
  x_InvalidPlace : PySem.W.excIn K (He.ga K "InvalidPlace") He.veBase "ValueError.__new__" = true ∧ mg "InvalidPlace" = some (.ref (He.ga K "InvalidPlace")) ∧ PySem.W.keepIn K (.ref (He.ga K "InvalidPlace")) = true ∧ (PySem.W.subIn K (.ref (He.ga K "InvalidPlace")) (.type "BaseException") = some true ∧ PySem.W.typeIn K (.ref (He.ga K "InvalidPlace")) = some (.type "type"))
  x_InvalidSign : PySem.W.excIn K (He.ga K "InvalidSign") He.veBase "ValueError.__new__" = true ∧ mg "InvalidSign" = some (.ref (He.ga K "InvalidSign")) ∧ PySem.W.keepIn K (.ref (He.ga K "InvalidSign")) = true ∧ (PySem.W.subIn K (.ref (He.ga K "InvalidSign")) (.type "BaseException") = some true ∧ PySem.W.typeIn K (.ref (He.ga K "InvalidSign")) = some (.type "type"))
  x_InvalidText : PySem.W.excIn K (He.ga K "InvalidText") He.veBase "ValueError.__new__" = true ∧ mg "InvalidText" = some (.ref (He.ga K "InvalidText")) ∧ PySem.W.keepIn K (.ref (He.ga K "InvalidText")) = true ∧ (PySem.W.subIn K (.ref (He.ga K "InvalidText")) (.type "BaseException") = some true ∧ PySem.W.typeIn K (.ref (He.ga K "InvalidText")) = some (.type "type"))
  x_Misfit : PySem.W.excIn K (He.ga K "Misfit") He.veBase "ValueError.__new__" = true ∧ mg "Misfit" = some (.ref (He.ga K "Misfit")) ∧ PySem.W.keepIn K (.ref (He.ga K "Misfit")) = true ∧ (PySem.W.subIn K (.ref (He.ga K "Misfit")) (.type "BaseException") = some true ∧ PySem.W.typeIn K (.ref (He.ga K "Misfit")) = some (.type "type"))
  x_Unlike : PySem.W.excIn K (He.ga K "Unlike") He.veBase "ValueError.__new__" = true ∧ mg "Unlike" = some (.ref (He.ga K "Unlike")) ∧ PySem.W.keepIn K (.ref (He.ga K "Unlike")) = true ∧ (PySem.W.subIn K (.ref (He.ga K "Unlike")) (.type "BaseException") = some true ∧ PySem.W.typeIn K (.ref (He.ga K "Unlike")) = some (.type "type"))
  x_NothingToUndo : PySem.W.excIn K (He.ga K "NothingToUndo") He.veBase "ValueError.__new__" = true ∧ mg "NothingToUndo" = some (.ref (He.ga K "NothingToUndo")) ∧ PySem.W.keepIn K (.ref (He.ga K "NothingToUndo")) = true ∧ (PySem.W.subIn K (.ref (He.ga K "NothingToUndo")) (.type "BaseException") = some true ∧ PySem.W.typeIn K (.ref (He.ga K "NothingToUndo")) = some (.type "type"))
  m_SplitError : mg "SplitError" = some (.ref (He.ga K "SplitError"))
  m_InvalidSigns : mg "InvalidSigns" = some (.ref (He.ga K "InvalidSigns"))
  m_InvalidChance : mg "InvalidChance" = some (.ref (He.ga K "InvalidChance"))
  m_InvalidNumber : mg "InvalidNumber" = some (.ref (He.ga K "InvalidNumber"))
  m_InvalidCode : mg "InvalidCode" = some (.ref (He.ga K "InvalidCode"))
  m_InvalidData : mg "InvalidData" = some (.ref (He.ga K "InvalidData"))
  m_InvalidSeen : mg "InvalidSeen" = some (.ref (He.ga K "InvalidSeen"))
  m_InvalidLost : mg "InvalidLost" = some (.ref (He.ga K "InvalidLost"))
  m_InvalidTable : mg "InvalidTable" = some (.ref (He.ga K "InvalidTable"))
  m_InvalidFacts : mg "InvalidFacts" = some (.ref (He.ga K "InvalidFacts"))
  m_InvalidShare : mg "InvalidShare" = some (.ref (He.ga K "InvalidShare"))
  m_InvalidPlace : mg "InvalidPlace" = some (.ref (He.ga K "InvalidPlace"))
  m_InvalidSign : mg "InvalidSign" = some (.ref (He.ga K "InvalidSign"))
  m_InvalidText : mg "InvalidText" = some (.ref (He.ga K "InvalidText"))
  m_Misfit : mg "Misfit" = some (.ref (He.ga K "Misfit"))
  m_Unlike : mg "Unlike" = some (.ref (He.ga K "Unlike"))
  m_NothingToUndo : mg "NothingToUndo" = some (.ref (He.ga K "NothingToUndo"))
  m_TooMany : mg "TooMany" = some (.ref (He.ga K "TooMany"))
  exm : ∀ j, j < 16 → PySem.W.exmOne K (.ref ((tbK K).exs j)) (.ref (He.ga K "SplitError")) = some true
  q_InvalidSigns : ExcC K (He.ga K "InvalidSigns") ∧ [PySem.W.kitOne K (.ref (He.ga K "InvalidSigns")) (.ref (He.ga K "InvalidSigns")), PySem.W.kitOne K (.ref (He.ga K "InvalidSigns")) (.ref (He.ga K "InvalidChance")), PySem.W.kitOne K (.ref (He.ga K "InvalidSigns")) (.ref (He.ga K "InvalidNumber")), PySem.W.kitOne K (.ref (He.ga K "InvalidSigns")) (.ref (He.ga K "InvalidCode")), PySem.W.kitOne K (.ref (He.ga K "InvalidSigns")) (.ref (He.ga K "InvalidData")), PySem.W.kitOne K (.ref (He.ga K "InvalidSigns")) (.ref (He.ga K "InvalidSeen")), PySem.W.kitOne K (.ref (He.ga K "InvalidSigns")) (.ref (He.ga K "InvalidLost")), PySem.W.kitOne K (.ref (He.ga K "InvalidSigns")) (.ref (He.ga K "InvalidTable")), PySem.W.kitOne K (.ref (He.ga K "InvalidSigns")) (.ref (He.ga K "InvalidFacts")), PySem.W.kitOne K (.ref (He.ga K "InvalidSigns")) (.ref (He.ga K "InvalidShare")), PySem.W.kitOne K (.ref (He.ga K "InvalidSigns")) (.ref (He.ga K "InvalidPlace")), PySem.W.kitOne K (.ref (He.ga K "InvalidSigns")) (.ref (He.ga K "InvalidSign")), PySem.W.kitOne K (.ref (He.ga K "InvalidSigns")) (.ref (He.ga K "InvalidText")), PySem.W.kitOne K (.ref (He.ga K "InvalidSigns")) (.ref (He.ga K "Misfit")), PySem.W.kitOne K (.ref (He.ga K "InvalidSigns")) (.ref (He.ga K "Unlike")), PySem.W.kitOne K (.ref (He.ga K "InvalidSigns")) (.ref (He.ga K "NothingToUndo")), PySem.W.kitOne K (.ref (He.ga K "InvalidSigns")) (.ref (He.ga K "TooMany")), PySem.W.kitOne K (.ref (He.ga K "InvalidSigns")) (.type "ValueError")] = [some true, some false, some false, some false, some false, some false, some false, some false, some false, some false, some false, some false, some false, some false, some false, some false, some false, some true]
  q_InvalidChance : ExcC K (He.ga K "InvalidChance") ∧ [PySem.W.kitOne K (.ref (He.ga K "InvalidChance")) (.ref (He.ga K "InvalidSigns")), PySem.W.kitOne K (.ref (He.ga K "InvalidChance")) (.ref (He.ga K "InvalidChance")), PySem.W.kitOne K (.ref (He.ga K "InvalidChance")) (.ref (He.ga K "InvalidNumber")), PySem.W.kitOne K (.ref (He.ga K "InvalidChance")) (.ref (He.ga K "InvalidCode")), PySem.W.kitOne K (.ref (He.ga K "InvalidChance")) (.ref (He.ga K "InvalidData")), PySem.W.kitOne K (.ref (He.ga K "InvalidChance")) (.ref (He.ga K "InvalidSeen")), PySem.W.kitOne K (.ref (He.ga K "InvalidChance")) (.ref (He.ga K "InvalidLost")), PySem.W.kitOne K (.ref (He.ga K "InvalidChance")) (.ref (He.ga K "InvalidTable")), PySem.W.kitOne K (.ref (He.ga K "InvalidChance")) (.ref (He.ga K "InvalidFacts")), PySem.W.kitOne K (.ref (He.ga K "InvalidChance")) (.ref (He.ga K "InvalidShare")), PySem.W.kitOne K (.ref (He.ga K "InvalidChance")) (.ref (He.ga K "InvalidPlace")), PySem.W.kitOne K (.ref (He.ga K "InvalidChance")) (.ref (He.ga K "InvalidSign")), PySem.W.kitOne K (.ref (He.ga K "InvalidChance")) (.ref (He.ga K "InvalidText")), PySem.W.kitOne K (.ref (He.ga K "InvalidChance")) (.ref (He.ga K "Misfit")), PySem.W.kitOne K (.ref (He.ga K "InvalidChance")) (.ref (He.ga K "Unlike")), PySem.W.kitOne K (.ref (He.ga K "InvalidChance")) (.ref (He.ga K "NothingToUndo")), PySem.W.kitOne K (.ref (He.ga K "InvalidChance")) (.ref (He.ga K "TooMany")), PySem.W.kitOne K (.ref (He.ga K "InvalidChance")) (.type "ValueError")] = [some false, some true, some false, some false, some false, some false, some false, some false, some false, some false, some false, some false, some false, some false, some false, some false, some false, some true]
  q_InvalidNumber : ExcC K (He.ga K "InvalidNumber") ∧ [PySem.W.kitOne K (.ref (He.ga K "InvalidNumber")) (.ref (He.ga K "InvalidSigns")), PySem.W.kitOne K (.ref (He.ga K "InvalidNumber")) (.ref (He.ga K "InvalidChance")), PySem.W.kitOne K (.ref (He.ga K "InvalidNumber")) (.ref (He.ga K "InvalidNumber")), PySem.W.kitOne K (.ref (He.ga K "InvalidNumber")) (.ref (He.ga K "InvalidCode")), PySem.W.kitOne K (.ref (He.ga K "InvalidNumber")) (.ref (He.ga K "InvalidData")), PySem.W.kitOne K (.ref (He.ga K "InvalidNumber")) (.ref (He.ga K "InvalidSeen")), PySem.W.kitOne K (.ref (He.ga K "InvalidNumber")) (.ref (He.ga K "InvalidLost")), PySem.W.kitOne K (.ref (He.ga K "InvalidNumber")) (.ref (He.ga K "InvalidTable")), PySem.W.kitOne K (.ref (He.ga K "InvalidNumber")) (.ref (He.ga K "InvalidFacts")), PySem.W.kitOne K (.ref (He.ga K "InvalidNumber")) (.ref (He.ga K "InvalidShare")), PySem.W.kitOne K (.ref (He.ga K "InvalidNumber")) (.ref (He.ga K "InvalidPlace")), PySem.W.kitOne K (.ref (He.ga K "InvalidNumber")) (.ref (He.ga K "InvalidSign")), PySem.W.kitOne K (.ref (He.ga K "InvalidNumber")) (.ref (He.ga K "InvalidText")), PySem.W.kitOne K (.ref (He.ga K "InvalidNumber")) (.ref (He.ga K "Misfit")), PySem.W.kitOne K (.ref (He.ga K "InvalidNumber")) (.ref (He.ga K "Unlike")), PySem.W.kitOne K (.ref (He.ga K "InvalidNumber")) (.ref (He.ga K "NothingToUndo")), PySem.W.kitOne K (.ref (He.ga K "InvalidNumber")) (.ref (He.ga K "TooMany")), PySem.W.kitOne K (.ref (He.ga K "InvalidNumber")) (.type "ValueError")] = [some false, some false, some true, some false, some false, some false, some false, some false, some false, some false, some false, some false, some false, some false, some false, some false, some false, some true]
  q_InvalidCode : ExcC K (He.ga K "InvalidCode") ∧ [PySem.W.kitOne K (.ref (He.ga K "InvalidCode")) (.ref (He.ga K "InvalidSigns")), PySem.W.kitOne K (.ref (He.ga K "InvalidCode")) (.ref (He.ga K "InvalidChance")), PySem.W.kitOne K (.ref (He.ga K "InvalidCode")) (.ref (He.ga K "InvalidNumber")), PySem.W.kitOne K (.ref (He.ga K "InvalidCode")) (.ref (He.ga K "InvalidCode")), PySem.W.kitOne K (.ref (He.ga K "InvalidCode")) (.ref (He.ga K "InvalidData")), PySem.W.kitOne K (.ref (He.ga K "InvalidCode")) (.ref (He.ga K "InvalidSeen")), PySem.W.kitOne K (.ref (He.ga K "InvalidCode")) (.ref (He.ga K "InvalidLost")), PySem.W.kitOne K (.ref (He.ga K "InvalidCode")) (.ref (He.ga K "InvalidTable")), PySem.W.kitOne K (.ref (He.ga K "InvalidCode")) (.ref (He.ga K "InvalidFacts")), PySem.W.kitOne K (.ref (He.ga K "InvalidCode")) (.ref (He.ga K "InvalidShare")), PySem.W.kitOne K (.ref (He.ga K "InvalidCode")) (.ref (He.ga K "InvalidPlace")), PySem.W.kitOne K (.ref (He.ga K "InvalidCode")) (.ref (He.ga K "InvalidSign")), PySem.W.kitOne K (.ref (He.ga K "InvalidCode")) (.ref (He.ga K "InvalidText")), PySem.W.kitOne K (.ref (He.ga K "InvalidCode")) (.ref (He.ga K "Misfit")), PySem.W.kitOne K (.ref (He.ga K "InvalidCode")) (.ref (He.ga K "Unlike")), PySem.W.kitOne K (.ref (He.ga K "InvalidCode")) (.ref (He.ga K "NothingToUndo")), PySem.W.kitOne K (.ref (He.ga K "InvalidCode")) (.ref (He.ga K "TooMany")), PySem.W.kitOne K (.ref (He.ga K "InvalidCode")) (.type "ValueError")] = [some false, some false, some false, some true, some false, some false, some false, some false, some false, some false, some false, some false, some false, some false, some false, some false, some false, some true]
  q_InvalidData : ExcC K (He.ga K "InvalidData") ∧ [PySem.W.kitOne K (.ref (He.ga K "InvalidData")) (.ref (He.ga K "InvalidSigns")), PySem.W.kitOne K (.ref (He.ga K "InvalidData")) (.ref (He.ga K "InvalidChance")), PySem.W.kitOne K (.ref (He.ga K "InvalidData")) (.ref (He.ga K "InvalidNumber")), PySem.W.kitOne K (.ref (He.ga K "InvalidData")) (.ref (He.ga K "InvalidCode")), PySem.W.kitOne K (.ref (He.ga K "InvalidData")) (.ref (He.ga K "InvalidData")), PySem.W.kitOne K (.ref (He.ga K "InvalidData")) (.ref (He.ga K "InvalidSeen")), PySem.W.kitOne K (.ref (He.ga K "InvalidData")) (.ref (He.ga K "InvalidLost")), PySem.W.kitOne K (.ref (He.ga K "InvalidData")) (.ref (He.ga K "InvalidTable")), PySem.W.kitOne K (.ref (He.ga K "InvalidData")) (.ref (He.ga K "InvalidFacts")), PySem.W.kitOne K (.ref (He.ga K "InvalidData")) (.ref (He.ga K "InvalidShare")), PySem.W.kitOne K (.ref (He.ga K "InvalidData")) (.ref (He.ga K "InvalidPlace")), PySem.W.kitOne K (.ref (He.ga K "InvalidData")) (.ref (He.ga K "InvalidSign")), PySem.W.kitOne K (.ref (He.ga K "InvalidData")) (.ref (He.ga K "InvalidText")), PySem.W.kitOne K (.ref (He.ga K "InvalidData")) (.ref (He.ga K "Misfit")), PySem.W.kitOne K (.ref (He.ga K "InvalidData")) (.ref (He.ga K "Unlike")), PySem.W.kitOne K (.ref (He.ga K "InvalidData")) (.ref (He.ga K "NothingToUndo")), PySem.W.kitOne K (.ref (He.ga K "InvalidData")) (.ref (He.ga K "TooMany")), PySem.W.kitOne K (.ref (He.ga K "InvalidData")) (.type "ValueError")] = [some false, some false, some false, some false, some true, some false, some false, some false, some false, some false, some false, some false, some false, some false, some false, some false, some false, some true]
  q_InvalidSeen : ExcC K (He.ga K "InvalidSeen") ∧ [PySem.W.kitOne K (.ref (He.ga K "InvalidSeen")) (.ref (He.ga K "InvalidSigns")), PySem.W.kitOne K (.ref (He.ga K "InvalidSeen")) (.ref (He.ga K "InvalidChance")), PySem.W.kitOne K (.ref (He.ga K "InvalidSeen")) (.ref (He.ga K "InvalidNumber")), PySem.W.kitOne K (.ref (He.ga K "InvalidSeen")) (.ref (He.ga K "InvalidCode")), PySem.W.kitOne K (.ref (He.ga K "InvalidSeen")) (.ref (He.ga K "InvalidData")), PySem.W.kitOne K (.ref (He.ga K "InvalidSeen")) (.ref (He.ga K "InvalidSeen")), PySem.W.kitOne K (.ref (He.ga K "InvalidSeen")) (.ref (He.ga K "InvalidLost")), PySem.W.kitOne K (.ref (He.ga K "InvalidSeen")) (.ref (He.ga K "InvalidTable")), PySem.W.kitOne K (.ref (He.ga K "InvalidSeen")) (.ref (He.ga K "InvalidFacts")), PySem.W.kitOne K (.ref (He.ga K "InvalidSeen")) (.ref (He.ga K "InvalidShare")), PySem.W.kitOne K (.ref (He.ga K "InvalidSeen")) (.ref (He.ga K "InvalidPlace")), PySem.W.kitOne K (.ref (He.ga K "InvalidSeen")) (.ref (He.ga K "InvalidSign")), PySem.W.kitOne K (.ref (He.ga K "InvalidSeen")) (.ref (He.ga K "InvalidText")), PySem.W.kitOne K (.ref (He.ga K "InvalidSeen")) (.ref (He.ga K "Misfit")), PySem.W.kitOne K (.ref (He.ga K "InvalidSeen")) (.ref (He.ga K "Unlike")), PySem.W.kitOne K (.ref (He.ga K "InvalidSeen")) (.ref (He.ga K "NothingToUndo")), PySem.W.kitOne K (.ref (He.ga K "InvalidSeen")) (.ref (He.ga K "TooMany")), PySem.W.kitOne K (.ref (He.ga K "InvalidSeen")) (.type "ValueError")] = [some false, some false, some false, some false, some false, some true, some false, some false, some false, some false, some false, some false, some false, some false, some false, some false, some false, some true]
  q_InvalidLost : ExcC K (He.ga K "InvalidLost") ∧ [PySem.W.kitOne K (.ref (He.ga K "InvalidLost")) (.ref (He.ga K "InvalidSigns")), PySem.W.kitOne K (.ref (He.ga K "InvalidLost")) (.ref (He.ga K "InvalidChance")), PySem.W.kitOne K (.ref (He.ga K "InvalidLost")) (.ref (He.ga K "InvalidNumber")), PySem.W.kitOne K (.ref (He.ga K "InvalidLost")) (.ref (He.ga K "InvalidCode")), PySem.W.kitOne K (.ref (He.ga K "InvalidLost")) (.ref (He.ga K "InvalidData")), PySem.W.kitOne K (.ref (He.ga K "InvalidLost")) (.ref (He.ga K "InvalidSeen")), PySem.W.kitOne K (.ref (He.ga K "InvalidLost")) (.ref (He.ga K "InvalidLost")), PySem.W.kitOne K (.ref (He.ga K "InvalidLost")) (.ref (He.ga K "InvalidTable")), PySem.W.kitOne K (.ref (He.ga K "InvalidLost")) (.ref (He.ga K "InvalidFacts")), PySem.W.kitOne K (.ref (He.ga K "InvalidLost")) (.ref (He.ga K "InvalidShare")), PySem.W.kitOne K (.ref (He.ga K "InvalidLost")) (.ref (He.ga K "InvalidPlace")), PySem.W.kitOne K (.ref (He.ga K "InvalidLost")) (.ref (He.ga K "InvalidSign")), PySem.W.kitOne K (.ref (He.ga K "InvalidLost")) (.ref (He.ga K "InvalidText")), PySem.W.kitOne K (.ref (He.ga K "InvalidLost")) (.ref (He.ga K "Misfit")), PySem.W.kitOne K (.ref (He.ga K "InvalidLost")) (.ref (He.ga K "Unlike")), PySem.W.kitOne K (.ref (He.ga K "InvalidLost")) (.ref (He.ga K "NothingToUndo")), PySem.W.kitOne K (.ref (He.ga K "InvalidLost")) (.ref (He.ga K "TooMany")), PySem.W.kitOne K (.ref (He.ga K "InvalidLost")) (.type "ValueError")] = [some false, some false, some false, some false, some false, some false, some true, some false, some false, some false, some false, some false, some false, some false, some false, some false, some false, some true]
  q_InvalidTable : ExcC K (He.ga K "InvalidTable") ∧ [PySem.W.kitOne K (.ref (He.ga K "InvalidTable")) (.ref (He.ga K "InvalidSigns")), PySem.W.kitOne K (.ref (He.ga K "InvalidTable")) (.ref (He.ga K "InvalidChance")), PySem.W.kitOne K (.ref (He.ga K "InvalidTable")) (.ref (He.ga K "InvalidNumber")), PySem.W.kitOne K (.ref (He.ga K "InvalidTable")) (.ref (He.ga K "InvalidCode")), PySem.W.kitOne K (.ref (He.ga K "InvalidTable")) (.ref (He.ga K "InvalidData")), PySem.W.kitOne K (.ref (He.ga K "InvalidTable")) (.ref (He.ga K "InvalidSeen")), PySem.W.kitOne K (.ref (He.ga K "InvalidTable")) (.ref (He.ga K "InvalidLost")), PySem.W.kitOne K (.ref (He.ga K "InvalidTable")) (.ref (He.ga K "InvalidTable")), PySem.W.kitOne K (.ref (He.ga K "InvalidTable")) (.ref (He.ga K "InvalidFacts")), PySem.W.kitOne K (.ref (He.ga K "InvalidTable")) (.ref (He.ga K "InvalidShare")), PySem.W.kitOne K (.ref (He.ga K "InvalidTable")) (.ref (He.ga K "InvalidPlace")), PySem.W.kitOne K (.ref (He.ga K "InvalidTable")) (.ref (He.ga K "InvalidSign")), PySem.W.kitOne K (.ref (He.ga K "InvalidTable")) (.ref (He.ga K "InvalidText")), PySem.W.kitOne K (.ref (He.ga K "InvalidTable")) (.ref (He.ga K "Misfit")), PySem.W.kitOne K (.ref (He.ga K "InvalidTable")) (.ref (He.ga K "Unlike")), PySem.W.kitOne K (.ref (He.ga K "InvalidTable")) (.ref (He.ga K "NothingToUndo")), PySem.W.kitOne K (.ref (He.ga K "InvalidTable")) (.ref (He.ga K "TooMany")), PySem.W.kitOne K (.ref (He.ga K "InvalidTable")) (.type "ValueError")] = [some false, some false, some false, some false, some false, some false, some false, some true, some false, some false, some false, some false, some false, some false, some false, some false, some false, some true]
  q_InvalidFacts : ExcC K (He.ga K "InvalidFacts") ∧ [PySem.W.kitOne K (.ref (He.ga K "InvalidFacts")) (.ref (He.ga K "InvalidSigns")), PySem.W.kitOne K (.ref (He.ga K "InvalidFacts")) (.ref (He.ga K "InvalidChance")), PySem.W.kitOne K (.ref (He.ga K "InvalidFacts")) (.ref (He.ga K "InvalidNumber")), PySem.W.kitOne K (.ref (He.ga K "InvalidFacts")) (.ref (He.ga K "InvalidCode")), PySem.W.kitOne K (.ref (He.ga K "InvalidFacts")) (.ref (He.ga K "InvalidData")), PySem.W.kitOne K (.ref (He.ga K "InvalidFacts")) (.ref (He.ga K "InvalidSeen")), PySem.W.kitOne K (.ref (He.ga K "InvalidFacts")) (.ref (He.ga K "InvalidLost")), PySem.W.kitOne K (.ref (He.ga K "InvalidFacts")) (.ref (He.ga K "InvalidTable")), PySem.W.kitOne K (.ref (He.ga K "InvalidFacts")) (.ref (He.ga K "InvalidFacts")), PySem.W.kitOne K (.ref (He.ga K "InvalidFacts")) (.ref (He.ga K "InvalidShare")), PySem.W.kitOne K (.ref (He.ga K "InvalidFacts")) (.ref (He.ga K "InvalidPlace")), PySem.W.kitOne K (.ref (He.ga K "InvalidFacts")) (.ref (He.ga K "InvalidSign")), PySem.W.kitOne K (.ref (He.ga K "InvalidFacts")) (.ref (He.ga K "InvalidText")), PySem.W.kitOne K (.ref (He.ga K "InvalidFacts")) (.ref (He.ga K "Misfit")), PySem.W.kitOne K (.ref (He.ga K "InvalidFacts")) (.ref (He.ga K "Unlike")), PySem.W.kitOne K (.ref (He.ga K "InvalidFacts")) (.ref (He.ga K "NothingToUndo")), PySem.W.kitOne K (.ref (He.ga K "InvalidFacts")) (.ref (He.ga K "TooMany")), PySem.W.kitOne K (.ref (He.ga K "InvalidFacts")) (.type "ValueError")] = [some false, some false, some false, some false, some false, some false, some false, some false, some true, some false, some false, some false, some false, some false, some false, some false, some false, some true]
  q_InvalidShare : ExcC K (He.ga K "InvalidShare") ∧ [PySem.W.kitOne K (.ref (He.ga K "InvalidShare")) (.ref (He.ga K "InvalidSigns")), PySem.W.kitOne K (.ref (He.ga K "InvalidShare")) (.ref (He.ga K "InvalidChance")), PySem.W.kitOne K (.ref (He.ga K "InvalidShare")) (.ref (He.ga K "InvalidNumber")), PySem.W.kitOne K (.ref (He.ga K "InvalidShare")) (.ref (He.ga K "InvalidCode")), PySem.W.kitOne K (.ref (He.ga K "InvalidShare")) (.ref (He.ga K "InvalidData")), PySem.W.kitOne K (.ref (He.ga K "InvalidShare")) (.ref (He.ga K "InvalidSeen")), PySem.W.kitOne K (.ref (He.ga K "InvalidShare")) (.ref (He.ga K "InvalidLost")), PySem.W.kitOne K (.ref (He.ga K "InvalidShare")) (.ref (He.ga K "InvalidTable")), PySem.W.kitOne K (.ref (He.ga K "InvalidShare")) (.ref (He.ga K "InvalidFacts")), PySem.W.kitOne K (.ref (He.ga K "InvalidShare")) (.ref (He.ga K "InvalidShare")), PySem.W.kitOne K (.ref (He.ga K "InvalidShare")) (.ref (He.ga K "InvalidPlace")), PySem.W.kitOne K (.ref (He.ga K "InvalidShare")) (.ref (He.ga K "InvalidSign")), PySem.W.kitOne K (.ref (He.ga K "InvalidShare")) (.ref (He.ga K "InvalidText")), PySem.W.kitOne K (.ref (He.ga K "InvalidShare")) (.ref (He.ga K "Misfit")), PySem.W.kitOne K (.ref (He.ga K "InvalidShare")) (.ref (He.ga K "Unlike")), PySem.W.kitOne K (.ref (He.ga K "InvalidShare")) (.ref (He.ga K "NothingToUndo")), PySem.W.kitOne K (.ref (He.ga K "InvalidShare")) (.ref (He.ga K "TooMany")), PySem.W.kitOne K (.ref (He.ga K "InvalidShare")) (.type "ValueError")] = [some false, some false, some false, some false, some false, some false, some false, some false, some false, some true, some false, some false, some false, some false, some false, some false, some false, some true]
  q_InvalidPlace : ExcC K (He.ga K "InvalidPlace") ∧ [PySem.W.kitOne K (.ref (He.ga K "InvalidPlace")) (.ref (He.ga K "InvalidSigns")), PySem.W.kitOne K (.ref (He.ga K "InvalidPlace")) (.ref (He.ga K "InvalidChance")), PySem.W.kitOne K (.ref (He.ga K "InvalidPlace")) (.ref (He.ga K "InvalidNumber")), PySem.W.kitOne K (.ref (He.ga K "InvalidPlace")) (.ref (He.ga K "InvalidCode")), PySem.W.kitOne K (.ref (He.ga K "InvalidPlace")) (.ref (He.ga K "InvalidData")), PySem.W.kitOne K (.ref (He.ga K "InvalidPlace")) (.ref (He.ga K "InvalidSeen")), PySem.W.kitOne K (.ref (He.ga K "InvalidPlace")) (.ref (He.ga K "InvalidLost")), PySem.W.kitOne K (.ref (He.ga K "InvalidPlace")) (.ref (He.ga K "InvalidTable")), PySem.W.kitOne K (.ref (He.ga K "InvalidPlace")) (.ref (He.ga K "InvalidFacts")), PySem.W.kitOne K (.ref (He.ga K "InvalidPlace")) (.ref (He.ga K "InvalidShare")), PySem.W.kitOne K (.ref (He.ga K "InvalidPlace")) (.ref (He.ga K "InvalidPlace")), PySem.W.kitOne K (.ref (He.ga K "InvalidPlace")) (.ref (He.ga K "InvalidSign")), PySem.W.kitOne K (.ref (He.ga K "InvalidPlace")) (.ref (He.ga K "InvalidText")), PySem.W.kitOne K (.ref (He.ga K "InvalidPlace")) (.ref (He.ga K "Misfit")), PySem.W.kitOne K (.ref (He.ga K "InvalidPlace")) (.ref (He.ga K "Unlike")), PySem.W.kitOne K (.ref (He.ga K "InvalidPlace")) (.ref (He.ga K "NothingToUndo")), PySem.W.kitOne K (.ref (He.ga K "InvalidPlace")) (.ref (He.ga K "TooMany")), PySem.W.kitOne K (.ref (He.ga K "InvalidPlace")) (.type "ValueError")] = [some false, some false, some false, some false, some false, some false, some false, some false, some false, some false, some true, some false, some false, some false, some false, some false, some false, some true]
  q_InvalidSign : ExcC K (He.ga K "InvalidSign") ∧ [PySem.W.kitOne K (.ref (He.ga K "InvalidSign")) (.ref (He.ga K "InvalidSigns")), PySem.W.kitOne K (.ref (He.ga K "InvalidSign")) (.ref (He.ga K "InvalidChance")), PySem.W.kitOne K (.ref (He.ga K "InvalidSign")) (.ref (He.ga K "InvalidNumber")), PySem.W.kitOne K (.ref (He.ga K "InvalidSign")) (.ref (He.ga K "InvalidCode")), PySem.W.kitOne K (.ref (He.ga K "InvalidSign")) (.ref (He.ga K "InvalidData")), PySem.W.kitOne K (.ref (He.ga K "InvalidSign")) (.ref (He.ga K "InvalidSeen")), PySem.W.kitOne K (.ref (He.ga K "InvalidSign")) (.ref (He.ga K "InvalidLost")), PySem.W.kitOne K (.ref (He.ga K "InvalidSign")) (.ref (He.ga K "InvalidTable")), PySem.W.kitOne K (.ref (He.ga K "InvalidSign")) (.ref (He.ga K "InvalidFacts")), PySem.W.kitOne K (.ref (He.ga K "InvalidSign")) (.ref (He.ga K "InvalidShare")), PySem.W.kitOne K (.ref (He.ga K "InvalidSign")) (.ref (He.ga K "InvalidPlace")), PySem.W.kitOne K (.ref (He.ga K "InvalidSign")) (.ref (He.ga K "InvalidSign")), PySem.W.kitOne K (.ref (He.ga K "InvalidSign")) (.ref (He.ga K "InvalidText")), PySem.W.kitOne K (.ref (He.ga K "InvalidSign")) (.ref (He.ga K "Misfit")), PySem.W.kitOne K (.ref (He.ga K "InvalidSign")) (.ref (He.ga K "Unlike")), PySem.W.kitOne K (.ref (He.ga K "InvalidSign")) (.ref (He.ga K "NothingToUndo")), PySem.W.kitOne K (.ref (He.ga K "InvalidSign")) (.ref (He.ga K "TooMany")), PySem.W.kitOne K (.ref (He.ga K "InvalidSign")) (.type "ValueError")] = [some false, some false, some false, some false, some false, some false, some false, some false, some false, some false, some false, some true, some false, some false, some false, some false, some false, some true]
  q_InvalidText : ExcC K (He.ga K "InvalidText") ∧ [PySem.W.kitOne K (.ref (He.ga K "InvalidText")) (.ref (He.ga K "InvalidSigns")), PySem.W.kitOne K (.ref (He.ga K "InvalidText")) (.ref (He.ga K "InvalidChance")), PySem.W.kitOne K (.ref (He.ga K "InvalidText")) (.ref (He.ga K "InvalidNumber")), PySem.W.kitOne K (.ref (He.ga K "InvalidText")) (.ref (He.ga K "InvalidCode")), PySem.W.kitOne K (.ref (He.ga K "InvalidText")) (.ref (He.ga K "InvalidData")), PySem.W.kitOne K (.ref (He.ga K "InvalidText")) (.ref (He.ga K "InvalidSeen")), PySem.W.kitOne K (.ref (He.ga K "InvalidText")) (.ref (He.ga K "InvalidLost")), PySem.W.kitOne K (.ref (He.ga K "InvalidText")) (.ref (He.ga K "InvalidTable")), PySem.W.kitOne K (.ref (He.ga K "InvalidText")) (.ref (He.ga K "InvalidFacts")), PySem.W.kitOne K (.ref (He.ga K "InvalidText")) (.ref (He.ga K "InvalidShare")), PySem.W.kitOne K (.ref (He.ga K "InvalidText")) (.ref (He.ga K "InvalidPlace")), PySem.W.kitOne K (.ref (He.ga K "InvalidText")) (.ref (He.ga K "InvalidSign")), PySem.W.kitOne K (.ref (He.ga K "InvalidText")) (.ref (He.ga K "InvalidText")), PySem.W.kitOne K (.ref (He.ga K "InvalidText")) (.ref (He.ga K "Misfit")), PySem.W.kitOne K (.ref (He.ga K "InvalidText")) (.ref (He.ga K "Unlike")), PySem.W.kitOne K (.ref (He.ga K "InvalidText")) (.ref (He.ga K "NothingToUndo")), PySem.W.kitOne K (.ref (He.ga K "InvalidText")) (.ref (He.ga K "TooMany")), PySem.W.kitOne K (.ref (He.ga K "InvalidText")) (.type "ValueError")] = [some false, some false, some false, some false, some false, some false, some false, some false, some false, some false, some false, some false, some true, some false, some false, some false, some false, some true]
  q_Misfit : ExcC K (He.ga K "Misfit") ∧ [PySem.W.kitOne K (.ref (He.ga K "Misfit")) (.ref (He.ga K "InvalidSigns")), PySem.W.kitOne K (.ref (He.ga K "Misfit")) (.ref (He.ga K "InvalidChance")), PySem.W.kitOne K (.ref (He.ga K "Misfit")) (.ref (He.ga K "InvalidNumber")), PySem.W.kitOne K (.ref (He.ga K "Misfit")) (.ref (He.ga K "InvalidCode")), PySem.W.kitOne K (.ref (He.ga K "Misfit")) (.ref (He.ga K "InvalidData")), PySem.W.kitOne K (.ref (He.ga K "Misfit")) (.ref (He.ga K "InvalidSeen")), PySem.W.kitOne K (.ref (He.ga K "Misfit")) (.ref (He.ga K "InvalidLost")), PySem.W.kitOne K (.ref (He.ga K "Misfit")) (.ref (He.ga K "InvalidTable")), PySem.W.kitOne K (.ref (He.ga K "Misfit")) (.ref (He.ga K "InvalidFacts")), PySem.W.kitOne K (.ref (He.ga K "Misfit")) (.ref (He.ga K "InvalidShare")), PySem.W.kitOne K (.ref (He.ga K "Misfit")) (.ref (He.ga K "InvalidPlace")), PySem.W.kitOne K (.ref (He.ga K "Misfit")) (.ref (He.ga K "InvalidSign")), PySem.W.kitOne K (.ref (He.ga K "Misfit")) (.ref (He.ga K "InvalidText")), PySem.W.kitOne K (.ref (He.ga K "Misfit")) (.ref (He.ga K "Misfit")), PySem.W.kitOne K (.ref (He.ga K "Misfit")) (.ref (He.ga K "Unlike")), PySem.W.kitOne K (.ref (He.ga K "Misfit")) (.ref (He.ga K "NothingToUndo")), PySem.W.kitOne K (.ref (He.ga K "Misfit")) (.ref (He.ga K "TooMany")), PySem.W.kitOne K (.ref (He.ga K "Misfit")) (.type "ValueError")] = [some false, some false, some false, some false, some false, some false, some false, some false, some false, some false, some false, some false, some false, some true, some false, some false, some false, some true]
  q_Unlike : ExcC K (He.ga K "Unlike") ∧ [PySem.W.kitOne K (.ref (He.ga K "Unlike")) (.ref (He.ga K "InvalidSigns")), PySem.W.kitOne K (.ref (He.ga K "Unlike")) (.ref (He.ga K "InvalidChance")), PySem.W.kitOne K (.ref (He.ga K "Unlike")) (.ref (He.ga K "InvalidNumber")), PySem.W.kitOne K (.ref (He.ga K "Unlike")) (.ref (He.ga K "InvalidCode")), PySem.W.kitOne K (.ref (He.ga K "Unlike")) (.ref (He.ga K "InvalidData")), PySem.W.kitOne K (.ref (He.ga K "Unlike")) (.ref (He.ga K "InvalidSeen")), PySem.W.kitOne K (.ref (He.ga K "Unlike")) (.ref (He.ga K "InvalidLost")), PySem.W.kitOne K (.ref (He.ga K "Unlike")) (.ref (He.ga K "InvalidTable")), PySem.W.kitOne K (.ref (He.ga K "Unlike")) (.ref (He.ga K "InvalidFacts")), PySem.W.kitOne K (.ref (He.ga K "Unlike")) (.ref (He.ga K "InvalidShare")), PySem.W.kitOne K (.ref (He.ga K "Unlike")) (.ref (He.ga K "InvalidPlace")), PySem.W.kitOne K (.ref (He.ga K "Unlike")) (.ref (He.ga K "InvalidSign")), PySem.W.kitOne K (.ref (He.ga K "Unlike")) (.ref (He.ga K "InvalidText")), PySem.W.kitOne K (.ref (He.ga K "Unlike")) (.ref (He.ga K "Misfit")), PySem.W.kitOne K (.ref (He.ga K "Unlike")) (.ref (He.ga K "Unlike")), PySem.W.kitOne K (.ref (He.ga K "Unlike")) (.ref (He.ga K "NothingToUndo")), PySem.W.kitOne K (.ref (He.ga K "Unlike")) (.ref (He.ga K "TooMany")), PySem.W.kitOne K (.ref (He.ga K "Unlike")) (.type "ValueError")] = [some false, some false, some false, some false, some false, some false, some false, some false, some false, some false, some false, some false, some false, some false, some true, some false, some false, some true]
  q_NothingToUndo : ExcC K (He.ga K "NothingToUndo") ∧ [PySem.W.kitOne K (.ref (He.ga K "NothingToUndo")) (.ref (He.ga K "InvalidSigns")), PySem.W.kitOne K (.ref (He.ga K "NothingToUndo")) (.ref (He.ga K "InvalidChance")), PySem.W.kitOne K (.ref (He.ga K "NothingToUndo")) (.ref (He.ga K "InvalidNumber")), PySem.W.kitOne K (.ref (He.ga K "NothingToUndo")) (.ref (He.ga K "InvalidCode")), PySem.W.kitOne K (.ref (He.ga K "NothingToUndo")) (.ref (He.ga K "InvalidData")), PySem.W.kitOne K (.ref (He.ga K "NothingToUndo")) (.ref (He.ga K "InvalidSeen")), PySem.W.kitOne K (.ref (He.ga K "NothingToUndo")) (.ref (He.ga K "InvalidLost")), PySem.W.kitOne K (.ref (He.ga K "NothingToUndo")) (.ref (He.ga K "InvalidTable")), PySem.W.kitOne K (.ref (He.ga K "NothingToUndo")) (.ref (He.ga K "InvalidFacts")), PySem.W.kitOne K (.ref (He.ga K "NothingToUndo")) (.ref (He.ga K "InvalidShare")), PySem.W.kitOne K (.ref (He.ga K "NothingToUndo")) (.ref (He.ga K "InvalidPlace")), PySem.W.kitOne K (.ref (He.ga K "NothingToUndo")) (.ref (He.ga K "InvalidSign")), PySem.W.kitOne K (.ref (He.ga K "NothingToUndo")) (.ref (He.ga K "InvalidText")), PySem.W.kitOne K (.ref (He.ga K "NothingToUndo")) (.ref (He.ga K "Misfit")), PySem.W.kitOne K (.ref (He.ga K "NothingToUndo")) (.ref (He.ga K "Unlike")), PySem.W.kitOne K (.ref (He.ga K "NothingToUndo")) (.ref (He.ga K "NothingToUndo")), PySem.W.kitOne K (.ref (He.ga K "NothingToUndo")) (.ref (He.ga K "TooMany")), PySem.W.kitOne K (.ref (He.ga K "NothingToUndo")) (.type "ValueError")] = [some false, some false, some false, some false, some false, some false, some false, some false, some false, some false, some false, some false, some false, some false, some false, some true, some false, some true]
  t__law_all_refused : LamX.TabB base mg (He.cT K ("_law_all_refused", none)).1 (He.cT K ("_law_all_refused", none)).2
  t__law_refused : LamX.TabB base mg (He.cT K ("_law_refused", none)).1 (He.cT K ("_law_refused", none)).2
  t__law_written : LamX.TabB base mg (He.cT K ("_law_written", none)).1 (He.cT K ("_law_written", none)).2
  tnd : ((tbK K).tabs.map (·.1)).Nodup
theorem hofTab {P : Program} {w : World} {K : PySem.W.Frag} {mg : Str → Option Value} {base : Heap} (z : Fz K mg base) {G : Gx} (hG : G.tb = tbK K) {k j : Nat} {f : Addr} {m : List D → M D} (l0 : Nat) (h : ∀ G2 : Gx, G2.tb = tbK K → G2.hf = some f → HofB P w K mg base k G2 1 m) (hk : k ≤ j) (hl : (tbK K).fns[l0]? = some f) :
    ∀ (G2 : Gx) (l : Nat) (a : Addr) (mf : List D → M D), (if l = l0 then some m else none) = some mf → G.tb.fns[l]? = some a → G2.tb = G.tb → G2.hf = some a → HofB P w K mg base j G2 1 mf := by
  intro G2 l a mf em hf e1 e2
  split at em
  · rename_i e
    cases em
    rw [e, hG, hl] at hf
    cases hf
    exact (h G2 (e1.trans hG) e2).mono hk
  · cases em
theorem hofNone {P : Program} {w : World} {K : PySem.W.Frag} {mg : Str → Option Value} {base : Heap} {G : Gx} {j : Nat} :
    ∀ (G2 : Gx) (l : Nat) (a : Addr) (mf : List D → M D), (none : Option (List D → M D)) = some mf → G.tb.fns[l]? = some a → G2.tb = G.tb → G2.hf = some a → HofB P w K mg base j G2 1 mf := fun _ _ _ _ h => nomatch h
theorem hofMore {P : Program} {w : World} {K : PySem.W.Frag} {mg : Str → Option Value} {base : Heap} (z : Fz K mg base) {G : Gx} (hG : G.tb = tbK K) {k j : Nat} {f : Addr} {m : List D → M D} {mt : Nat → Option (List D → M D)} (l0 : Nat) (h : ∀ G2 : Gx, G2.tb = tbK K → G2.hf = some f → HofB P w K mg base k G2 1 m) (hk : k ≤ j) (hl : (tbK K).fns[l0]? = some f)
    (more : ∀ (G2 : Gx) (l : Nat) (a : Addr) (mf : List D → M D), mt l = some mf → G.tb.fns[l]? = some a → G2.tb = G.tb → G2.hf = some a → HofB P w K mg base j G2 1 mf) :
    ∀ (G2 : Gx) (l : Nat) (a : Addr) (mf : List D → M D), (if l = l0 then some m else mt l) = some mf → G.tb.fns[l]? = some a → G2.tb = G.tb → G2.hf = some a → HofB P w K mg base j G2 1 mf := by
  intro G2 l a mf em hf e1 e2
  split at em
  · rename_i e
    cases em
    rw [e, hG, hl] at hf
    cases hf
    exact (h G2 (e1.trans hG) e2).mono hk
  · exact more G2 l a mf em hf e1 e2
theorem roomH_of1 {A : Around} (hr : Room 1 A) : L2H.RoomH 1 A := L2H.roomH_of hr
theorem sc_common_of : FnScope [("one" : Str), ("other" : Str)] [("one" : Str), ("other" : Str)] (defScope (topS 23)) := ⟨rfl, rfl, rfl, by decide +kernel, rfl, by decide +kernel, by decide +kernel⟩
theorem okG_common_of {P : Program} {w : World} {K : PySem.W.Frag} {mg : Str → Option Value} {base : Heap} (z : Fz K mg base) : CalG P w K mg base 1 "common_of" (tbK K) 2 m_common_of := by
  obtain ⟨fd, F⟩ := z.d_common_of
  refine ⟨fd, _, fun G hG => ok_def F sc_common_of rfl rfl fun cdv A outer s H E hr => ?_, F.binds fun _ _ _ _ _ _ us hl => match us, hl with | [_, _], _ => rfl, F.kp, z.m_common_of⟩
  exact (ss_cons (st_par (i := 0) (j := 1) rfl sc_common_of.nd rfl rfl (by decide) rfl rfl (ma_cons (me_cb call_abs cd_abs z.n_abs (by kernel_rfl) (ma_cons (v_ 0) ma_nil)) (ma_cons (me_cb call_abs cd_abs z.n_abs (by kernel_rfl) (ma_cons (v_ 1) ma_nil)) ma_nil)) (by rfl))
    (ss_cons (st_while (fuelN 1) (L2.passes_of rfl) (mt_cmp op_gt od_gt (v_ 1) me_int (nomark _)) (ss_one (st_par (i := 0) (j := 1) rfl sc_common_of.nd rfl rfl (by decide) rfl rfl (ma_cons (v_ 1) (ma_cons (me_op op_mod od_mod (v_ 0) (v_ 1)) ma_nil)) (by rfl))))
    (ss_one (st_ret (v_ 0)))))
theorem ok_common_of {P : Program} {w : World} {K : PySem.W.Frag} {mg : Str → Option Value} {base : Heap} (z : Fz K mg base) {G : Gx} (hG : G.tb = tbK K) : Cal P w K mg base 1 "common_of" (spM K G 2 m_common_of) := (okG_common_of z).at hG
theorem sc_is_whole : FnScope [("value" : Str), ("low" : Str), ("high" : Str)] [("value" : Str), ("low" : Str), ("high" : Str)] (defScope (topS 24)) := ⟨rfl, rfl, rfl, by decide +kernel, rfl, by decide +kernel, by decide +kernel⟩
theorem okG_is_whole {P : Program} {w : World} {K : PySem.W.Frag} {mg : Str → Option Value} {base : Heap} (z : Fz K mg base) : CalG P w K mg base 1 "is_whole" (tbK K) 3 m_is_whole := by
  obtain ⟨fd, F⟩ := z.d_is_whole
  refine ⟨fd, _, fun G hG => ok_def F sc_is_whole rfl rfl fun cdv A outer s H E hr => ?_, F.binds fun _ _ _ _ _ _ us hl => match us, hl with | [_, _, _], _ => rfl, F.kp, z.m_is_whole⟩
  exact (ss_one (st_ret (me_and (me_isi (T := "int") (by rfl) (by kernel_rfl) isi_int z.n_isinstance z.n_int (v_ 0)) (me_and (me_not (me_isi (T := "bool") (by rfl) (by kernel_rfl) isi_bool z.n_isinstance z.n_bool (v_ 0))) (me_one (me_chain op_le od_le op_le od_le (v_ 1) (v_ 0) (v_ 2)))))))
theorem ok_is_whole {P : Program} {w : World} {K : PySem.W.Frag} {mg : Str → Option Value} {base : Heap} (z : Fz K mg base) {G : Gx} (hG : G.tb = tbK K) : Cal P w K mg base 1 "is_whole" (spM K G 3 m_is_whole) := (okG_is_whole z).at hG
theorem sc_is_part : FnScope [("value" : Str), ("most" : Str)] [("value" : Str), ("most" : Str)] (defScope (topS 25)) := ⟨rfl, rfl, rfl, by decide +kernel, rfl, by decide +kernel, by decide +kernel⟩
theorem okG_is_part {P : Program} {w : World} {K : PySem.W.Frag} {mg : Str → Option Value} {base : Heap} (z : Fz K mg base) : CalG P w K mg base 2 "is_part" (tbK K) 2 m_is_part := by
  obtain ⟨fd, F⟩ := z.d_is_part
  refine ⟨fd, _, fun G hG => ok_def F sc_is_part rfl rfl fun cdv A outer s H E hr => ?_, F.binds fun _ _ _ _ _ _ us hl => match us, hl with | [_, _], _ => rfl, F.kp, z.m_is_part⟩
  exact (ss_cons (st_if (mt_w (mw_or (mt_not (mt_val (me_isi (T := "tuple") (by rfl) (by kernel_rfl) isi_tup z.n_isinstance z.n_tuple (v_ 0)))) (mw_or (mt_cmp (op_neD (hu64 hr)) od_ne (me_cb call_len cd_len z.n_len (by kernel_rfl) (ma_cons (v_ 0) ma_nil)) me_int (nomark _)) (mw_or1 (mt_not (mt_val (me_cal ((okG_is_whole z).iso hG) hr (by decide) (L2N.takes_of rfl rfl rfl rfl) (ma_cons (me_ix (v_ 0) me_int) (ma_cons me_int (ma_cons (v_ 1) ma_nil)))))))))) (ss_one (st_ret me_bl)) ss_nil)
    (ss_one (st_ret (me_and (me_cal ((okG_is_whole z).iso hG) hr (by decide) (L2N.takes_of rfl rfl rfl rfl) (ma_cons (me_ix (v_ 0) me_int) (ma_cons me_int (ma_cons (me_ix (v_ 0) me_int) ma_nil)))) (me_one (me_cmp (op_eqD (hu64 hr)) od_eq (me_cal ((okG_common_of z).iso hG) hr (by decide) (L2N.takes_of rfl rfl rfl rfl) (ma_cons (me_ix (v_ 0) me_int) (ma_cons (me_ix (v_ 0) me_int) ma_nil))) me_int (nomark _)))))))
theorem ok_is_part {P : Program} {w : World} {K : PySem.W.Frag} {mg : Str → Option Value} {base : Heap} (z : Fz K mg base) {G : Gx} (hG : G.tb = tbK K) : Cal P w K mg base 2 "is_part" (spM K G 2 m_is_part) := (okG_is_part z).at hG
theorem sc_is_good : FnScope [("value" : Str), ("sign" : Str)] [("value" : Str)] (defScope (topS 26)) := ⟨rfl, rfl, rfl, by decide +kernel, rfl, by decide +kernel, by decide +kernel⟩
theorem okG_is_good {P : Program} {w : World} {K : PySem.W.Frag} {mg : Str → Option Value} {base : Heap} (z : Fz K mg base) : CalG P w K mg base 1 "is_good" (tbK K) 1 m_is_good := by
  obtain ⟨fd, F⟩ := z.d_is_good
  refine ⟨fd, _, fun G hG => ok_def F sc_is_good rfl rfl fun cdv A outer s H E hr => ?_, F.binds fun _ _ _ _ _ _ us hl => match us, hl with | [_], _ => rfl, F.kp, z.m_is_good⟩
  exact (ss_one (st_ret (me_and (me_isi (T := "str") (by rfl) (by kernel_rfl) isi_str z.n_isinstance z.n_str (v_ 0)) (me_and (me_cmp op_le od_le (me_cb call_len cd_len z.n_len (by kernel_rfl) (ma_cons (v_ 0) ma_nil)) (me_gi z.c_MOST_SIGNS) (nomark _)) (me_one (me_cb (cr_all rfl) cd_all z.n_all (by kernel_rfl) (ma_cons (me_comp (own := [("sign", 1)]) rfl sc_is_good.nd (mi_it (v_ 0)) (blkOk_by (by rfl)) (by rfl) (fun _ _ _ _ _ => (pn_ 1 sc_is_good.nd)) (fun _ _ _ _ _ => mts_nil) (fun fx _ _ _ _ _ => (me_cmp (op_inA (hu65 hr)) (od_inG false) (v_ 1) (me_tup (ma_cons (me_str (s := [45]) (by rfl) (by rfl)) (ma_cons (me_str (s := [43]) (by rfl) (by rfl)) ma_nil))) (by rfl)))) ma_nil)))))))
theorem ok_is_good {P : Program} {w : World} {K : PySem.W.Frag} {mg : Str → Option Value} {base : Heap} (z : Fz K mg base) {G : Gx} (hG : G.tb = tbK K) : Cal P w K mg base 1 "is_good" (spM K G 1 m_is_good) := (okG_is_good z).at hG
theorem sc_need_signs : FnScope [("signs" : Str)] [("signs" : Str)] (defScope (topS 27)) := ⟨rfl, rfl, rfl, by decide +kernel, rfl, by decide +kernel, by decide +kernel⟩
theorem okG_need_signs {P : Program} {w : World} {K : PySem.W.Frag} {mg : Str → Option Value} {base : Heap} (z : Fz K mg base) : CalG P w K mg base 2 "need_signs" (tbK K) 1 m_need_signs := by
  obtain ⟨fd, F⟩ := z.d_need_signs
  refine ⟨fd, _, fun G hG => ok_def F sc_need_signs rfl rfl fun cdv A outer s H E hr => ?_, F.binds fun _ _ _ _ _ _ us hl => match us, hl with | [_], _ => rfl, F.kp, z.m_need_signs⟩
  exact (ss_one (st_if (mt_not (mt_val (me_cal ((okG_is_good z).iso hG) hr (by decide) (L2N.takes_of rfl rfl rfl rfl) (ma_cons (v_ 0) ma_nil)))) (ss_one (st_raise rfl (L2N.takes_of rfl rfl rfl rfl) PySem.F.excBase_ValueError z.x_InvalidSigns.1 z.x_InvalidSigns.2.1 z.x_InvalidSigns.2.2.1 (L2.raises_own z.x_InvalidSigns.2.2.2.1 z.x_InvalidSigns.2.2.2.2) (by rw [hG]; rfl))) ss_nil))
theorem ok_need_signs {P : Program} {w : World} {K : PySem.W.Frag} {mg : Str → Option Value} {base : Heap} (z : Fz K mg base) {G : Gx} (hG : G.tb = tbK K) : Cal P w K mg base 2 "need_signs" (spM K G 1 m_need_signs) := (okG_need_signs z).at hG
theorem sc_need_chance : FnScope [("chance" : Str)] [("chance" : Str)] (defScope (topS 28)) := ⟨rfl, rfl, rfl, by decide +kernel, rfl, by decide +kernel, by decide +kernel⟩
theorem okG_need_chance {P : Program} {w : World} {K : PySem.W.Frag} {mg : Str → Option Value} {base : Heap} (z : Fz K mg base) : CalG P w K mg base 3 "need_chance" (tbK K) 1 m_need_chance := by
  obtain ⟨fd, F⟩ := z.d_need_chance
  refine ⟨fd, _, fun G hG => ok_def F sc_need_chance rfl rfl fun cdv A outer s H E hr => ?_, F.binds fun _ _ _ _ _ _ us hl => match us, hl with | [_], _ => rfl, F.kp, z.m_need_chance⟩
  exact (ss_one (st_if (mt_not (mt_val (me_cal ((okG_is_part z).iso hG) hr (by decide) (L2N.takes_of rfl rfl rfl rfl) (ma_cons (v_ 0) (ma_cons (me_gi z.c_MOST_BELOW) ma_nil))))) (ss_one (st_raise rfl (L2N.takes_of rfl rfl rfl rfl) PySem.F.excBase_ValueError z.x_InvalidChance.1 z.x_InvalidChance.2.1 z.x_InvalidChance.2.2.1 (L2.raises_own z.x_InvalidChance.2.2.2.1 z.x_InvalidChance.2.2.2.2) (by rw [hG]; rfl))) ss_nil))
theorem ok_need_chance {P : Program} {w : World} {K : PySem.W.Frag} {mg : Str → Option Value} {base : Heap} (z : Fz K mg base) {G : Gx} (hG : G.tb = tbK K) : Cal P w K mg base 3 "need_chance" (spM K G 1 m_need_chance) := (okG_need_chance z).at hG
theorem sc_need_steps : FnScope [("steps" : Str), ("most" : Str)] [("steps" : Str), ("most" : Str)] (defScope (topS 29)) := ⟨rfl, rfl, rfl, by decide +kernel, rfl, by decide +kernel, by decide +kernel⟩
theorem okG_need_steps {P : Program} {w : World} {K : PySem.W.Frag} {mg : Str → Option Value} {base : Heap} (z : Fz K mg base) : CalG P w K mg base 2 "need_steps" (tbK K) 2 m_need_steps := by
  obtain ⟨fd, F⟩ := z.d_need_steps
  refine ⟨fd, _, fun G hG => ok_def F sc_need_steps rfl rfl fun cdv A outer s H E hr => ?_, F.binds fun _ _ _ _ _ _ us hl => match us, hl with | [_, _], _ => rfl, F.kp, z.m_need_steps⟩
  exact (ss_one (st_if (mt_not (mt_val (me_cal ((okG_is_whole z).iso hG) hr (by decide) (L2N.takes_of rfl rfl rfl rfl) (ma_cons (v_ 0) (ma_cons me_int (ma_cons (v_ 1) ma_nil)))))) (ss_one (st_raise rfl (L2N.takes_of rfl rfl rfl rfl) PySem.F.excBase_ValueError z.x_InvalidNumber.1 z.x_InvalidNumber.2.1 z.x_InvalidNumber.2.2.1 (L2.raises_own z.x_InvalidNumber.2.2.2.1 z.x_InvalidNumber.2.2.2.2) (by rw [hG]; rfl))) ss_nil))
theorem ok_need_steps {P : Program} {w : World} {K : PySem.W.Frag} {mg : Str → Option Value} {base : Heap} (z : Fz K mg base) {G : Gx} (hG : G.tb = tbK K) : Cal P w K mg base 2 "need_steps" (spM K G 2 m_need_steps) := (okG_need_steps z).at hG
theorem sc_made_loss : FnScope [("signs" : Str), ("chance" : Str), ("sign" : Str), ("top" : Str), ("below" : Str)] [("signs" : Str), ("chance" : Str)] (defScope (topS 30)) := ⟨rfl, rfl, rfl, by decide +kernel, rfl, by decide +kernel, by decide +kernel⟩
theorem okG_made_loss {P : Program} {w : World} {K : PySem.W.Frag} {mg : Str → Option Value} {base : Heap} (z : Fz K mg base) : CalG P w K mg base 1 "made_loss" (tbK K) 2 m_made_loss := by
  obtain ⟨fd, F⟩ := z.d_made_loss
  refine ⟨fd, _, fun G hG => ok_def F sc_made_loss rfl rfl fun cdv A outer s H E hr => ?_, F.binds fun _ _ _ _ _ _ us hl => match us, hl with | [_, _], _ => rfl, F.kp, z.m_made_loss⟩
  exact (ss_cons (st_asg (v_ 1) (gt_tup rfl (gts_cons (g_ 3 sc_made_loss.nd) (gts_cons (g_ 4 sc_made_loss.nd) gts_nil))))
    (ss_cons (st_for (L2.passes_of rfl) rfl (mi_it (v_ 0)) (g_ 2 sc_made_loss.nd) (ss_one (st_par (i := 3) (j := 4) rfl sc_made_loss.nd rfl rfl (by decide) rfl rfl (ma_cons (me_ifExp (mt_cmp (op_eqD (hu64 hr)) od_eq (v_ 2) (me_str (s := [43]) (by rfl) (by rfl)) (nomark _)) (me_op op_mulX od_mulX (v_ 3) (v_ 3)) (me_op op_sub od_sub (me_op op_mulX od_mulX (me_op op_mulX od_mulX me_int (v_ 3)) (v_ 4)) (me_op op_mulX od_mulX (v_ 3) (v_ 3)))) (ma_cons (me_op op_mulX od_mulX (v_ 4) (v_ 4)) ma_nil)) (by rfl))))
    (ss_one (st_ret (me_tup (ma_cons (v_ 3) (ma_cons (v_ 4) ma_nil)))))))
theorem ok_made_loss {P : Program} {w : World} {K : PySem.W.Frag} {mg : Str → Option Value} {base : Heap} (z : Fz K mg base) {G : Gx} (hG : G.tb = tbK K) : Cal P w K mg base 1 "made_loss" (spM K G 2 m_made_loss) := (okG_made_loss z).at hG
theorem sc_joined : FnScope [("one" : Str), ("other" : Str), ("found" : Str), ("power" : Str), ("some" : Str), ("at" : Str)] [("one" : Str), ("other" : Str)] (defScope (topS 31)) := ⟨rfl, rfl, rfl, by decide +kernel, rfl, by decide +kernel, by decide +kernel⟩
theorem okG_joined {P : Program} {w : World} {K : PySem.W.Frag} {mg : Str → Option Value} {base : Heap} (z : Fz K mg base) : CalG P w K mg base 1 "joined" (tbK K) 2 m_joined := by
  obtain ⟨fd, F⟩ := z.d_joined
  refine ⟨fd, _, fun G hG => ok_def F sc_joined rfl rfl fun cdv A outer s H E hr => ?_, F.binds fun _ _ _ _ _ _ us hl => match us, hl with | [_, _], _ => rfl, F.kp, z.m_joined⟩
  exact (ss_cons (st_asg (me_lst ma_nil) (g_ 2 sc_joined.nd))
    (ss_cons (st_for (L2.passes_of rfl) rfl (mi_range1 z.n_range (ma_cons (me_op op_sub od_sub (me_op op_addD od_add (me_cb call_len cd_len z.n_len (by kernel_rfl) (ma_cons (v_ 0) ma_nil)) (me_cb call_len cd_len z.n_len (by kernel_rfl) (ma_cons (v_ 1) ma_nil))) me_int) ma_nil)) (g_ 3 sc_joined.nd) (ss_cons (st_setLc (i := 4) (own := [("at", 5)]) rfl sc_joined.nd (by rfl) (by rfl) (by rfl) (mi_range1 z.n_range (ma_cons (me_cb call_len cd_len z.n_len (by kernel_rfl) (ma_cons (v_ 0) ma_nil)) ma_nil)) (blkOk_by (by rfl)) (by rfl) (fun _ _ _ _ _ => (pn_ 5 sc_joined.nd)) (fun _ _ _ _ _ => (mts_one fun fx => (mt_chain op_le od_le op_lt od_lt me_int (me_op op_sub od_sub (v_ 3) (v_ 5)) (me_cb call_len cd_len z.n_len (by kernel_rfl) (ma_cons (v_ 1) ma_nil))))) (fun fx _ _ _ _ _ => (v_ 5)))
    (ss_one (st_asg (me_op op_addD od_add (v_ 2) (me_lst (ma_cons (me_cb (cr_sum rfl) cd_sum z.n_sum (by kernel_rfl) (ma_cons (me_comp (own := [("at", 5)]) rfl sc_joined.nd (mi_it (v_ 4)) (blkOk_by (by rfl)) (by rfl) (fun _ _ _ _ _ => (pn_ 5 sc_joined.nd)) (fun _ _ _ _ _ => mts_nil) (fun fx _ _ _ _ _ => (me_op op_mulX od_mulX (me_ix (v_ 0) (v_ 5)) (me_ix (v_ 1) (me_op op_sub od_sub (v_ 3) (v_ 5)))))) ma_nil)) ma_nil))) (g_ 2 sc_joined.nd)))))
    (ss_one (st_ret (v_ 2)))))
theorem ok_joined {P : Program} {w : World} {K : PySem.W.Frag} {mg : Str → Option Value} {base : Heap} (z : Fz K mg base) {G : Gx} (hG : G.tb = tbK K) : Cal P w K mg base 1 "joined" (spM K G 2 m_joined) := (okG_joined z).at hG
theorem sc_made_polynomial : FnScope [("signs" : Str), ("found" : Str), ("sign" : Str), ("square" : Str), ("twice" : Str), ("part" : Str), ("one" : Str), ("other" : Str)] [("signs" : Str)] (defScope (topS 32)) := ⟨rfl, rfl, rfl, by decide +kernel, rfl, by decide +kernel, by decide +kernel⟩
theorem okG_made_polynomial {P : Program} {w : World} {K : PySem.W.Frag} {mg : Str → Option Value} {base : Heap} (z : Fz K mg base) : CalG P w K mg base 2 "made_polynomial" (tbK K) 1 m_made_polynomial := by
  obtain ⟨fd, F⟩ := z.d_made_polynomial
  refine ⟨fd, _, fun G hG => ok_def F sc_made_polynomial rfl rfl fun cdv A outer s H E hr => ?_, F.binds fun _ _ _ _ _ _ us hl => match us, hl with | [_], _ => rfl, F.kp, z.m_made_polynomial⟩
  exact (ss_cons (st_asg (me_lst (ma_cons me_int (ma_cons me_int ma_nil))) (g_ 1 sc_made_polynomial.nd))
    (ss_cons (st_for (L2.passes_of rfl) rfl (mi_it (v_ 0)) (g_ 2 sc_made_polynomial.nd) (ss_cons (st_asg (me_cal ((okG_joined z).iso hG) hr (by decide) (L2N.takes_of rfl rfl rfl rfl) (ma_cons (v_ 1) (ma_cons (v_ 1) ma_nil))) (g_ 3 sc_made_polynomial.nd))
    (ss_cons (st_asg (me_op op_addD od_add (me_comp (own := [("part", 5)]) rfl sc_made_polynomial.nd (mi_it (v_ 1)) (blkOk_by (by rfl)) (by rfl) (fun _ _ _ _ _ => (pn_ 5 sc_made_polynomial.nd)) (fun _ _ _ _ _ => mts_nil) (fun fx _ _ _ _ _ => (me_op op_mulX od_mulX me_int (v_ 5)))) (me_op op_mulX od_mulX (me_lst (ma_cons me_int ma_nil)) (me_op op_sub od_sub (me_cb call_len cd_len z.n_len (by kernel_rfl) (ma_cons (v_ 3) ma_nil)) (me_cb call_len cd_len z.n_len (by kernel_rfl) (ma_cons (v_ 1) ma_nil))))) (g_ 4 sc_made_polynomial.nd))
    (ss_one (st_asg (me_ifExp (mt_cmp (op_eqD (hu64 hr)) od_eq (v_ 2) (me_str (s := [43]) (by rfl) (by rfl)) (nomark _)) (v_ 3) (me_comp (own := [("one", 6), ("other", 7)]) rfl sc_made_polynomial.nd (mi_zip z.n_zip (ma_cons (v_ 4) (ma_cons (v_ 3) ma_nil))) (blkOk_by (by rfl)) (by rfl) (fun _ _ _ _ _ => (pg_tup rfl (pgs_cons (pn_ 6 sc_made_polynomial.nd) (pgs_cons (pn_ 7 sc_made_polynomial.nd) pgs_nil)))) (fun _ _ _ _ _ => mts_nil) (fun fx _ _ _ _ _ => (me_op op_sub od_sub (v_ 6) (v_ 7))))) (g_ 1 sc_made_polynomial.nd))))))
    (ss_one (st_ret (v_ 1)))))
theorem ok_made_polynomial {P : Program} {w : World} {K : PySem.W.Frag} {mg : Str → Option Value} {base : Heap} (z : Fz K mg base) {G : Gx} (hG : G.tb = tbK K) : Cal P w K mg base 2 "made_polynomial" (spM K G 1 m_made_polynomial) := (okG_made_polynomial z).at hG
theorem sc_number_by : FnScope [("signs" : Str), ("found" : Str), ("sign" : Str)] [("signs" : Str)] (defScope (topS 33)) := ⟨rfl, rfl, rfl, by decide +kernel, rfl, by decide +kernel, by decide +kernel⟩
theorem okG_number_by {P : Program} {w : World} {K : PySem.W.Frag} {mg : Str → Option Value} {base : Heap} (z : Fz K mg base) : CalG P w K mg base 1 "number_by" (tbK K) 1 m_number_by := by
  obtain ⟨fd, F⟩ := z.d_number_by
  refine ⟨fd, _, fun G hG => ok_def F sc_number_by rfl rfl fun cdv A outer s H E hr => ?_, F.binds fun _ _ _ _ _ _ us hl => match us, hl with | [_], _ => rfl, F.kp, z.m_number_by⟩
  exact (ss_cons (st_asg me_int (g_ 1 sc_number_by.nd))
    (ss_cons (st_for (L2.passes_of rfl) rfl (mi_it (v_ 0)) (g_ 2 sc_number_by.nd) (ss_one (st_asg (me_op op_addD od_add (me_op op_mulX od_mulX me_int (v_ 1)) (me_ifExp (mt_cmp (op_eqD (hu64 hr)) od_eq (v_ 2) (me_str (s := [43]) (by rfl) (by rfl)) (nomark _)) me_int me_int)) (g_ 1 sc_number_by.nd))))
    (ss_one (st_ret (v_ 1)))))
theorem ok_number_by {P : Program} {w : World} {K : PySem.W.Frag} {mg : Str → Option Value} {base : Heap} (z : Fz K mg base) {G : Gx} (hG : G.tb = tbK K) : Cal P w K mg base 1 "number_by" (spM K G 1 m_number_by) := (okG_number_by z).at hG
theorem sc_signs_by : FnScope [("steps" : Str), ("number" : Str), ("at" : Str)] [("steps" : Str), ("number" : Str)] (defScope (topS 34)) := ⟨rfl, rfl, rfl, by decide +kernel, rfl, by decide +kernel, by decide +kernel⟩
theorem okG_signs_by {P : Program} {w : World} {K : PySem.W.Frag} {mg : Str → Option Value} {base : Heap} (z : Fz K mg base) : CalG P w K mg base 1 "signs_by" (tbK K) 2 m_signs_by := by
  obtain ⟨fd, F⟩ := z.d_signs_by
  refine ⟨fd, _, fun G hG => ok_def F sc_signs_by rfl rfl fun cdv A outer s H E hr => ?_, F.binds fun _ _ _ _ _ _ us hl => match us, hl with | [_, _], _ => rfl, F.kp, z.m_signs_by⟩
  exact (ss_one (st_ret (me_join (me_str (s := []) (by rfl) (by rfl)) (ma_cons (me_comp (own := [("at", 2)]) rfl sc_signs_by.nd (mi_range1 z.n_range (ma_cons (v_ 0) ma_nil)) (blkOk_by (by rfl)) (by rfl) (fun _ _ _ _ _ => (pn_ 2 sc_signs_by.nd)) (fun _ _ _ _ _ => mts_nil) (fun fx _ _ _ _ _ => (me_ifExp (mt_cmp (op_eqD (hu64 hr)) od_eq (me_op op_mod od_mod (me_op op_shr od_shr (v_ 1) (me_op op_sub od_sub (me_op op_sub od_sub (v_ 0) me_int) (v_ 2))) me_int) me_int (nomark _)) (me_str (s := [43]) (by rfl) (by rfl)) (me_str (s := [45]) (by rfl) (by rfl))))) ma_nil))))
theorem ok_signs_by {P : Program} {w : World} {K : PySem.W.Frag} {mg : Str → Option Value} {base : Heap} (z : Fz K mg base) {G : Gx} (hG : G.tb = tbK K) : Cal P w K mg base 1 "signs_by" (spM K G 2 m_signs_by) := (okG_signs_by z).at hG
theorem sc_all_signs : FnScope [("steps" : Str), ("number" : Str)] [("steps" : Str)] (defScope (topS 35)) := ⟨rfl, rfl, rfl, by decide +kernel, rfl, by decide +kernel, by decide +kernel⟩
theorem okG_all_signs {P : Program} {w : World} {K : PySem.W.Frag} {mg : Str → Option Value} {base : Heap} (z : Fz K mg base) : CalG P w K mg base 2 "all_signs" (tbK K) 1 m_all_signs := by
  obtain ⟨fd, F⟩ := z.d_all_signs
  refine ⟨fd, _, fun G hG => ok_def F sc_all_signs rfl rfl fun cdv A outer s H E hr => ?_, F.binds fun _ _ _ _ _ _ us hl => match us, hl with | [_], _ => rfl, F.kp, z.m_all_signs⟩
  exact (ss_one (st_ret (me_comp (own := [("number", 1)]) rfl sc_all_signs.nd (mi_range1 z.n_range (ma_cons (me_op op_shl od_shl me_int (v_ 0)) ma_nil)) (blkOk_by (by rfl)) (by rfl) (fun _ _ _ _ _ => (pn_ 1 sc_all_signs.nd)) (fun _ _ _ _ _ => mts_nil) (fun fx _ _ _ _ _ => (me_cal ((okG_signs_by z).iso hG) hr (by decide) takesN (ma_cons (v_ 0) (ma_cons (v_ 1) ma_nil)))))))
theorem ok_all_signs {P : Program} {w : World} {K : PySem.W.Frag} {mg : Str → Option Value} {base : Heap} (z : Fz K mg base) {G : Gx} (hG : G.tb = tbK K) : Cal P w K mg base 2 "all_signs" (spM K G 1 m_all_signs) := (okG_all_signs z).at hG
theorem sc_is_within : FnScope [("part" : Str), ("low" : Str), ("high" : Str)] [("part" : Str), ("low" : Str), ("high" : Str)] (defScope (topS 36)) := ⟨rfl, rfl, rfl, by decide +kernel, rfl, by decide +kernel, by decide +kernel⟩
theorem okG_is_within {P : Program} {w : World} {K : PySem.W.Frag} {mg : Str → Option Value} {base : Heap} (z : Fz K mg base) : CalG P w K mg base 1 "is_within" (tbK K) 3 m_is_within := by
  obtain ⟨fd, F⟩ := z.d_is_within
  refine ⟨fd, _, fun G hG => ok_def F sc_is_within rfl rfl fun cdv A outer s H E hr => ?_, F.binds fun _ _ _ _ _ _ us hl => match us, hl with | [_, _, _], _ => rfl, F.kp, z.m_is_within⟩
  exact (ss_one (st_ret (me_and (me_cmp op_le od_le (me_op op_mulX od_mulX (me_ix (v_ 1) me_int) (me_ix (v_ 0) me_int)) (me_op op_mulX od_mulX (me_ix (v_ 0) me_int) (me_ix (v_ 1) me_int)) (nomark _)) (me_one (me_cmp op_le od_le (me_op op_mulX od_mulX (me_ix (v_ 0) me_int) (me_ix (v_ 2) me_int)) (me_op op_mulX od_mulX (me_ix (v_ 2) me_int) (me_ix (v_ 0) me_int)) (nomark _))))))
theorem ok_is_within {P : Program} {w : World} {K : PySem.W.Frag} {mg : Str → Option Value} {base : Heap} (z : Fz K mg base) {G : Gx} (hG : G.tb = tbK K) : Cal P w K mg base 1 "is_within" (spM K G 3 m_is_within) := (okG_is_within z).at hG
theorem sc_is_signs : FnScope [("value" : Str)] [("value" : Str)] (defScope (topS 37)) := ⟨rfl, rfl, rfl, by decide +kernel, rfl, by decide +kernel, by decide +kernel⟩
theorem okG_is_signs {P : Program} {w : World} {K : PySem.W.Frag} {mg : Str → Option Value} {base : Heap} (z : Fz K mg base) : CalG P w K mg base 2 "is_signs" (tbK K) 1 m_is_signs := by
  obtain ⟨fd, F⟩ := z.d_is_signs
  refine ⟨fd, _, fun G hG => ok_def F sc_is_signs rfl rfl fun cdv A outer s H E hr => ?_, F.binds fun _ _ _ _ _ _ us hl => match us, hl with | [_], _ => rfl, F.kp, z.m_is_signs⟩
  exact (ss_one (st_ret (me_cal ((okG_is_good z).iso hG) hr (by decide) (L2N.takes_of rfl rfl rfl rfl) (ma_cons (v_ 0) ma_nil))))
theorem ok_is_signs {P : Program} {w : World} {K : PySem.W.Frag} {mg : Str → Option Value} {base : Heap} (z : Fz K mg base) {G : Gx} (hG : G.tb = tbK K) : Cal P w K mg base 2 "is_signs" (spM K G 1 m_is_signs) := (okG_is_signs z).at hG
theorem sc_loss : FnScope [("signs" : Str), ("chance" : Str)] [("signs" : Str), ("chance" : Str)] (defScope (topS 38)) := ⟨rfl, rfl, rfl, by decide +kernel, rfl, by decide +kernel, by decide +kernel⟩
theorem okG_loss {P : Program} {w : World} {K : PySem.W.Frag} {mg : Str → Option Value} {base : Heap} (z : Fz K mg base) : CalG P w K mg base 4 "loss" (tbK K) 2 m_loss := by
  obtain ⟨fd, F⟩ := z.d_loss
  refine ⟨fd, _, fun G hG => ok_def F sc_loss rfl rfl fun cdv A outer s H E hr => ?_, F.binds fun _ _ _ _ _ _ us hl => match us, hl with | [_, _], _ => rfl, F.kp, z.m_loss⟩
  exact (ss_cons (st_expr (me_cal ((okG_need_signs z).iso hG) hr (by decide) (L2N.takes_of rfl rfl rfl rfl) (ma_cons (v_ 0) ma_nil)))
    (ss_cons (st_expr (me_cal ((okG_need_chance z).iso hG) hr (by decide) (L2N.takes_of rfl rfl rfl rfl) (ma_cons (v_ 1) ma_nil)))
    (ss_one (st_ret (me_cal ((okG_made_loss z).iso hG) hr (by decide) (L2N.takes_of rfl rfl rfl rfl) (ma_cons (v_ 0) (ma_cons (v_ 1) ma_nil)))))))
theorem ok_loss {P : Program} {w : World} {K : PySem.W.Frag} {mg : Str → Option Value} {base : Heap} (z : Fz K mg base) {G : Gx} (hG : G.tb = tbK K) : Cal P w K mg base 4 "loss" (spM K G 2 m_loss) := (okG_loss z).at hG
theorem sc_polynomial : FnScope [("signs" : Str)] [("signs" : Str)] (defScope (topS 39)) := ⟨rfl, rfl, rfl, by decide +kernel, rfl, by decide +kernel, by decide +kernel⟩
theorem okG_polynomial {P : Program} {w : World} {K : PySem.W.Frag} {mg : Str → Option Value} {base : Heap} (z : Fz K mg base) : CalG P w K mg base 3 "polynomial" (tbK K) 1 m_polynomial := by
  obtain ⟨fd, F⟩ := z.d_polynomial
  refine ⟨fd, _, fun G hG => ok_def F sc_polynomial rfl rfl fun cdv A outer s H E hr => ?_, F.binds fun _ _ _ _ _ _ us hl => match us, hl with | [_], _ => rfl, F.kp, z.m_polynomial⟩
  exact (ss_cons (st_expr (me_cal ((okG_need_signs z).iso hG) hr (by decide) (L2N.takes_of rfl rfl rfl rfl) (ma_cons (v_ 0) ma_nil)))
    (ss_one (st_ret (me_ct call_tuple_of cd_tuple z.n_tuple (by kernel_rfl) (ma_cons (me_cal ((okG_made_polynomial z).iso hG) hr (by decide) (L2N.takes_of rfl rfl rfl rfl) (ma_cons (v_ 0) ma_nil)) ma_nil)))))
theorem ok_polynomial {P : Program} {w : World} {K : PySem.W.Frag} {mg : Str → Option Value} {base : Heap} (z : Fz K mg base) {G : Gx} (hG : G.tb = tbK K) : Cal P w K mg base 3 "polynomial" (spM K G 1 m_polynomial) := (okG_polynomial z).at hG
theorem sc_number_of : FnScope [("signs" : Str)] [("signs" : Str)] (defScope (topS 40)) := ⟨rfl, rfl, rfl, by decide +kernel, rfl, by decide +kernel, by decide +kernel⟩
theorem okG_number_of {P : Program} {w : World} {K : PySem.W.Frag} {mg : Str → Option Value} {base : Heap} (z : Fz K mg base) : CalG P w K mg base 3 "number_of" (tbK K) 1 m_number_of := by
  obtain ⟨fd, F⟩ := z.d_number_of
  refine ⟨fd, _, fun G hG => ok_def F sc_number_of rfl rfl fun cdv A outer s H E hr => ?_, F.binds fun _ _ _ _ _ _ us hl => match us, hl with | [_], _ => rfl, F.kp, z.m_number_of⟩
  exact (ss_cons (st_expr (me_cal ((okG_need_signs z).iso hG) hr (by decide) (L2N.takes_of rfl rfl rfl rfl) (ma_cons (v_ 0) ma_nil)))
    (ss_one (st_ret (me_cal ((okG_number_by z).iso hG) hr (by decide) (L2N.takes_of rfl rfl rfl rfl) (ma_cons (v_ 0) ma_nil)))))
theorem ok_number_of {P : Program} {w : World} {K : PySem.W.Frag} {mg : Str → Option Value} {base : Heap} (z : Fz K mg base) {G : Gx} (hG : G.tb = tbK K) : Cal P w K mg base 3 "number_of" (spM K G 1 m_number_of) := (okG_number_of z).at hG
theorem sc_signs_of : FnScope [("steps" : Str), ("number" : Str)] [("steps" : Str), ("number" : Str)] (defScope (topS 41)) := ⟨rfl, rfl, rfl, by decide +kernel, rfl, by decide +kernel, by decide +kernel⟩
theorem okG_signs_of {P : Program} {w : World} {K : PySem.W.Frag} {mg : Str → Option Value} {base : Heap} (z : Fz K mg base) : CalG P w K mg base 3 "signs_of" (tbK K) 2 m_signs_of := by
  obtain ⟨fd, F⟩ := z.d_signs_of
  refine ⟨fd, _, fun G hG => ok_def F sc_signs_of rfl rfl fun cdv A outer s H E hr => ?_, F.binds fun _ _ _ _ _ _ us hl => match us, hl with | [_, _], _ => rfl, F.kp, z.m_signs_of⟩
  exact (ss_cons (st_expr (me_cal ((okG_need_steps z).iso hG) hr (by decide) (L2N.takes_of rfl rfl rfl rfl) (ma_cons (v_ 0) (ma_cons (me_gi z.c_MOST_SIGNS) ma_nil))))
    (ss_cons (st_if (mt_not (mt_val (me_cal ((okG_is_whole z).iso hG) hr (by decide) (L2N.takes_of rfl rfl rfl rfl) (ma_cons (v_ 1) (ma_cons me_int (ma_cons (me_op op_sub od_sub (me_op op_shl od_shl me_int (v_ 0)) me_int) ma_nil)))))) (ss_one (st_raise rfl (L2N.takes_of rfl rfl rfl rfl) PySem.F.excBase_ValueError z.x_InvalidNumber.1 z.x_InvalidNumber.2.1 z.x_InvalidNumber.2.2.1 (L2.raises_own z.x_InvalidNumber.2.2.2.1 z.x_InvalidNumber.2.2.2.2) (by rw [hG]; rfl))) ss_nil)
    (ss_one (st_ret (me_cal ((okG_signs_by z).iso hG) hr (by decide) (L2N.takes_of rfl rfl rfl rfl) (ma_cons (v_ 0) (ma_cons (v_ 1) ma_nil)))))))
theorem ok_signs_of {P : Program} {w : World} {K : PySem.W.Frag} {mg : Str → Option Value} {base : Heap} (z : Fz K mg base) {G : Gx} (hG : G.tb = tbK K) : Cal P w K mg base 3 "signs_of" (spM K G 2 m_signs_of) := (okG_signs_of z).at hG
theorem sc_losses : FnScope [("steps" : Str), ("chance" : Str), ("signs" : Str)] [("steps" : Str), ("chance" : Str)] (defScope (topS 42)) := ⟨rfl, rfl, rfl, by decide +kernel, rfl, by decide +kernel, by decide +kernel⟩
theorem okG_losses {P : Program} {w : World} {K : PySem.W.Frag} {mg : Str → Option Value} {base : Heap} (z : Fz K mg base) : CalG P w K mg base 4 "losses" (tbK K) 2 m_losses := by
  obtain ⟨fd, F⟩ := z.d_losses
  refine ⟨fd, _, fun G hG => ok_def F sc_losses rfl rfl fun cdv A outer s H E hr => ?_, F.binds fun _ _ _ _ _ _ us hl => match us, hl with | [_, _], _ => rfl, F.kp, z.m_losses⟩
  exact (ss_cons (st_expr (me_cal ((okG_need_steps z).iso hG) hr (by decide) (L2N.takes_of rfl rfl rfl rfl) (ma_cons (v_ 0) (ma_cons (me_gi z.c_MOST_SIGNS) ma_nil))))
    (ss_cons (st_expr (me_cal ((okG_need_chance z).iso hG) hr (by decide) (L2N.takes_of rfl rfl rfl rfl) (ma_cons (v_ 1) ma_nil)))
    (ss_one (st_ret (me_comp (own := [("signs", 2)]) rfl sc_losses.nd (mi_it (me_cal ((okG_all_signs z).iso hG) hr (by decide) (L2N.takes_of rfl rfl rfl rfl) (ma_cons (v_ 0) ma_nil))) (blkOk_by (by rfl)) (by rfl) (fun _ _ _ _ _ => (pn_ 2 sc_losses.nd)) (fun _ _ _ _ _ => mts_nil) (fun fx _ _ _ _ _ => (me_cal ((okG_made_loss z).iso hG) hr (by decide) takesN (ma_cons (v_ 2) (ma_cons (v_ 1) ma_nil)))))))))
theorem ok_losses {P : Program} {w : World} {K : PySem.W.Frag} {mg : Str → Option Value} {base : Heap} (z : Fz K mg base) {G : Gx} (hG : G.tb = tbK K) : Cal P w K mg base 4 "losses" (spM K G 2 m_losses) := (okG_losses z).at hG
theorem sc_count_between : FnScope [("steps" : Str), ("chance" : Str), ("low" : Str), ("high" : Str), ("part" : Str), ("signs" : Str)] [("steps" : Str), ("chance" : Str), ("low" : Str), ("high" : Str)] (defScope (topS 43)) := ⟨rfl, rfl, rfl, by decide +kernel, rfl, by decide +kernel, by decide +kernel⟩
theorem okG_count_between {P : Program} {w : World} {K : PySem.W.Frag} {mg : Str → Option Value} {base : Heap} (z : Fz K mg base) : CalG P w K mg base 4 "count_between" (tbK K) 4 m_count_between := by
  obtain ⟨fd, F⟩ := z.d_count_between
  refine ⟨fd, _, fun G hG => ok_def F sc_count_between rfl rfl fun cdv A outer s H E hr => ?_, F.binds fun _ _ _ _ _ _ us hl => match us, hl with | [_, _, _, _], _ => rfl, F.kp, z.m_count_between⟩
  exact (ss_cons (st_expr (me_cal ((okG_need_steps z).iso hG) hr (by decide) (L2N.takes_of rfl rfl rfl rfl) (ma_cons (v_ 0) (ma_cons (me_gi z.c_MOST_SIGNS) ma_nil))))
    (ss_cons (st_expr (me_cal ((okG_need_chance z).iso hG) hr (by decide) (L2N.takes_of rfl rfl rfl rfl) (ma_cons (v_ 1) ma_nil)))
    (ss_cons (st_for (L2.passes_of rfl) rfl (mi_it (me_tup (ma_cons (v_ 2) (ma_cons (v_ 3) ma_nil)))) (g_ 4 sc_count_between.nd) (ss_one (st_if (mt_not (mt_val (me_cal ((okG_is_part z).iso hG) hr (by decide) (L2N.takes_of rfl rfl rfl rfl) (ma_cons (v_ 4) (ma_cons (me_gi z.c_FAR) ma_nil))))) (ss_one (st_raise rfl (L2N.takes_of rfl rfl rfl rfl) PySem.F.excBase_ValueError z.x_InvalidChance.1 z.x_InvalidChance.2.1 z.x_InvalidChance.2.2.1 (L2.raises_own z.x_InvalidChance.2.2.2.1 z.x_InvalidChance.2.2.2.2) (by rw [hG]; rfl))) ss_nil)))
    (ss_one (st_ret (me_cb call_len cd_len z.n_len (by kernel_rfl) (ma_cons (me_comp (own := [("signs", 5)]) rfl sc_count_between.nd (mi_it (me_cal ((okG_all_signs z).iso hG) hr (by decide) (L2N.takes_of rfl rfl rfl rfl) (ma_cons (v_ 0) ma_nil))) (blkOk_by (by rfl)) (by rfl) (fun _ _ _ _ _ => (pn_ 5 sc_count_between.nd)) (fun _ _ _ _ _ => (mts_one fun fx => (mt_val (me_cal ((okG_is_within z).iso hG) hr (by decide) takesN (ma_cons (me_cal ((okG_made_loss z).iso hG) hr (by decide) takesN (ma_cons (v_ 5) (ma_cons (v_ 1) ma_nil))) (ma_cons (v_ 2) (ma_cons (v_ 3) ma_nil))))))) (fun fx _ _ _ _ _ => (v_ 5))) ma_nil)))))))
theorem ok_count_between {P : Program} {w : World} {K : PySem.W.Frag} {mg : Str → Option Value} {base : Heap} (z : Fz K mg base) {G : Gx} (hG : G.tb = tbK K) : Cal P w K mg base 4 "count_between" (spM K G 4 m_count_between) := (okG_count_between z).at hG
theorem sc__law_vat : FnScope [("script" : Str), ("k" : Str), ("cell" : Str)] [("script" : Str), ("k" : Str)] (defScope (topS 45)) := ⟨rfl, rfl, rfl, by decide +kernel, rfl, by decide +kernel, by decide +kernel⟩
theorem okG__law_vat {P : Program} {w : World} {K : PySem.W.Frag} {mg : Str → Option Value} {base : Heap} (z : Fz K mg base) : CalG P w K mg base 1 "_law_vat" (tbK K) 2 m__law_vat := by
  obtain ⟨fd, F⟩ := z.d__law_vat
  refine ⟨fd, _, fun G hG => ok_def F sc__law_vat rfl rfl fun cdv A outer s H E hr => ?_, F.binds fun _ _ _ _ _ _ us hl => match us, hl with | [_, _], _ => rfl, F.kp, z.m__law_vat⟩
  exact (ss_cons (st_asg (me_op op_addD od_add (me_op op_mulX od_mulX me_int (v_ 1)) me_int) (g_ 2 sc__law_vat.nd))
    (ss_cons (st_if (mt_cmp op_lt od_lt (v_ 1) (me_cb call_len cd_len z.n_len (by kernel_rfl) (ma_cons (v_ 0) ma_nil)) (nomark _)) (ss_one (st_asg (me_cb call_abs cd_abs z.n_abs (by kernel_rfl) (ma_cons (me_ct (L2.CallR.or call_int1 call_int_str) cd_int1 z.n_int (by kernel_rfl) (ma_cons (me_ix (v_ 0) (v_ 1)) ma_nil)) ma_nil)) (g_ 2 sc__law_vat.nd))) ss_nil)
    (ss_one (st_ret (me_cel (ma_cons (me_ifExp (mt_cmp op_ge od_ge (v_ 2) (me_op op_pow od_pow me_int me_int) (nomark _)) (v_ 2) me_int) (ma_cons (me_op op_addD od_add (me_op op_mod od_mod (me_ct (L2.CallR.or call_int1 call_int_str) cd_int1 z.n_int (by kernel_rfl) (ma_cons (me_op op_addD od_add (me_op op_addD od_add (me_op op_mulX od_mulX (v_ 2) me_int) (me_op op_mulX od_mulX me_int (v_ 1))) me_int) ma_nil)) me_int) me_int) ma_nil)))))))
theorem ok__law_vat {P : Program} {w : World} {K : PySem.W.Frag} {mg : Str → Option Value} {base : Heap} (z : Fz K mg base) {G : Gx} (hG : G.tb = tbK K) : Cal P w K mg base 1 "_law_vat" (spM K G 2 m__law_vat) := (okG__law_vat z).at hG
theorem sc__law_under : FnScope [("vat" : Str), ("many" : Str), ("wide" : Str), ("found" : Str)] [("vat" : Str), ("many" : Str)] (defScope (topS 46)) := ⟨rfl, rfl, rfl, by decide +kernel, rfl, by decide +kernel, by decide +kernel⟩
theorem okG__law_under {P : Program} {w : World} {K : PySem.W.Frag} {mg : Str → Option Value} {base : Heap} (z : Fz K mg base) : CalG P w K mg base 1 "_law_under" (tbK K) 2 m__law_under := by
  obtain ⟨fd, F⟩ := z.d__law_under
  refine ⟨fd, _, fun G hG => ok_def F sc__law_under rfl rfl fun cdv A outer s H E hr => ?_, F.binds fun _ _ _ _ _ _ us hl => match us, hl with | [_, _], _ => rfl, F.kp, z.m__law_under⟩
  exact (ss_cons (st_if (mt_cmp op_gt od_gt (me_ix (v_ 0) me_int) me_int (nomark _)) (ss_cons (st_asg (me_op op_mod od_mod (me_ct (L2.CallR.or call_int1 call_int_str) cd_int1 z.n_int (by kernel_rfl) (ma_cons (me_ix (v_ 0) me_int) ma_nil)) (v_ 1)) (g_ 3 sc__law_under.nd))
    (ss_cons (st_asg (me_op op_fdivW od_fdiv (me_ix (v_ 0) me_int) (v_ 1)) (gt_subX (W := W0) (hu1 hr) (v_ 0) me_int))
    (ss_one (st_ret (v_ 3))))) ss_nil)
    (ss_cons (st_asg (me_op op_mod od_mod (me_ct (L2.CallR.or call_int1 call_int_str) cd_int1 z.n_int (by kernel_rfl) (ma_cons (me_op op_addD od_add (me_op op_mulX od_mulX (me_ix (v_ 0) me_int) me_int) me_int) ma_nil)) me_int) (gt_subX (W := W0) (hu1 hr) (v_ 0) me_int))
    (ss_cons (st_asg (me_op op_mod od_mod (me_ct (L2.CallR.or call_int1 call_int_str) cd_int1 z.n_int (by kernel_rfl) (ma_cons (me_op op_mulX od_mulX (me_ix (v_ 0) me_int) (me_op op_addD od_add (me_op op_fdivW od_fdiv (me_ix (v_ 0) me_int) me_int) me_int)) ma_nil)) me_int) (g_ 2 sc__law_under.nd))
    (ss_one (st_ret (me_op op_mod od_mod (me_ct (L2.CallR.or call_int1 call_int_str) cd_int1 z.n_int (by kernel_rfl) (ma_cons (me_op op_fdivW od_fdiv (v_ 2) me_int) ma_nil)) (v_ 1)))))))
theorem ok__law_under {P : Program} {w : World} {K : PySem.W.Frag} {mg : Str → Option Value} {base : Heap} (z : Fz K mg base) {G : Gx} (hG : G.tb = tbK K) : Cal P w K mg base 1 "_law_under" (spM K G 2 m__law_under) := (okG__law_under z).at hG
theorem sc__law_some : FnScope [("vat" : Str), ("things" : Str)] [("vat" : Str), ("things" : Str)] (defScope (topS 47)) := ⟨rfl, rfl, rfl, by decide +kernel, rfl, by decide +kernel, by decide +kernel⟩
theorem okG__law_some {P : Program} {w : World} {K : PySem.W.Frag} {mg : Str → Option Value} {base : Heap} (z : Fz K mg base) : CalG P w K mg base 2 "_law_some" (tbK K) 2 m__law_some := by
  obtain ⟨fd, F⟩ := z.d__law_some
  refine ⟨fd, _, fun G hG => ok_def F sc__law_some rfl rfl fun cdv A outer s H E hr => ?_, F.binds fun _ _ _ _ _ _ us hl => match us, hl with | [_, _], _ => rfl, F.kp, z.m__law_some⟩
  exact (ss_one (st_ret (me_ix (v_ 1) (me_cal (ok__law_under z hG) hr (by decide) (L2N.takes_of rfl rfl rfl rfl) (ma_cons (v_ 0) (ma_cons (me_cb call_len cd_len z.n_len (by kernel_rfl) (ma_cons (v_ 1) ma_nil)) ma_nil))))))
theorem ok__law_some {P : Program} {w : World} {K : PySem.W.Frag} {mg : Str → Option Value} {base : Heap} (z : Fz K mg base) {G : Gx} (hG : G.tb = tbK K) : Cal P w K mg base 2 "_law_some" (spM K G 2 m__law_some) := (okG__law_some z).at hG
theorem sc__law_truly : FnScope [("found" : Str), ("due" : Str)] [("found" : Str), ("due" : Str)] (defScope (topS 48)) := ⟨rfl, rfl, rfl, by decide +kernel, rfl, by decide +kernel, by decide +kernel⟩
theorem okG__law_truly {P : Program} {w : World} {K : PySem.W.Frag} {mg : Str → Option Value} {base : Heap} (z : Fz K mg base) : CalG P w K mg base 1 "_law_truly" (tbK K) 2 m__law_truly := by
  obtain ⟨fd, F⟩ := z.d__law_truly
  refine ⟨fd, _, fun G hG => ok_def F sc__law_truly rfl rfl fun cdv A outer s H E hr => ?_, F.binds fun _ _ _ _ _ _ us hl => match us, hl with | [_, _], _ => rfl, F.kp, z.m__law_truly⟩
  exact (ss_one (st_ret (me_and (me_isi (T := "bool") (by rfl) (by kernel_rfl) isi_bool z.n_isinstance z.n_bool (v_ 0)) (me_one (me_cmp (op_eqD (hu64 hr)) od_eq (v_ 0) (v_ 1) (nomark _))))))
theorem ok__law_truly {P : Program} {w : World} {K : PySem.W.Frag} {mg : Str → Option Value} {base : Heap} (z : Fz K mg base) {G : Gx} (hG : G.tb = tbK K) : Cal P w K mg base 1 "_law_truly" (spM K G 2 m__law_truly) := (okG__law_truly z).at hG
theorem sc__law_gcd : FnScope [("one" : Str), ("other" : Str)] [("one" : Str), ("other" : Str)] (defScope (topS 49)) := ⟨rfl, rfl, rfl, by decide +kernel, rfl, by decide +kernel, by decide +kernel⟩
theorem okG__law_gcd {P : Program} {w : World} {K : PySem.W.Frag} {mg : Str → Option Value} {base : Heap} (z : Fz K mg base) : CalG P w K mg base 1 "_law_gcd" (tbK K) 2 m__law_gcd := by
  obtain ⟨fd, F⟩ := z.d__law_gcd
  refine ⟨fd, _, fun G hG => ok_def F sc__law_gcd rfl rfl fun cdv A outer s H E hr => ?_, F.binds fun _ _ _ _ _ _ us hl => match us, hl with | [_, _], _ => rfl, F.kp, z.m__law_gcd⟩
  exact (ss_cons (st_while (fuelN 1) (L2.passes_of rfl) (mt_cmp (op_neD (hu64 hr)) od_ne (v_ 1) me_int (nomark _)) (ss_one (st_par (i := 0) (j := 1) rfl sc__law_gcd.nd rfl rfl (by decide) rfl rfl (ma_cons (v_ 1) (ma_cons (me_op op_mod od_mod (v_ 0) (v_ 1)) ma_nil)) (by rfl))))
    (ss_one (st_ret (me_cb call_abs cd_abs z.n_abs (by kernel_rfl) (ma_cons (v_ 0) ma_nil)))))
theorem ok__law_gcd {P : Program} {w : World} {K : PySem.W.Frag} {mg : Str → Option Value} {base : Heap} (z : Fz K mg base) {G : Gx} (hG : G.tb = tbK K) : Cal P w K mg base 1 "_law_gcd" (spM K G 2 m__law_gcd) := (okG__law_gcd z).at hG
theorem sc__law_low : FnScope [("top" : Str), ("below" : Str), ("common" : Str)] [("top" : Str), ("below" : Str)] (defScope (topS 50)) := ⟨rfl, rfl, rfl, by decide +kernel, rfl, by decide +kernel, by decide +kernel⟩
theorem okG__law_low {P : Program} {w : World} {K : PySem.W.Frag} {mg : Str → Option Value} {base : Heap} (z : Fz K mg base) : CalG P w K mg base 2 "_law_low" (tbK K) 2 m__law_low := by
  obtain ⟨fd, F⟩ := z.d__law_low
  refine ⟨fd, _, fun G hG => ok_def F sc__law_low rfl rfl fun cdv A outer s H E hr => ?_, F.binds fun _ _ _ _ _ _ us hl => match us, hl with | [_, _], _ => rfl, F.kp, z.m__law_low⟩
  exact (ss_cons (st_asg (me_cal ((okG__law_gcd z).iso hG) hr (by decide) (L2N.takes_of rfl rfl rfl rfl) (ma_cons (v_ 0) (ma_cons (v_ 1) ma_nil))) (g_ 2 sc__law_low.nd))
    (ss_one (st_ret (me_tup (ma_cons (me_op op_fdivW od_fdiv (v_ 0) (v_ 2)) (ma_cons (me_op op_fdivW od_fdiv (v_ 1) (v_ 2)) ma_nil))))))
theorem ok__law_low {P : Program} {w : World} {K : PySem.W.Frag} {mg : Str → Option Value} {base : Heap} (z : Fz K mg base) {G : Gx} (hG : G.tb = tbK K) : Cal P w K mg base 2 "_law_low" (spM K G 2 m__law_low) := (okG__law_low z).at hG
theorem sc__law_is_signs : FnScope [("value" : Str), ("sign" : Str)] [("value" : Str)] (defScope (topS 51)) := ⟨rfl, rfl, rfl, by decide +kernel, rfl, by decide +kernel, by decide +kernel⟩
def b__law_is_signs : MS := (sRet (vAnd (m1 dIsStr (vr 0)) (vAnd (m2 dLt (mFn (f1 dLen) (mCons (vr 0) mNil)) (cst (.int 6))) (m2 dEq (mComp [1] (.nm 1) (mIt (vr 0)) (mB (m2 dNotIn (vr 1) (mLst (mCons (cst (.str [45])) (mCons (cst (.str [43])) mNil))))) (vr 1)) (mLst mNil)))))
def m__law_is_signs : List D → M D := runB true 2 1 (b__law_is_signs)
theorem okG__law_is_signs {P : Program} {w : World} {K : PySem.W.Frag} {mg : Str → Option Value} {base : Heap} (z : Fz K mg base) : CalG P w K mg base 1 "_law_is_signs" (tbK K) 1 m__law_is_signs := by
  obtain ⟨fd, F⟩ := z.d__law_is_signs
  refine ⟨fd, _, fun G hG => ok_def F sc__law_is_signs rfl rfl fun cdv A outer s H E hr => ?_, F.binds fun _ _ _ _ _ _ us hl => match us, hl with | [_], _ => rfl, F.kp, z.m__law_is_signs⟩
  exact (ss_one (st_ret (me_and (me_isi (T := "str") (by rfl) (by kernel_rfl) isi_str z.n_isinstance z.n_str (v_ 0)) (me_and (me_cmp op_lt od_lt (me_cb call_len cd_len z.n_len (by kernel_rfl) (ma_cons (v_ 0) ma_nil)) me_int (nomark _)) (me_one (me_cmp (op_eqD (hu64 hr)) od_eq (me_comp (own := [("sign", 1)]) rfl sc__law_is_signs.nd (mi_it (v_ 0)) (blkOk_by (by rfl)) (by rfl) (fun _ _ _ _ _ => (pn_ 1 sc__law_is_signs.nd)) (fun _ _ _ _ _ => (mts_one fun fx => (mt_cmp (op_notInA (hu65 hr)) (od_inG true) (v_ 1) (me_lst (ma_cons (me_str (s := [45]) (by rfl) (by rfl)) (ma_cons (me_str (s := [43]) (by rfl) (by rfl)) ma_nil))) (by rfl)))) (fun fx _ _ _ _ _ => (v_ 1))) (me_lst ma_nil) (nomark _)))))))
theorem ok__law_is_signs {P : Program} {w : World} {K : PySem.W.Frag} {mg : Str → Option Value} {base : Heap} (z : Fz K mg base) {G : Gx} (hG : G.tb = tbK K) : Cal P w K mg base 1 "_law_is_signs" (spM K G 1 m__law_is_signs) := (okG__law_is_signs z).at hG
theorem sc__law_loss : FnScope [("signs_so" : Str), ("chance_so" : Str), ("sign" : Str), ("lost" : Str), ("kept" : Str), ("whole" : Str)] [("signs_so" : Str), ("chance_so" : Str)] (defScope (topS 52)) := ⟨rfl, rfl, rfl, by decide +kernel, rfl, by decide +kernel, by decide +kernel⟩
theorem okG__law_loss {P : Program} {w : World} {K : PySem.W.Frag} {mg : Str → Option Value} {base : Heap} (z : Fz K mg base) : CalG P w K mg base 3 "_law_loss" (tbK K) 2 m__law_loss := by
  obtain ⟨fd, F⟩ := z.d__law_loss
  refine ⟨fd, _, fun G hG => ok_def F sc__law_loss rfl rfl fun cdv A outer s H E hr => ?_, F.binds fun _ _ _ _ _ _ us hl => match us, hl with | [_, _], _ => rfl, F.kp, z.m__law_loss⟩
  exact (ss_cons (st_par (i := 3) (j := 4) rfl sc__law_loss.nd rfl rfl (by decide) rfl rfl (ma_cons (me_ix (v_ 1) me_int) (ma_cons (me_op op_sub od_sub (me_ix (v_ 1) me_int) (me_ix (v_ 1) me_int)) ma_nil)) (by rfl))
    (ss_cons (st_for (L2.passes_of rfl) rfl (mi_it (v_ 0)) (g_ 2 sc__law_loss.nd) (ss_cons (st_asg (me_op op_mulX od_mulX (me_op op_addD od_add (v_ 3) (v_ 4)) (me_op op_addD od_add (v_ 3) (v_ 4))) (g_ 5 sc__law_loss.nd))
    (ss_one (st_if (mt_cmp (op_eqD (hu64 hr)) od_eq (v_ 2) (me_str (s := [43]) (by rfl) (by rfl)) (nomark _)) (ss_one (st_par (i := 3) (j := 4) rfl sc__law_loss.nd rfl rfl (by decide) rfl rfl (ma_cons (me_op op_mulX od_mulX (v_ 3) (v_ 3)) (ma_cons (me_op op_sub od_sub (v_ 5) (me_op op_mulX od_mulX (v_ 3) (v_ 3))) ma_nil)) (by rfl))) (ss_one (st_par (i := 3) (j := 4) rfl sc__law_loss.nd rfl rfl (by decide) rfl rfl (ma_cons (me_op op_sub od_sub (v_ 5) (me_op op_mulX od_mulX (v_ 4) (v_ 4))) (ma_cons (me_op op_mulX od_mulX (v_ 4) (v_ 4)) ma_nil)) (by rfl)))))))
    (ss_one (st_ret (me_cal ((okG__law_low z).iso hG) hr (by decide) (L2N.takes_of rfl rfl rfl rfl) (ma_cons (v_ 3) (ma_cons (me_op op_addD od_add (v_ 3) (v_ 4)) ma_nil)))))))
theorem ok__law_loss {P : Program} {w : World} {K : PySem.W.Frag} {mg : Str → Option Value} {base : Heap} (z : Fz K mg base) {G : Gx} (hG : G.tb = tbK K) : Cal P w K mg base 3 "_law_loss" (spM K G 2 m__law_loss) := (okG__law_loss z).at hG
theorem sc__law_less : FnScope [("one" : Str), ("other" : Str)] [("one" : Str), ("other" : Str)] (defScope (topS 53)) := ⟨rfl, rfl, rfl, by decide +kernel, rfl, by decide +kernel, by decide +kernel⟩
theorem okG__law_less {P : Program} {w : World} {K : PySem.W.Frag} {mg : Str → Option Value} {base : Heap} (z : Fz K mg base) : CalG P w K mg base 1 "_law_less" (tbK K) 2 m__law_less := by
  obtain ⟨fd, F⟩ := z.d__law_less
  refine ⟨fd, _, fun G hG => ok_def F sc__law_less rfl rfl fun cdv A outer s H E hr => ?_, F.binds fun _ _ _ _ _ _ us hl => match us, hl with | [_, _], _ => rfl, F.kp, z.m__law_less⟩
  exact (ss_one (st_ret (me_cmp op_le od_le (me_op op_mulX od_mulX (me_ix (v_ 0) me_int) (me_ix (v_ 1) me_int)) (me_op op_mulX od_mulX (me_ix (v_ 1) me_int) (me_ix (v_ 0) me_int)) (nomark _))))
theorem ok__law_less {P : Program} {w : World} {K : PySem.W.Frag} {mg : Str → Option Value} {base : Heap} (z : Fz K mg base) {G : Gx} (hG : G.tb = tbK K) : Cal P w K mg base 1 "_law_less" (spM K G 2 m__law_less) := (okG__law_less z).at hG
theorem sc__law_every : FnScope [("steps_so" : Str), ("found" : Str), ("turn" : Str), ("later" : Str), ("signs_so" : Str)] [("steps_so" : Str)] (defScope (topS 54)) := ⟨rfl, rfl, rfl, by decide +kernel, rfl, by decide +kernel, by decide +kernel⟩
theorem okG__law_every {P : Program} {w : World} {K : PySem.W.Frag} {mg : Str → Option Value} {base : Heap} (z : Fz K mg base) : CalG P w K mg base 1 "_law_every" (tbK K) 1 m__law_every := by
  obtain ⟨fd, F⟩ := z.d__law_every
  refine ⟨fd, _, fun G hG => ok_def F sc__law_every rfl rfl fun cdv A outer s H E hr => ?_, F.binds fun _ _ _ _ _ _ us hl => match us, hl with | [_], _ => rfl, F.kp, z.m__law_every⟩
  exact (ss_cons (st_asg (me_lst (ma_cons (me_str (s := []) (by rfl) (by rfl)) ma_nil)) (g_ 1 sc__law_every.nd))
    (ss_cons (st_for (L2.passes_of rfl) rfl (mi_range1 z.n_range (ma_cons (v_ 0) ma_nil)) (g_ 2 sc__law_every.nd) (ss_cons (st_asg (me_lst ma_nil) (g_ 3 sc__law_every.nd))
    (ss_cons (st_for (L2.passes_of rfl) rfl (mi_it (v_ 1)) (g_ 4 sc__law_every.nd) (ss_one (st_asg (me_op op_addD od_add (v_ 3) (me_lst (ma_cons (me_op op_addD od_add (v_ 4) (me_str (s := [45]) (by rfl) (by rfl))) (ma_cons (me_op op_addD od_add (v_ 4) (me_str (s := [43]) (by rfl) (by rfl))) ma_nil)))) (g_ 3 sc__law_every.nd))))
    (ss_one (st_asg (v_ 3) (g_ 1 sc__law_every.nd))))))
    (ss_one (st_ret (v_ 1)))))
theorem ok__law_every {P : Program} {w : World} {K : PySem.W.Frag} {mg : Str → Option Value} {base : Heap} (z : Fz K mg base) {G : Gx} (hG : G.tb = tbK K) : Cal P w K mg base 1 "_law_every" (spM K G 1 m__law_every) := (okG__law_every z).at hG
theorem sc__law_chance : FnScope [("vat" : Str), ("below" : Str)] [("vat" : Str)] (defScope (topS 55)) := ⟨rfl, rfl, rfl, by decide +kernel, rfl, by decide +kernel, by decide +kernel⟩
theorem okG__law_chance {P : Program} {w : World} {K : PySem.W.Frag} {mg : Str → Option Value} {base : Heap} (z : Fz K mg base) : CalG P w K mg base 3 "_law_chance" (tbK K) 1 m__law_chance := by
  obtain ⟨fd, F⟩ := z.d__law_chance
  refine ⟨fd, _, fun G hG => ok_def F sc__law_chance rfl rfl fun cdv A outer s H E hr => ?_, F.binds fun _ _ _ _ _ _ us hl => match us, hl with | [_], _ => rfl, F.kp, z.m__law_chance⟩
  exact (ss_cons (st_asg (me_cal (ok__law_some z hG) hr (by decide) (L2N.takes_of rfl rfl rfl rfl) (ma_cons (v_ 0) (ma_cons (me_lst (ma_cons me_int (ma_cons me_int (ma_cons me_int (ma_cons me_int (ma_cons me_int (ma_cons me_int (ma_cons me_int (ma_cons me_int (ma_cons me_int (ma_cons me_int ma_nil))))))))))) ma_nil))) (g_ 1 sc__law_chance.nd))
    (ss_one (st_ret (me_cal ((okG__law_low z).iso hG) hr (by decide) (L2N.takes_of rfl rfl rfl rfl) (ma_cons (me_cal (ok__law_under z hG) hr (by decide) (L2N.takes_of rfl rfl rfl rfl) (ma_cons (v_ 0) (ma_cons (me_op op_addD od_add (v_ 1) me_int) ma_nil))) (ma_cons (v_ 1) ma_nil))))))
theorem ok__law_chance {P : Program} {w : World} {K : PySem.W.Frag} {mg : Str → Option Value} {base : Heap} (z : Fz K mg base) {G : Gx} (hG : G.tb = tbK K) : Cal P w K mg base 3 "_law_chance" (spM K G 1 m__law_chance) := (okG__law_chance z).at hG
theorem sc__law_signs : FnScope [("vat" : Str), ("most" : Str), ("turn" : Str)] [("vat" : Str), ("most" : Str)] (defScope (topS 56)) := ⟨rfl, rfl, rfl, by decide +kernel, rfl, by decide +kernel, by decide +kernel⟩
theorem okG__law_signs {P : Program} {w : World} {K : PySem.W.Frag} {mg : Str → Option Value} {base : Heap} (z : Fz K mg base) : CalG P w K mg base 3 "_law_signs" (tbK K) 2 m__law_signs := by
  obtain ⟨fd, F⟩ := z.d__law_signs
  refine ⟨fd, _, fun G hG => ok_def F sc__law_signs rfl rfl fun cdv A outer s H E hr => ?_, F.binds fun _ _ _ _ _ _ us hl => match us, hl with | [_, _], _ => rfl, F.kp, z.m__law_signs⟩
  exact (ss_one (st_ret (me_join (me_str (s := []) (by rfl) (by rfl)) (ma_cons (me_comp (own := [("turn", 2)]) rfl sc__law_signs.nd (mi_range1 z.n_range (ma_cons (me_cal (ok__law_under z hG) hr (by decide) (L2N.takes_of rfl rfl rfl rfl) (ma_cons (v_ 0) (ma_cons (me_op op_addD od_add (v_ 1) me_int) ma_nil))) ma_nil)) (blkOk_by (by rfl)) (by rfl) (fun _ _ _ _ _ => (pn_ 2 sc__law_signs.nd)) (fun _ _ _ _ _ => mts_nil) (fun fx _ _ _ _ _ => (me_cal (ok__law_some z hG) hr (by decide) takesN (ma_cons (v_ 0) (ma_cons (me_lst (ma_cons (me_str (s := [45]) (by rfl) (by rfl)) (ma_cons (me_str (s := [43]) (by rfl) (by rfl)) ma_nil))) ma_nil))))) ma_nil))))
theorem ok__law_signs {P : Program} {w : World} {K : PySem.W.Frag} {mg : Str → Option Value} {base : Heap} (z : Fz K mg base) {G : Gx} (hG : G.tb = tbK K) : Cal P w K mg base 3 "_law_signs" (spM K G 2 m__law_signs) := (okG__law_signs z).at hG
theorem sc__law_spoilt : FnScope [("vat" : Str), ("value" : Str), ("way" : Str), ("at" : Str)] [("vat" : Str), ("value" : Str)] (defScope (topS 57)) := ⟨rfl, rfl, rfl, by decide +kernel, rfl, by decide +kernel, by decide +kernel⟩
theorem okG__law_spoilt {P : Program} {w : World} {K : PySem.W.Frag} {mg : Str → Option Value} {base : Heap} (z : Fz K mg base) : ∀ (n : Nat), CalG P w K mg base (2 + n) "_law_spoilt" (tbK K) 2 (m__law_spoilt n)
  | 0 => by
    obtain ⟨fd, F⟩ := z.d__law_spoilt
    exact ⟨fd, [("vat" : Str), ("value" : Str)], fun G hG => ⟨fun vs H Q E h => (fail_sp h).elim, fun A outer s H args us vs Q E _ _ _ _ h => (fail_sp h).elim⟩, F.binds fun _ _ _ _ _ _ us hl => match us, hl with | [_, _], _ => rfl, F.kp, z.m__law_spoilt⟩
  | n + 1 => by
    obtain ⟨fd, F⟩ := z.d__law_spoilt
    have ok__law_spoilt : ∀ (_ : Fz K mg base) (n' : Nat) {G : Gx} (hG : G.tb = tbK K), n' = n → Cal P w K mg base (2 + n') "_law_spoilt" (spM K G 2 (m__law_spoilt n')) := fun z n' G hG e => e ▸ (okG__law_spoilt z n).at hG
    refine ⟨fd, _, fun G hG => ok_def (k := 2 + n) F sc__law_spoilt rfl rfl fun cdv A outer s H E hr => ?_, F.binds fun _ _ _ _ _ _ us hl => match us, hl with | [_, _], _ => rfl, F.kp, z.m__law_spoilt⟩
    exact (ss_cons (st_if (mt_w (mw_and (mt_val (me_isi (T := "tuple") (by rfl) (by kernel_rfl) isi_tup z.n_isinstance z.n_tuple (v_ 1))) (mw_and (mt_cmp (op_neD (hu64 hr)) od_ne (v_ 1) (me_tup ma_nil) (nomark _)) (mw_and1 (mt_cmp op_gt od_gt (me_cal (ok__law_under z hG) hr (by omega) (L2N.takes_of rfl rfl rfl rfl) (ma_cons (v_ 0) (ma_cons me_int ma_nil))) me_int (nomark _)))))) (ss_cons (st_asg (me_cal (ok__law_under z hG) hr (by omega) (L2N.takes_of rfl rfl rfl rfl) (ma_cons (v_ 0) (ma_cons (me_cb call_len cd_len z.n_len (by kernel_rfl) (ma_cons (v_ 1) ma_nil)) ma_nil))) (g_ 3 sc__law_spoilt.nd))
    (ss_one (st_ret (me_op op_addD od_add (me_op op_addD od_add (me_cut (v_ 1) mo_none (mo_some (v_ 3))) (me_tup (ma_cons (me_cal (ok__law_spoilt z n hG rfl) hr (by omega) (L2N.takes_of rfl rfl rfl rfl) (ma_cons (v_ 0) (ma_cons (me_ix (v_ 1) (v_ 3)) ma_nil))) ma_nil))) (me_cut (v_ 1) (mo_some (me_op op_addD od_add (v_ 3) me_int)) mo_none))))) ss_nil)
    (ss_cons (st_asg (me_cal (ok__law_under z hG) hr (by omega) (L2N.takes_of rfl rfl rfl rfl) (ma_cons (v_ 0) (ma_cons me_int ma_nil))) (g_ 2 sc__law_spoilt.nd))
    (ss_cons (st_if (mt_val (me_isi (T := "tuple") (by rfl) (by kernel_rfl) isi_tup z.n_isinstance z.n_tuple (v_ 1))) (ss_one (st_ret (me_ix (me_lst (ma_cons (me_ct call_list_of cd_list z.n_list (by kernel_rfl) (ma_cons (v_ 1) ma_nil)) (ma_cons (me_cut (v_ 1) (mo_some me_int) mo_none) (ma_cons (me_op op_addD od_add (v_ 1) (me_cut (v_ 1) (mo_some (me_neg me_int)) mo_none)) (ma_cons (me_cut (v_ 1) mo_none (mo_some (me_neg me_int))) (ma_cons me_non (ma_cons (me_tup (ma_cons (v_ 1) (ma_cons (v_ 1) ma_nil))) ma_nil))))))) (v_ 2)))) ss_nil)
    (ss_cons (st_if (mt_val (me_isi (T := "str") (by rfl) (by kernel_rfl) isi_str z.n_isinstance z.n_str (v_ 1))) (ss_one (st_ret (me_ix (me_lst (ma_bump (meb_opc op_addD od_add (v_ 1) (z := [45]) (by rfl) (by rfl)) (mat_cons (met (me_op op_addD od_add (me_str (s := [42]) (by rfl) (by rfl)) (v_ 1))) (mat_cons (met (me_cut (v_ 1) (mo_some me_int) mo_none)) (mat_cons (met (me_op op_addD od_add (v_ 1) (me_str (s := [43, 45, 43]) (by rfl) (by rfl)))) (mat_cons (met me_int) (mat_cons (met_repl (y := [45]) (z := [43]) (v_ 1)) mat_nil))))))) (v_ 2)))) ss_nil)
    (ss_cons (st_if (mt_val (me_isi (T := "int") (by rfl) (by kernel_rfl) isi_int z.n_isinstance z.n_int (v_ 1))) (ss_one (st_ret (me_ix (me_lst (ma_cons (me_op op_addD od_add (v_ 1) me_int) (ma_cons (me_op op_sub od_sub (v_ 1) me_int) (ma_cons me_int (ma_cons me_bl (ma_cons me_non (ma_cons (me_str (s := [45]) (by rfl) (by rfl)) ma_nil))))))) (v_ 2)))) ss_nil)
    (ss_one (st_ret me_non)))))))
theorem ok__law_spoilt {P : Program} {w : World} {K : PySem.W.Frag} {mg : Str → Option Value} {base : Heap} (z : Fz K mg base) (n : Nat) {G : Gx} (hG : G.tb = tbK K) : Cal P w K mg base (2 + n) "_law_spoilt" (spM K G 2 (m__law_spoilt n)) := (okG__law_spoilt z n).at hG
theorem sc__law_names : FnScope [("e" : Str), ("some" : Str), ("labels" : Str), ("label" : Str), ("good" : Str)] [("e" : Str)] (defScope (topS 58)) := ⟨rfl, rfl, rfl, by decide +kernel, rfl, by decide +kernel, by decide +kernel⟩
structure KitR (K : PySem.W.Frag) (D : Addr) (b_InvalidSigns b_InvalidChance b_InvalidNumber b_InvalidCode b_InvalidData b_InvalidSeen b_InvalidLost b_InvalidTable b_InvalidFacts b_InvalidShare b_InvalidPlace b_InvalidSign b_InvalidText b_Misfit b_Unlike b_NothingToUndo b_TooMany b_ValueError : Bool) : Prop where
  c_InvalidSigns : PySem.W.kitOne K (.ref D) (.ref (He.ga K "InvalidSigns")) = some b_InvalidSigns
  c_InvalidChance : PySem.W.kitOne K (.ref D) (.ref (He.ga K "InvalidChance")) = some b_InvalidChance
  c_InvalidNumber : PySem.W.kitOne K (.ref D) (.ref (He.ga K "InvalidNumber")) = some b_InvalidNumber
  c_InvalidCode : PySem.W.kitOne K (.ref D) (.ref (He.ga K "InvalidCode")) = some b_InvalidCode
  c_InvalidData : PySem.W.kitOne K (.ref D) (.ref (He.ga K "InvalidData")) = some b_InvalidData
  c_InvalidSeen : PySem.W.kitOne K (.ref D) (.ref (He.ga K "InvalidSeen")) = some b_InvalidSeen
  c_InvalidLost : PySem.W.kitOne K (.ref D) (.ref (He.ga K "InvalidLost")) = some b_InvalidLost
  c_InvalidTable : PySem.W.kitOne K (.ref D) (.ref (He.ga K "InvalidTable")) = some b_InvalidTable
  c_InvalidFacts : PySem.W.kitOne K (.ref D) (.ref (He.ga K "InvalidFacts")) = some b_InvalidFacts
  c_InvalidShare : PySem.W.kitOne K (.ref D) (.ref (He.ga K "InvalidShare")) = some b_InvalidShare
  c_InvalidPlace : PySem.W.kitOne K (.ref D) (.ref (He.ga K "InvalidPlace")) = some b_InvalidPlace
  c_InvalidSign : PySem.W.kitOne K (.ref D) (.ref (He.ga K "InvalidSign")) = some b_InvalidSign
  c_InvalidText : PySem.W.kitOne K (.ref D) (.ref (He.ga K "InvalidText")) = some b_InvalidText
  c_Misfit : PySem.W.kitOne K (.ref D) (.ref (He.ga K "Misfit")) = some b_Misfit
  c_Unlike : PySem.W.kitOne K (.ref D) (.ref (He.ga K "Unlike")) = some b_Unlike
  c_NothingToUndo : PySem.W.kitOne K (.ref D) (.ref (He.ga K "NothingToUndo")) = some b_NothingToUndo
  c_TooMany : PySem.W.kitOne K (.ref D) (.ref (He.ga K "TooMany")) = some b_TooMany
  ty : PySem.W.kitOne K (.ref D) (.type "ValueError") = some b_ValueError
theorem names_ok {P : Program} {w : World} {K : PySem.W.Frag} {mg : Str → Option Value} {base : Heap} (z : Fz K mg base) {D : Addr} {b_InvalidSigns b_InvalidChance b_InvalidNumber b_InvalidCode b_InvalidData b_InvalidSeen b_InvalidLost b_InvalidTable b_InvalidFacts b_InvalidShare b_InvalidPlace b_InvalidSign b_InvalidText b_Misfit b_Unlike b_NothingToUndo b_TooMany b_ValueError : Bool} (C : ExcC K D) (q : KitR K D b_InvalidSigns b_InvalidChance b_InvalidNumber b_InvalidCode b_InvalidData b_InvalidSeen b_InvalidLost b_InvalidTable b_InvalidFacts b_InvalidShare b_InvalidPlace b_InvalidSign b_InvalidText b_Misfit b_Unlike b_NothingToUndo b_TooMany b_ValueError)
    (hz : ((HN.sel (Txt.split "signs chance number code data seen lost table facts share place sign text misfit unlike undo many value" " ") [b_InvalidSigns, b_InvalidChance, b_InvalidNumber, b_InvalidCode, b_InvalidData, b_InvalidSeen, b_InvalidLost, b_InvalidTable, b_InvalidFacts, b_InvalidShare, b_InvalidPlace, b_InvalidSign, b_InvalidText, b_Misfit, b_Unlike, b_NothingToUndo, b_TooMany, b_ValueError]).map (·.length)).sum + (HN.sel (Txt.split "signs chance number code data seen lost table facts share place sign text misfit unlike undo many value" " ") [b_InvalidSigns, b_InvalidChance, b_InvalidNumber, b_InvalidCode, b_InvalidData, b_InvalidSeen, b_InvalidLost, b_InvalidTable, b_InvalidFacts, b_InvalidShare, b_InvalidPlace, b_InvalidSign, b_InvalidText, b_Misfit, b_Unlike, b_NothingToUndo, b_TooMany, b_ValueError]).length * (" " : Str).length ≤ 16777216) : NamesC P w K mg base 1 "_law_names" D (HN.namesT [b_InvalidSigns, b_InvalidChance, b_InvalidNumber, b_InvalidCode, b_InvalidData, b_InvalidSeen, b_InvalidLost, b_InvalidTable, b_InvalidFacts, b_InvalidShare, b_InvalidPlace, b_InvalidSign, b_InvalidText, b_Misfit, b_Unlike, b_NothingToUndo, b_TooMany, b_ValueError] "signs chance number code data seen lost table facts share place sign text misfit unlike undo many value" " ") := by
  obtain ⟨fd, F⟩ := z.d__law_names
  refine names_mk F sc__law_names z.m__law_names (F.binds fun _ _ _ _ _ _ us hl => match us, hl with | [_], _ => rfl) rfl (by decide +kernel) (by decide +kernel) (by show _ = 18; decide +kernel) (by show 18 ≤ 1000; decide) hz fun cdv A outer s H E p hot zc fl hr => ?_
  have hE := HN.isE_at (Y := L2H.cxH (L2N.CX P w) P w K mg base [("e" : Str), ("some" : Str), ("labels" : Str), ("label" : Str), ("good" : Str)] "_law_names" (defScope (topS 58)) (He.ga K "_law_names") cdv A outer s H E p) (p := p) List.mem_cons_self C zc fl
  exact pss_cons (ps_asg (pe_lst (HN.nb_ref hE z.n_isinstance z.m_InvalidSigns (q.c_InvalidSigns) (HN.nb_ref hE z.n_isinstance z.m_InvalidChance (q.c_InvalidChance) (HN.nb_ref hE z.n_isinstance z.m_InvalidNumber (q.c_InvalidNumber) (HN.nb_ref hE z.n_isinstance z.m_InvalidCode (q.c_InvalidCode) (HN.nb_ref hE z.n_isinstance z.m_InvalidData (q.c_InvalidData) (HN.nb_ref hE z.n_isinstance z.m_InvalidSeen (q.c_InvalidSeen) (HN.nb_ref hE z.n_isinstance z.m_InvalidLost (q.c_InvalidLost) (HN.nb_ref hE z.n_isinstance z.m_InvalidTable (q.c_InvalidTable) (HN.nb_ref hE z.n_isinstance z.m_InvalidFacts (q.c_InvalidFacts) (HN.nb_ref hE z.n_isinstance z.m_InvalidShare (q.c_InvalidShare) (HN.nb_ref hE z.n_isinstance z.m_InvalidPlace (q.c_InvalidPlace) (HN.nb_ref hE z.n_isinstance z.m_InvalidSign (q.c_InvalidSign) (HN.nb_ref hE z.n_isinstance z.m_InvalidText (q.c_InvalidText) (HN.nb_ref hE z.n_isinstance z.m_Misfit (q.c_Misfit) (HN.nb_ref hE z.n_isinstance z.m_Unlike (q.c_Unlike) (HN.nb_ref hE z.n_isinstance z.m_NothingToUndo (q.c_NothingToUndo) (HN.nb_ref hE z.n_isinstance z.m_TooMany (q.c_TooMany) (HN.nb_ty hE z.n_isinstance z.n_ValueError (by kernel_rfl) (q.ty) HN.nb_nil))))))))))))))))))) (pn_ 1 sc__law_names.nd)) (pss_cons (ps_asg pe_str (pn_ 2 sc__law_names.nd)) (pss_one (ps_ret (pe_join pe_str (HN.names_comp (p := p) List.mem_cons_self hot sc__law_names.nd rfl rfl (blkOk_by (by rfl)) (pa_cons (pe_split (pv 2) pe_str) (pa_cons (pv 1) pa_nil)) (by rfl) z.n_zip (by rfl) (by rfl) (by intro _; rfl)
    (fun _ _ _ _ _ => pgs_cons (pn_ 3 sc__law_names.nd) (pgs_cons (pn_ 4 sc__law_names.nd) pgs_nil)) (fun _ _ => ⟨rfl, rfl⟩) (fun _ _ _ _ _ => HN.pt_good (pv 4)) (fun _ _ _ _ _ => pv 3))))))
theorem nm_ok : ∀ j, j < 16 → ((nmT j).all fun c => decide (c < 0x110000)) = true
  | 0, _ => rfl
  | 1, _ => rfl
  | 2, _ => rfl
  | 3, _ => rfl
  | 4, _ => rfl
  | 5, _ => rfl
  | 6, _ => rfl
  | 7, _ => rfl
  | 8, _ => rfl
  | 9, _ => rfl
  | 10, _ => rfl
  | 11, _ => rfl
  | 12, _ => rfl
  | 13, _ => rfl
  | 14, _ => rfl
  | 15, _ => rfl
  | n + 16, h => by omega
def nmR : Nat → List Bool
  | 0 => [true, false, false, false, false, false, false, false, false, false, false, false, false, false, false, false, false, true]
  | 1 => [false, true, false, false, false, false, false, false, false, false, false, false, false, false, false, false, false, true]
  | 2 => [false, false, true, false, false, false, false, false, false, false, false, false, false, false, false, false, false, true]
  | 3 => [false, false, false, true, false, false, false, false, false, false, false, false, false, false, false, false, false, true]
  | 4 => [false, false, false, false, true, false, false, false, false, false, false, false, false, false, false, false, false, true]
  | 5 => [false, false, false, false, false, true, false, false, false, false, false, false, false, false, false, false, false, true]
  | 6 => [false, false, false, false, false, false, true, false, false, false, false, false, false, false, false, false, false, true]
  | 7 => [false, false, false, false, false, false, false, true, false, false, false, false, false, false, false, false, false, true]
  | 8 => [false, false, false, false, false, false, false, false, true, false, false, false, false, false, false, false, false, true]
  | 9 => [false, false, false, false, false, false, false, false, false, true, false, false, false, false, false, false, false, true]
  | 10 => [false, false, false, false, false, false, false, false, false, false, true, false, false, false, false, false, false, true]
  | 11 => [false, false, false, false, false, false, false, false, false, false, false, true, false, false, false, false, false, true]
  | 12 => [false, false, false, false, false, false, false, false, false, false, false, false, true, false, false, false, false, true]
  | 13 => [false, false, false, false, false, false, false, false, false, false, false, false, false, true, false, false, false, true]
  | 14 => [false, false, false, false, false, false, false, false, false, false, false, false, false, false, true, false, false, true]
  | 15 => [false, false, false, false, false, false, false, false, false, false, false, false, false, false, false, true, false, true]
  | _ => []
theorem nm_text : ∀ j, j < 16 → HN.namesT (nmR j) "signs chance number code data seen lost table facts share place sign text misfit unlike undo many value" " " = ⟨(nmT j).toArray⟩
  | 0, _ => by decide +kernel
  | 1, _ => by decide +kernel
  | 2, _ => by decide +kernel
  | 3, _ => by decide +kernel
  | 4, _ => by decide +kernel
  | 5, _ => by decide +kernel
  | 6, _ => by decide +kernel
  | 7, _ => by decide +kernel
  | 8, _ => by decide +kernel
  | 9, _ => by decide +kernel
  | 10, _ => by decide +kernel
  | 11, _ => by decide +kernel
  | 12, _ => by decide +kernel
  | 13, _ => by decide +kernel
  | 14, _ => by decide +kernel
  | 15, _ => by decide +kernel
  | n + 16, h => by omega
theorem namesC {P : Program} {w : World} {K : PySem.W.Frag} {mg : Str → Option Value} {base : Heap} (z : Fz K mg base) : ∀ j, j < 16 → NamesC P w K mg base 1 "_law_names" ((tbK K).exs j) (HN.namesT (nmR j) "signs chance number code data seen lost table facts share place sign text misfit unlike undo many value" " ")
  | 0, _ => by
    obtain ⟨C, q⟩ := z.q_InvalidSigns
    simp only [List.cons.injEq, and_true] at q
    obtain ⟨q0, q1, q2, q3, q4, q5, q6, q7, q8, q9, q10, q11, q12, q13, q14, q15, q16, q17⟩ := q
    exact names_ok z C ⟨q0, q1, q2, q3, q4, q5, q6, q7, q8, q9, q10, q11, q12, q13, q14, q15, q16, q17⟩ (by decide +kernel)
  | 1, _ => by
    obtain ⟨C, q⟩ := z.q_InvalidChance
    simp only [List.cons.injEq, and_true] at q
    obtain ⟨q0, q1, q2, q3, q4, q5, q6, q7, q8, q9, q10, q11, q12, q13, q14, q15, q16, q17⟩ := q
    exact names_ok z C ⟨q0, q1, q2, q3, q4, q5, q6, q7, q8, q9, q10, q11, q12, q13, q14, q15, q16, q17⟩ (by decide +kernel)
  | 2, _ => by
    obtain ⟨C, q⟩ := z.q_InvalidNumber
    simp only [List.cons.injEq, and_true] at q
    obtain ⟨q0, q1, q2, q3, q4, q5, q6, q7, q8, q9, q10, q11, q12, q13, q14, q15, q16, q17⟩ := q
    exact names_ok z C ⟨q0, q1, q2, q3, q4, q5, q6, q7, q8, q9, q10, q11, q12, q13, q14, q15, q16, q17⟩ (by decide +kernel)
  | 3, _ => by
    obtain ⟨C, q⟩ := z.q_InvalidCode
    simp only [List.cons.injEq, and_true] at q
    obtain ⟨q0, q1, q2, q3, q4, q5, q6, q7, q8, q9, q10, q11, q12, q13, q14, q15, q16, q17⟩ := q
    exact names_ok z C ⟨q0, q1, q2, q3, q4, q5, q6, q7, q8, q9, q10, q11, q12, q13, q14, q15, q16, q17⟩ (by decide +kernel)
  | 4, _ => by
    obtain ⟨C, q⟩ := z.q_InvalidData
    simp only [List.cons.injEq, and_true] at q
    obtain ⟨q0, q1, q2, q3, q4, q5, q6, q7, q8, q9, q10, q11, q12, q13, q14, q15, q16, q17⟩ := q
    exact names_ok z C ⟨q0, q1, q2, q3, q4, q5, q6, q7, q8, q9, q10, q11, q12, q13, q14, q15, q16, q17⟩ (by decide +kernel)
  | 5, _ => by
    obtain ⟨C, q⟩ := z.q_InvalidSeen
    simp only [List.cons.injEq, and_true] at q
    obtain ⟨q0, q1, q2, q3, q4, q5, q6, q7, q8, q9, q10, q11, q12, q13, q14, q15, q16, q17⟩ := q
    exact names_ok z C ⟨q0, q1, q2, q3, q4, q5, q6, q7, q8, q9, q10, q11, q12, q13, q14, q15, q16, q17⟩ (by decide +kernel)
  | 6, _ => by
    obtain ⟨C, q⟩ := z.q_InvalidLost
    simp only [List.cons.injEq, and_true] at q
    obtain ⟨q0, q1, q2, q3, q4, q5, q6, q7, q8, q9, q10, q11, q12, q13, q14, q15, q16, q17⟩ := q
    exact names_ok z C ⟨q0, q1, q2, q3, q4, q5, q6, q7, q8, q9, q10, q11, q12, q13, q14, q15, q16, q17⟩ (by decide +kernel)
  | 7, _ => by
    obtain ⟨C, q⟩ := z.q_InvalidTable
    simp only [List.cons.injEq, and_true] at q
    obtain ⟨q0, q1, q2, q3, q4, q5, q6, q7, q8, q9, q10, q11, q12, q13, q14, q15, q16, q17⟩ := q
    exact names_ok z C ⟨q0, q1, q2, q3, q4, q5, q6, q7, q8, q9, q10, q11, q12, q13, q14, q15, q16, q17⟩ (by decide +kernel)
  | 8, _ => by
    obtain ⟨C, q⟩ := z.q_InvalidFacts
    simp only [List.cons.injEq, and_true] at q
    obtain ⟨q0, q1, q2, q3, q4, q5, q6, q7, q8, q9, q10, q11, q12, q13, q14, q15, q16, q17⟩ := q
    exact names_ok z C ⟨q0, q1, q2, q3, q4, q5, q6, q7, q8, q9, q10, q11, q12, q13, q14, q15, q16, q17⟩ (by decide +kernel)
  | 9, _ => by
    obtain ⟨C, q⟩ := z.q_InvalidShare
    simp only [List.cons.injEq, and_true] at q
    obtain ⟨q0, q1, q2, q3, q4, q5, q6, q7, q8, q9, q10, q11, q12, q13, q14, q15, q16, q17⟩ := q
    exact names_ok z C ⟨q0, q1, q2, q3, q4, q5, q6, q7, q8, q9, q10, q11, q12, q13, q14, q15, q16, q17⟩ (by decide +kernel)
  | 10, _ => by
    obtain ⟨C, q⟩ := z.q_InvalidPlace
    simp only [List.cons.injEq, and_true] at q
    obtain ⟨q0, q1, q2, q3, q4, q5, q6, q7, q8, q9, q10, q11, q12, q13, q14, q15, q16, q17⟩ := q
    exact names_ok z C ⟨q0, q1, q2, q3, q4, q5, q6, q7, q8, q9, q10, q11, q12, q13, q14, q15, q16, q17⟩ (by decide +kernel)
  | 11, _ => by
    obtain ⟨C, q⟩ := z.q_InvalidSign
    simp only [List.cons.injEq, and_true] at q
    obtain ⟨q0, q1, q2, q3, q4, q5, q6, q7, q8, q9, q10, q11, q12, q13, q14, q15, q16, q17⟩ := q
    exact names_ok z C ⟨q0, q1, q2, q3, q4, q5, q6, q7, q8, q9, q10, q11, q12, q13, q14, q15, q16, q17⟩ (by decide +kernel)
  | 12, _ => by
    obtain ⟨C, q⟩ := z.q_InvalidText
    simp only [List.cons.injEq, and_true] at q
    obtain ⟨q0, q1, q2, q3, q4, q5, q6, q7, q8, q9, q10, q11, q12, q13, q14, q15, q16, q17⟩ := q
    exact names_ok z C ⟨q0, q1, q2, q3, q4, q5, q6, q7, q8, q9, q10, q11, q12, q13, q14, q15, q16, q17⟩ (by decide +kernel)
  | 13, _ => by
    obtain ⟨C, q⟩ := z.q_Misfit
    simp only [List.cons.injEq, and_true] at q
    obtain ⟨q0, q1, q2, q3, q4, q5, q6, q7, q8, q9, q10, q11, q12, q13, q14, q15, q16, q17⟩ := q
    exact names_ok z C ⟨q0, q1, q2, q3, q4, q5, q6, q7, q8, q9, q10, q11, q12, q13, q14, q15, q16, q17⟩ (by decide +kernel)
  | 14, _ => by
    obtain ⟨C, q⟩ := z.q_Unlike
    simp only [List.cons.injEq, and_true] at q
    obtain ⟨q0, q1, q2, q3, q4, q5, q6, q7, q8, q9, q10, q11, q12, q13, q14, q15, q16, q17⟩ := q
    exact names_ok z C ⟨q0, q1, q2, q3, q4, q5, q6, q7, q8, q9, q10, q11, q12, q13, q14, q15, q16, q17⟩ (by decide +kernel)
  | 15, _ => by
    obtain ⟨C, q⟩ := z.q_NothingToUndo
    simp only [List.cons.injEq, and_true] at q
    obtain ⟨q0, q1, q2, q3, q4, q5, q6, q7, q8, q9, q10, q11, q12, q13, q14, q15, q16, q17⟩ := q
    exact names_ok z C ⟨q0, q1, q2, q3, q4, q5, q6, q7, q8, q9, q10, q11, q12, q13, q14, q15, q16, q17⟩ (by decide +kernel)
  | n + 16, h => by omega
theorem sc__law_error : FnScope [("call" : Str), ("e" : Str)] [("call" : Str)] (defScope (topS 59)) := ⟨rfl, rfl, rfl, by decide +kernel, rfl, by decide +kernel, by decide +kernel⟩
theorem giv__law_error {P : Program} {w : World} {K : PySem.W.Frag} {mg : Str → Option Value} {base : Heap} (z : Fz K mg base) {k : Nat} (hk : 1 ≤ k) : Gives P w K mg base k "_law_error" "call" [("call" : Str), ("e" : Str)] b__law_error (tbK K) := by
  obtain ⟨fd, F⟩ := z.d__law_error
  refine ⟨topS 59, fd, F, sc__law_error, z.m__law_error, F.binds fun _ _ _ _ _ _ us hl => match us, hl with | [_], _ => rfl, Or.inl rfl, fun cdv A outer s H E G act hr0 hG hact => ?_⟩
  have hr := hr0.mono hk
  exact (ss_cons (st_try (c := He.ga K "SplitError") (i := 1) (nE := 16) (h := (fun j => D.str (nmT j))) rfl rfl sc__law_error.nd rfl (by rfl) ⟨by rfl, by decide, .inl z.m_SplitError⟩ (L2N.takes_of rfl rfl rfl rfl) (fun W2 pn xe tk2 hp2 => (ss_one (st_expr (hact _ _ _ _ _ tk2)))) (fun j hj => by rw [hG]; exact ⟨z.exm j hj, (su_names (i := 1) (ev := "e") (namesC z j hj) (roomH_of1 (hr.mono (j := 1) (by decide))) (nm_text j hj) (nm_ok j hj) (by rfl) (Or.inl rfl))⟩))
    (ss_one (st_ret (me_str (s := []) (by rfl) (by rfl)))))
theorem sc__law_all_refused : FnScope [("call" : Str), ("odds" : Str), ("name" : Str), ("odd" : Str)] [("call" : Str), ("odds" : Str), ("name" : Str)] (defScope (topS 60)) := ⟨rfl, rfl, rfl, by decide +kernel, rfl, by decide +kernel, by decide +kernel⟩
theorem ok__law_all_refused {P : Program} {w : World} {K : PySem.W.Frag} {mg : Str → Option Value} {base : Heap} (z : Fz K mg base) {G : Gx} {mf : List D → M D} (hG : G.tb = tbK K) (hB : ∀ fx, HofB P w K mg base 40 (G.fl fx) 1 mf) : Cal P w K mg base 43 "_law_all_refused" (spM K G 3 (m__law_all_refused mf)) := by
  obtain ⟨fd, F⟩ := z.d__law_all_refused
  refine ⟨fd, _, ok_defC F sc__law_all_refused rfl rfl fun cdv A outer s H E hcd hr => ?_, F.binds fun _ _ _ _ _ _ us hl => match us, hl with | [_, _, _], _ => rfl, F.kp, z.m__law_all_refused⟩
  exact (ss_one (st_ret (me_cmp (op_eqD (hu64 hr)) od_eq (me_comp (own := [("odd", 3)]) rfl sc__law_all_refused.nd (mi_it (v_ 1)) (blkOk_by (by rfl)) (by rfl) (fun _ _ _ _ _ => (pn_ 3 sc__law_all_refused.nd)) (fun _ _ _ _ _ => (mts_one fun fx => (mt_cmp (op_neD (hu64 hr)) od_ne (me_lam (k := 41) (kb := 40) (x := "_law_error") (P := (He.cT K ("_law_all_refused", none)).2) (by rw [hG]; exact giv__law_error z (by decide)) (hr.mono (by decide)) (by decide) takesN z.t__law_all_refused (by exact hcd) (by rw [hG]; exact (.head _)) (by rw [hG]; exact tab_hu z.tnd (.head _)) (LamX.lamS_by (by rfl)) (fun A outer s H E f c hr => (me_hof (i := 0) (hB _) hr (by decide) (L2N.takes_of rfl rfl rfl rfl) (ma_cons (v_ 3) ma_nil)))) (v_ 2) (nomark _)))) (fun fx _ _ _ _ _ => (v_ 3))) (me_lst ma_nil) (nomark _))))
theorem sc__law_bad_signs : FnScope [] [] (defScope (topS 61)) := ⟨rfl, rfl, rfl, by decide +kernel, rfl, by decide +kernel, by decide +kernel⟩
theorem okG__law_bad_signs {P : Program} {w : World} {K : PySem.W.Frag} {mg : Str → Option Value} {base : Heap} (z : Fz K mg base) : CalG P w K mg base 1 "_law_bad_signs" (tbK K) 0 m__law_bad_signs := by
  obtain ⟨fd, F⟩ := z.d__law_bad_signs
  refine ⟨fd, _, fun G hG => ok_def F sc__law_bad_signs rfl rfl fun cdv A outer s H E hr => ?_, F.binds fun _ _ _ _ _ _ us hl => match us, hl with | [], _ => rfl, F.kp, z.m__law_bad_signs⟩
  exact (ss_one (st_ret (me_lst (ma_cons me_non (ma_cons (me_str (s := [42]) (by rfl) (by rfl)) (ma_cons (me_str (s := [43, 43, 43, 43, 43, 43]) (by rfl) (by rfl)) (ma_cons me_int (ma_cons (me_tup (ma_cons (me_str (s := [45]) (by rfl) (by rfl)) ma_nil)) (ma_cons (me_lst (ma_cons (me_str (s := [43]) (by rfl) (by rfl)) ma_nil)) (ma_cons (me_str (s := [43, 32, 45]) (by rfl) (by rfl)) (ma_cons (me_str (s := [48]) (by rfl) (by rfl)) ma_nil)))))))))))
theorem ok__law_bad_signs {P : Program} {w : World} {K : PySem.W.Frag} {mg : Str → Option Value} {base : Heap} (z : Fz K mg base) {G : Gx} (hG : G.tb = tbK K) : Cal P w K mg base 1 "_law_bad_signs" (spM K G 0 m__law_bad_signs) := (okG__law_bad_signs z).at hG
theorem sc__law_bad_chances : FnScope [] [] (defScope (topS 62)) := ⟨rfl, rfl, rfl, by decide +kernel, rfl, by decide +kernel, by decide +kernel⟩
theorem okG__law_bad_chances {P : Program} {w : World} {K : PySem.W.Frag} {mg : Str → Option Value} {base : Heap} (z : Fz K mg base) : CalG P w K mg base 1 "_law_bad_chances" (tbK K) 0 m__law_bad_chances := by
  obtain ⟨fd, F⟩ := z.d__law_bad_chances
  refine ⟨fd, _, fun G hG => ok_def F sc__law_bad_chances rfl rfl fun cdv A outer s H E hr => ?_, F.binds fun _ _ _ _ _ _ us hl => match us, hl with | [], _ => rfl, F.kp, z.m__law_bad_chances⟩
  exact (ss_one (st_ret (me_lst (ma_cons me_non (ma_cons (me_tup (ma_cons me_int (ma_cons me_int ma_nil))) (ma_cons (me_tup (ma_cons me_int (ma_cons me_int ma_nil))) (ma_cons (me_tup (ma_cons me_int (ma_cons me_int ma_nil))) (ma_cons (me_tup (ma_cons (me_neg me_int) (ma_cons me_int ma_nil))) (ma_cons (me_lst (ma_cons me_int (ma_cons me_int ma_nil))) (ma_cons (me_tup (ma_cons me_int (ma_cons me_int ma_nil))) (ma_cons (me_tup (ma_cons me_int (ma_cons me_int (ma_cons me_int ma_nil)))) (ma_cons (me_tup (ma_cons me_bl (ma_cons me_int ma_nil))) (ma_cons (me_tup (ma_cons me_int (ma_cons me_int ma_nil))) (ma_cons me_int (ma_cons (me_str (s := [49, 47, 50]) (by rfl) (by rfl)) ma_nil)))))))))))))))
theorem ok__law_bad_chances {P : Program} {w : World} {K : PySem.W.Frag} {mg : Str → Option Value} {base : Heap} (z : Fz K mg base) {G : Gx} (hG : G.tb = tbK K) : Cal P w K mg base 1 "_law_bad_chances" (spM K G 0 m__law_bad_chances) := (okG__law_bad_chances z).at hG
theorem sc__law_poly : FnScope [("signs_so" : Str), ("found" : Str), ("sign" : Str), ("base" : Str), ("square" : Str), ("one" : Str), ("part" : Str), ("other" : Str), ("more" : Str), ("at" : Str)] [("signs_so" : Str)] (defScope (topS 63)) := ⟨rfl, rfl, rfl, by decide +kernel, rfl, by decide +kernel, by decide +kernel⟩
def b__law_poly : MS := (sSeq (sAsg (mLst (mCons (cst (.int 0)) (mCons (cst (.int 1)) mNil))) (gNm 1))
  (sSeq (sFor (mIt (vr 0)) (gNm 2) (sSeq (sAsg (mIf (mB (m2 dEq (vr 2) (cst (.str [43])))) (vr 1) (mComp [9, 6] (.tp [9, 6]) (mItL itEnum (mCons (vr 1) mNil)) yes (m2 dSub (mFn (f1 dInt1) (mCons (m2 dEq (vr 9) (cst (.int 0))) mNil)) (vr 6)))) (gNm 3))
  (sSeq (sAsg (m2 dRepC (mLst (mCons (cst (.int 0)) mNil)) (m2 dSub (m2 dMulX (cst (.int 2)) (mFn (f1 dLen) (mCons (vr 3) mNil))) (cst (.int 1)))) (gNm 4))
  (sSeq (sFor (mItL itEnum (mCons (vr 3) mNil)) (gTp [(gNm 5), (gNm 6)]) (sFor (mItL itEnum (mCons (vr 3) mNil)) (gTp [(gNm 7), (gNm 8)]) (sAsg (m2 dAdd (m2 dIx (vr 4) (m2 dAdd (vr 5) (vr 7))) (m2 dMulX (vr 6) (vr 8))) (gSubX (vr 4) (m2 dAdd (vr 5) (vr 7))))))
  (sAsg (mIf (mB (m2 dEq (vr 2) (cst (.str [43])))) (vr 4) (mComp [9, 6] (.tp [9, 6]) (mItL itEnum (mCons (vr 4) mNil)) yes (m2 dSub (mFn (f1 dInt1) (mCons (m2 dEq (vr 9) (cst (.int 0))) mNil)) (vr 6)))) (gNm 1))))))
  (sRet (mFn (f1 dTuple) (mCons (vr 1) mNil)))))
def m__law_poly : List D → M D := runB true 10 1 (b__law_poly)
theorem okG__law_poly {P : Program} {w : World} {K : PySem.W.Frag} {mg : Str → Option Value} {base : Heap} (z : Fz K mg base) : CalG P w K mg base 1 "_law_poly" (tbK K) 1 m__law_poly := by
  obtain ⟨fd, F⟩ := z.d__law_poly
  refine ⟨fd, _, fun G hG => ok_def F sc__law_poly rfl rfl fun cdv A outer s H E hr => ?_, F.binds fun _ _ _ _ _ _ us hl => match us, hl with | [_], _ => rfl, F.kp, z.m__law_poly⟩
  exact (ss_cons (st_asg (me_lst (ma_cons me_int (ma_cons me_int ma_nil))) (g_ 1 sc__law_poly.nd))
    (ss_cons (st_for (L2.passes_of rfl) rfl (mi_it (v_ 0)) (g_ 2 sc__law_poly.nd) (ss_cons (st_asg (me_ifExp (mt_cmp (op_eqD (hu64 hr)) od_eq (v_ 2) (me_str (s := [43]) (by rfl) (by rfl)) (nomark _)) (v_ 1) (me_comp (own := [("at", 9), ("part", 6)]) rfl sc__law_poly.nd (mi_enum z.n_enumerate (ma_cons (v_ 1) ma_nil)) (blkOk_by (by rfl)) (by rfl) (fun _ _ _ _ _ => (pg_tup rfl (pgs_cons (pn_ 9 sc__law_poly.nd) (pgs_cons (pn_ 6 sc__law_poly.nd) pgs_nil)))) (fun _ _ _ _ _ => mts_nil) (fun fx _ _ _ _ _ => (me_op op_sub od_sub (me_ct (L2.CallR.or call_int1 call_int_str) cd_int1 z.n_int (by kernel_rfl) (ma_cons (me_cmp (op_eqD (hu64 hr)) od_eq (v_ 9) me_int (nomark _)) ma_nil)) (v_ 6))))) (g_ 3 sc__law_poly.nd))
    (ss_cons (st_asg (me_op op_rep od_repC (me_lst (ma_cons me_int ma_nil)) (me_op op_sub od_sub (me_op op_mulX od_mulX me_int (me_cb call_len cd_len z.n_len (by kernel_rfl) (ma_cons (v_ 3) ma_nil))) me_int)) (g_ 4 sc__law_poly.nd))
    (ss_cons (st_for (L2.passes_of rfl) rfl (mi_enum z.n_enumerate (ma_cons (v_ 3) ma_nil)) (gt_tup rfl (gts_cons (g_ 5 sc__law_poly.nd) (gts_cons (g_ 6 sc__law_poly.nd) gts_nil))) (ss_one (st_for (L2.passes_of rfl) rfl (mi_enum z.n_enumerate (ma_cons (v_ 3) ma_nil)) (gt_tup rfl (gts_cons (g_ 7 sc__law_poly.nd) (gts_cons (g_ 8 sc__law_poly.nd) gts_nil))) (ss_one (st_asg (me_op op_addD od_add (me_ix (v_ 4) (me_op op_addD od_add (v_ 5) (v_ 7))) (me_op op_mulX od_mulX (v_ 6) (v_ 8))) (gt_subX (W := W0) (hu1 hr) (v_ 4) (me_op op_addD od_add (v_ 5) (v_ 7))))))))
    (ss_one (st_asg (me_ifExp (mt_cmp (op_eqD (hu64 hr)) od_eq (v_ 2) (me_str (s := [43]) (by rfl) (by rfl)) (nomark _)) (v_ 4) (me_comp (own := [("at", 9), ("part", 6)]) rfl sc__law_poly.nd (mi_enum z.n_enumerate (ma_cons (v_ 4) ma_nil)) (blkOk_by (by rfl)) (by rfl) (fun _ _ _ _ _ => (pg_tup rfl (pgs_cons (pn_ 9 sc__law_poly.nd) (pgs_cons (pn_ 6 sc__law_poly.nd) pgs_nil)))) (fun _ _ _ _ _ => mts_nil) (fun fx _ _ _ _ _ => (me_op op_sub od_sub (me_ct (L2.CallR.or call_int1 call_int_str) cd_int1 z.n_int (by kernel_rfl) (ma_cons (me_cmp (op_eqD (hu64 hr)) od_eq (v_ 9) me_int (nomark _)) ma_nil)) (v_ 6))))) (g_ 1 sc__law_poly.nd)))))))
    (ss_one (st_ret (me_ct call_tuple_of cd_tuple z.n_tuple (by kernel_rfl) (ma_cons (v_ 1) ma_nil))))))
theorem ok__law_poly {P : Program} {w : World} {K : PySem.W.Frag} {mg : Str → Option Value} {base : Heap} (z : Fz K mg base) {G : Gx} (hG : G.tb = tbK K) : Cal P w K mg base 1 "_law_poly" (spM K G 1 m__law_poly) := (okG__law_poly z).at hG
theorem sc__law_bounds : FnScope [("vat" : Str), ("steps_so" : Str), ("chance_so" : Str), ("row" : Str), ("low" : Str), ("high" : Str), ("due" : Str), ("signs_so" : Str), ("part" : Str)] [("vat" : Str), ("steps_so" : Str), ("chance_so" : Str)] (defScope (topS 64)) := ⟨rfl, rfl, rfl, by decide +kernel, rfl, by decide +kernel, by decide +kernel⟩
def b__law_bounds : MS := (sSeq (sAsg (mComp [7] (.nm 7) (mIt (mCall 1 (iso m__law_every) (mCons (vr 1) mNil))) yes (mCall 2 (iso m__law_loss) (mCons (vr 7) (mCons (vr 2) mNil)))) (gNm 3))
  (sSeq (sAsg (mCall 2 m__law_some (mCons (vr 0) (mCons (mLst (mCons (mTup (mCons (cst (.int 0)) (mCons (cst (.int 1)) mNil))) (mCons (mTup (mCons (cst (.int 1)) (mCons (cst (.int 2)) mNil))) (mCons (mCall 2 m__law_some (mCons (vr 0) (mCons (vr 3) mNil))) (mCons (mCall 2 (iso m__law_low) (mCons (mCall 2 m__law_under (mCons (vr 0) (mCons (m2 dPow (cst (.int 10)) (cst (.int 9))) mNil))) (mCons (m2 dPow (cst (.int 10)) (cst (.int 9))) mNil))) mNil))))) mNil))) (gNm 4))
  (sSeq (sAsg (mCall 2 m__law_some (mCons (vr 0) (mCons (mLst (mCons (mTup (mCons (cst (.int 1)) (mCons (cst (.int 1)) mNil))) (mCons (mTup (mCons (cst (.int 1)) (mCons (cst (.int 2)) mNil))) (mCons (mCall 2 m__law_some (mCons (vr 0) (mCons (vr 3) mNil))) (mCons (mCall 2 (iso m__law_low) (mCons (mCall 2 m__law_under (mCons (vr 0) (mCons (m2 dPow (cst (.int 10)) (cst (.int 9))) mNil))) (mCons (m2 dPow (cst (.int 10)) (cst (.int 9))) mNil))) mNil))))) mNil))) (gNm 5))
  (sSeq (sIf (mOr (mB (m2 dGt (m2 dIx (vr 4) (cst (.int 1))) (m2 dPow (cst (.int 10)) (cst (.int 30))))) (mB (m2 dGt (m2 dIx (vr 5) (cst (.int 1))) (m2 dPow (cst (.int 10)) (cst (.int 30)))))) (sAsg (mTup (mCons (mTup (mCons (cst (.int 1)) (mCons (cst (.int 4)) mNil))) (mCons (mTup (mCons (cst (.int 3)) (mCons (cst (.int 4)) mNil))) mNil))) (gTp [(gNm 4), (gNm 5)])) sNx)
  (sSeq (sAsg (mFn (f1 dLen) (mCons (mComp [8] (.nm 8) (mIt (vr 3)) (mAnd (mB (mCall 2 (iso m__law_less) (mCons (vr 4) (mCons (vr 8) mNil)))) (mB (mCall 2 (iso m__law_less) (mCons (vr 8) (mCons (vr 5) mNil))))) (vr 8)) mNil)) (gNm 6))
  (sRet (m2 dEq (mCall 4 (iso m_count_between) (mCons (vr 1) (mCons (vr 2) (mCons (vr 4) (mCons (vr 5) mNil))))) (vr 6))))))))
def m__law_bounds : List D → M D := runB true 9 3 (b__law_bounds)
theorem okG__law_bounds {P : Program} {w : World} {K : PySem.W.Frag} {mg : Str → Option Value} {base : Heap} (z : Fz K mg base) : CalG P w K mg base 5 "_law_bounds" (tbK K) 3 m__law_bounds := by
  obtain ⟨fd, F⟩ := z.d__law_bounds
  refine ⟨fd, _, fun G hG => ok_def F sc__law_bounds rfl rfl fun cdv A outer s H E hr => ?_, F.binds fun _ _ _ _ _ _ us hl => match us, hl with | [_, _, _], _ => rfl, F.kp, z.m__law_bounds⟩
  exact (ss_cons (st_setLc (i := 3) (own := [("signs_so", 7)]) rfl sc__law_bounds.nd (by rfl) (by rfl) (by rfl) (mi_it (me_cal ((okG__law_every z).iso hG) hr (by decide) (L2N.takes_of rfl rfl rfl rfl) (ma_cons (v_ 1) ma_nil))) (blkOk_by (by rfl)) (by rfl) (fun _ _ _ _ _ => (pn_ 7 sc__law_bounds.nd)) (fun _ _ _ _ _ => mts_nil) (fun fx _ _ _ _ _ => (me_cal ((okG__law_loss z).iso hG) hr (by decide) takesN (ma_cons (v_ 7) (ma_cons (v_ 2) ma_nil)))))
    (ss_cons (st_asg (me_cal (ok__law_some z hG) hr (by decide) (L2N.takes_of rfl rfl rfl rfl) (ma_cons (v_ 0) (ma_cons (me_lst (ma_cons (me_tup (ma_cons me_int (ma_cons me_int ma_nil))) (ma_cons (me_tup (ma_cons me_int (ma_cons me_int ma_nil))) (ma_cons (me_cal (ok__law_some z hG) hr (by decide) (L2N.takes_of rfl rfl rfl rfl) (ma_cons (v_ 0) (ma_cons (v_ 3) ma_nil))) (ma_cons (me_cal ((okG__law_low z).iso hG) hr (by decide) (L2N.takes_of rfl rfl rfl rfl) (ma_cons (me_cal (ok__law_under z hG) hr (by decide) (L2N.takes_of rfl rfl rfl rfl) (ma_cons (v_ 0) (ma_cons (me_op op_pow od_pow me_int me_int) ma_nil))) (ma_cons (me_op op_pow od_pow me_int me_int) ma_nil))) ma_nil))))) ma_nil))) (g_ 4 sc__law_bounds.nd))
    (ss_cons (st_asg (me_cal (ok__law_some z hG) hr (by decide) (L2N.takes_of rfl rfl rfl rfl) (ma_cons (v_ 0) (ma_cons (me_lst (ma_cons (me_tup (ma_cons me_int (ma_cons me_int ma_nil))) (ma_cons (me_tup (ma_cons me_int (ma_cons me_int ma_nil))) (ma_cons (me_cal (ok__law_some z hG) hr (by decide) (L2N.takes_of rfl rfl rfl rfl) (ma_cons (v_ 0) (ma_cons (v_ 3) ma_nil))) (ma_cons (me_cal ((okG__law_low z).iso hG) hr (by decide) (L2N.takes_of rfl rfl rfl rfl) (ma_cons (me_cal (ok__law_under z hG) hr (by decide) (L2N.takes_of rfl rfl rfl rfl) (ma_cons (v_ 0) (ma_cons (me_op op_pow od_pow me_int me_int) ma_nil))) (ma_cons (me_op op_pow od_pow me_int me_int) ma_nil))) ma_nil))))) ma_nil))) (g_ 5 sc__law_bounds.nd))
    (ss_cons (st_if (mt_w (mw_or (mt_cmp op_gt od_gt (me_ix (v_ 4) me_int) (me_op op_pow od_pow me_int me_int) (nomark _)) (mw_or1 (mt_cmp op_gt od_gt (me_ix (v_ 5) me_int) (me_op op_pow od_pow me_int me_int) (nomark _))))) (ss_one (st_asg (me_tup (ma_cons (me_tup (ma_cons me_int (ma_cons me_int ma_nil))) (ma_cons (me_tup (ma_cons me_int (ma_cons me_int ma_nil))) ma_nil))) (gt_tup rfl (gts_cons (g_ 4 sc__law_bounds.nd) (gts_cons (g_ 5 sc__law_bounds.nd) gts_nil))))) ss_nil)
    (ss_cons (st_asg (me_cb call_len cd_len z.n_len (by kernel_rfl) (ma_cons (me_comp (own := [("part", 8)]) rfl sc__law_bounds.nd (mi_it (v_ 3)) (blkOk_by (by rfl)) (by rfl) (fun _ _ _ _ _ => (pn_ 8 sc__law_bounds.nd)) (fun _ _ _ _ _ => (mts_one fun fx => (mt_w (mw_and (mt_val (me_cal ((okG__law_less z).iso hG) hr (by decide) takesN (ma_cons (v_ 4) (ma_cons (v_ 8) ma_nil)))) (mw_and1 (mt_val (me_cal ((okG__law_less z).iso hG) hr (by decide) takesN (ma_cons (v_ 8) (ma_cons (v_ 5) ma_nil))))))))) (fun fx _ _ _ _ _ => (v_ 8))) ma_nil)) (g_ 6 sc__law_bounds.nd))
    (ss_one (st_ret (me_cmp (op_eqD (hu64 hr)) od_eq (me_cal ((okG_count_between z).iso hG) hr (by decide) (L2N.takes_of rfl rfl rfl rfl) (ma_cons (v_ 1) (ma_cons (v_ 2) (ma_cons (v_ 4) (ma_cons (v_ 5) ma_nil))))) (v_ 6) (nomark _)))))))))
theorem ok__law_bounds {P : Program} {w : World} {K : PySem.W.Frag} {mg : Str → Option Value} {base : Heap} (z : Fz K mg base) {G : Gx} (hG : G.tb = tbK K) : Cal P w K mg base 5 "_law_bounds" (spM K G 3 m__law_bounds) := (okG__law_bounds z).at hG
theorem sc__law_refused : FnScope [("call" : Str), ("odd" : Str), ("words" : Str)] [] (defScope (topS 65)) := ⟨rfl, rfl, rfl, by decide +kernel, rfl, by decide +kernel, by decide +kernel⟩
def b__law_refused : MS := (sSeq (sFor (mIt (mTup (mCons (cst (.fn 16)) (mCons (cst (.fn 17)) mNil)))) (gNm 0) (sIf (mNot (mB (mHcall 3 (fun l => (if l = 16 then some m_polynomial else (if l = 17 then some m_number_of else none))) m__law_all_refused (mCons (vr 0) (mCons (mCall0 (iso m__law_bad_signs)) (mCons (cst (.str [115, 105, 103, 110, 115, 32, 118, 97, 108, 117, 101])) mNil)))))) (sRet (cst (.bl false))) sNx))
  (sSeq (sIf (mNot (mB (mHlam 3 (runB true 1 1 (sRet (mCall 2 (iso m_loss) (mCons (vr 0) (mCons (cst .non) mNil))))) m__law_all_refused (mCons (mCall0 (iso m__law_bad_signs)) (mCons (cst (.str [115, 105, 103, 110, 115, 32, 118, 97, 108, 117, 101])) mNil))))) (sRet (cst (.bl false))) sNx)
  (sSeq (sIf (mNot (mB (mHlam 3 (runB true 1 1 (sRet (mCall 2 (iso m_loss) (mCons (cst (.str [43])) (mCons (vr 0) mNil))))) m__law_all_refused (mCons (mCall0 (iso m__law_bad_chances)) (mCons (cst (.str [99, 104, 97, 110, 99, 101, 32, 118, 97, 108, 117, 101])) mNil))))) (sRet (cst (.bl false))) sNx)
  (sSeq (sFor (mIt (mLst (mCons (m1 dNeg (cst (.int 1))) (mCons (cst (.int 6)) (mCons (cst .non) (mCons (cst (.bl true)) (mCons (cst (.str [50])) mNil))))))) (gNm 1) (sSeq (sAsg (mCel (mCons (mLam 2 b__law_error (mCall 2 (iso m_signs_of) (mCons (vr 1) (mCons (cst .non) mNil)))) mNil)) (gNm 2))
  (sSeq (sExpr (mMeth kLst dAppend (vr 2) (mCons (mLam 2 b__law_error (mCall 2 (iso m_losses) (mCons (vr 1) (mCons (cst .non) mNil)))) mNil)))
  (sSeq (sExpr (mMeth kLst dAppend (vr 2) (mCons (mLam 2 b__law_error (mCall 4 (iso m_count_between) (mCons (vr 1) (mCons (cst .non) (mCons (cst .non) (mCons (cst .non) mNil)))))) mNil)))
  (sIf (mB (m2 dNe (vr 2) (m2 dMulX (mLst (mCons (cst (.str [110, 117, 109, 98, 101, 114, 32, 118, 97, 108, 117, 101])) mNil)) (cst (.int 3))))) (sRet (cst (.bl false))) sNx)))))
  (sSeq (sIf (mNot (mB (mHlam 3 (runB true 1 1 (sRet (mCall 2 (iso m_signs_of) (mCons (cst (.int 2)) (mCons (vr 0) mNil))))) m__law_all_refused (mCons (mLst (mCons (m1 dNeg (cst (.int 1))) (mCons (cst (.int 4)) (mCons (cst .non) (mCons (cst (.bl true)) (mCons (cst (.str [50])) mNil)))))) (mCons (cst (.str [110, 117, 109, 98, 101, 114, 32, 118, 97, 108, 117, 101])) mNil))))) (sRet (cst (.bl false))) sNx)
  (sSeq (sIf (mNot (mB (mHlam 3 (runB true 1 1 (sRet (mCall 2 (iso m_losses) (mCons (cst (.int 2)) (mCons (vr 0) mNil))))) m__law_all_refused (mCons (mCall0 (iso m__law_bad_chances)) (mCons (cst (.str [99, 104, 97, 110, 99, 101, 32, 118, 97, 108, 117, 101])) mNil))))) (sRet (cst (.bl false))) sNx)
  (sSeq (sIf (mNot (mB (mHlam 3 (runB true 1 1 (sRet (mCall 4 (iso m_count_between) (mCons (cst (.int 2)) (mCons (vr 0) (mCons (cst .non) (mCons (cst .non) mNil))))))) m__law_all_refused (mCons (mCall0 (iso m__law_bad_chances)) (mCons (cst (.str [99, 104, 97, 110, 99, 101, 32, 118, 97, 108, 117, 101])) mNil))))) (sRet (cst (.bl false))) sNx)
  (sRet (cst (.bl true))))))))))
def m__law_refused : List D → M D := runB true 3 0 (b__law_refused)
theorem okG__law_refused {P : Program} {w : World} {K : PySem.W.Frag} {mg : Str → Option Value} {base : Heap} (z : Fz K mg base) : CalG P w K mg base 44 "_law_refused" (tbK K) 0 m__law_refused := by
  obtain ⟨fd, F⟩ := z.d__law_refused
  refine ⟨fd, _, fun G hG => ok_defC F sc__law_refused rfl rfl fun cdv A outer s H E hcd hr => ?_, F.binds fun _ _ _ _ _ _ us hl => match us, hl with | [], _ => rfl, F.kp, z.m__law_refused⟩
  exact (ss_cons (st_for (L2.passes_of rfl) rfl (mi_it (me_tup (ma_cons (me_gfn (k := 16) z.m_polynomial (by rw [hG]; rfl)) (ma_cons (me_gfn (k := 17) z.m_number_of (by rw [hG]; rfl)) ma_nil)))) (g_ 0 sc__law_refused.nd) (ss_one (st_if (mt_not (mt_val (me_hcall (x := "_law_all_refused") (kB := 40) (mgd := m__law_all_refused) z.m__law_all_refused z.k__law_all_refused (fun G2 mf hG2 hB => ok__law_all_refused z (hG2.trans hG) hB) (hofMore z hG 16 (fun G2 hG2 => hof_def z.d_polynomial (ok_polynomial (P := P) (w := w) (base := base) z hG2)) (by decide) (by rfl) (hofMore z hG 17 (fun G2 hG2 => hof_def z.d_number_of (ok_number_of (P := P) (w := w) (base := base) z hG2)) (by decide) (by rfl) hofNone)) hr (by decide) (L2N.takes_of rfl rfl rfl rfl) (ma_cons (v_ 0) (ma_cons (me_cal0 ((okG__law_bad_signs z).iso hG) hr (by decide)) (ma_cons (me_str (s := [115, 105, 103, 110, 115, 32, 118, 97, 108, 117, 101]) (by rfl) (by rfl)) ma_nil)))))) (ss_one (st_ret me_bl)) ss_nil)))
    (ss_cons (st_if (mt_not (mt_val (me_hlam (x := "_law_all_refused") (a := "odd") (kB := 39) (N := [("odd" : Str)]) (mgd := m__law_all_refused) (P := (He.cT K ("_law_refused", none)).2) z.m__law_all_refused z.k__law_all_refused (fun G2 mf hG2 hB => ok__law_all_refused z (hG2.trans hG) hB) hr (by decide) z.t__law_refused (by exact hcd) (by rw [hG]; exact (.tail _ (.head _))) (by rw [hG]; exact tab_hu z.tnd (.tail _ (.head _))) ⟨rfl, rfl, rfl, by decide +kernel, rfl, by decide +kernel, by decide +kernel⟩ (by rfl) (ma_cons (me_cal0 ((okG__law_bad_signs z).iso hG) hr (by decide)) (ma_cons (me_str (s := [115, 105, 103, 110, 115, 32, 118, 97, 108, 117, 101]) (by rfl) (by rfl)) ma_nil)) (fun G2 f c2 A outer s H E hG2 hr0 => by have hG := hG2.trans hG; have hr := hr0; exact (me_cal ((okG_loss z).iso hG) hr (by decide) (L2N.takes_of rfl rfl rfl rfl) (ma_cons (v_ 0) (ma_cons me_non ma_nil))))))) (ss_one (st_ret me_bl)) ss_nil)
    (ss_cons (st_if (mt_not (mt_val (me_hlam (x := "_law_all_refused") (a := "odd") (kB := 39) (N := [("odd" : Str)]) (mgd := m__law_all_refused) (P := (He.cT K ("_law_refused", none)).2) z.m__law_all_refused z.k__law_all_refused (fun G2 mf hG2 hB => ok__law_all_refused z (hG2.trans hG) hB) hr (by decide) z.t__law_refused (by exact hcd) (by rw [hG]; exact (.tail _ (.head _))) (by rw [hG]; exact tab_hu z.tnd (.tail _ (.head _))) ⟨rfl, rfl, rfl, by decide +kernel, rfl, by decide +kernel, by decide +kernel⟩ (by rfl) (ma_cons (me_cal0 ((okG__law_bad_chances z).iso hG) hr (by decide)) (ma_cons (me_str (s := [99, 104, 97, 110, 99, 101, 32, 118, 97, 108, 117, 101]) (by rfl) (by rfl)) ma_nil)) (fun G2 f c2 A outer s H E hG2 hr0 => by have hG := hG2.trans hG; have hr := hr0; exact (me_cal ((okG_loss z).iso hG) hr (by decide) (L2N.takes_of rfl rfl rfl rfl) (ma_cons (me_str (s := [43]) (by rfl) (by rfl)) (ma_cons (v_ 0) ma_nil))))))) (ss_one (st_ret me_bl)) ss_nil)
    (ss_cons (st_for (L2.passes_of rfl) rfl (mi_it (me_lst (ma_cons (me_neg me_int) (ma_cons me_int (ma_cons me_non (ma_cons me_bl (ma_cons (me_str (s := [50]) (by rfl) (by rfl)) ma_nil))))))) (g_ 1 sc__law_refused.nd) (ss_cons (st_asg (me_cel (ma_cons (me_lam (k := 4) (kb := 3) (x := "_law_error") (P := (He.cT K ("_law_refused", none)).2) (by rw [hG]; exact giv__law_error z (by decide)) (hr.mono (by decide)) (by decide) (L2N.takes_of rfl rfl rfl rfl) z.t__law_refused (by exact hcd) (by rw [hG]; exact (.tail _ (.head _))) (by rw [hG]; exact tab_hu z.tnd (.tail _ (.head _))) (LamX.lamS_by (by rfl)) (fun A outer s H E f c hr => (me_cal ((okG_signs_of z).iso hG) hr (by decide) (L2N.takes_of rfl rfl rfl rfl) (ma_cons (v_ 1) (ma_cons me_non ma_nil))))) ma_nil)) (g_ 2 sc__law_refused.nd))
    (ss_cons (st_expr (me_append (v_ 2) (ma_cons (me_lam (k := 5) (kb := 4) (x := "_law_error") (P := (He.cT K ("_law_refused", none)).2) (by rw [hG]; exact giv__law_error z (by decide)) (hr.mono (by decide)) (by decide) (L2N.takes_of rfl rfl rfl rfl) z.t__law_refused (by exact hcd) (by rw [hG]; exact (.tail _ (.head _))) (by rw [hG]; exact tab_hu z.tnd (.tail _ (.head _))) (LamX.lamS_by (by rfl)) (fun A outer s H E f c hr => (me_cal ((okG_losses z).iso hG) hr (by decide) (L2N.takes_of rfl rfl rfl rfl) (ma_cons (v_ 1) (ma_cons me_non ma_nil))))) ma_nil)))
    (ss_cons (st_expr (me_append (v_ 2) (ma_cons (me_lam (k := 5) (kb := 4) (x := "_law_error") (P := (He.cT K ("_law_refused", none)).2) (by rw [hG]; exact giv__law_error z (by decide)) (hr.mono (by decide)) (by decide) (L2N.takes_of rfl rfl rfl rfl) z.t__law_refused (by exact hcd) (by rw [hG]; exact (.tail _ (.head _))) (by rw [hG]; exact tab_hu z.tnd (.tail _ (.head _))) (LamX.lamS_by (by rfl)) (fun A outer s H E f c hr => (me_cal ((okG_count_between z).iso hG) hr (by decide) (L2N.takes_of rfl rfl rfl rfl) (ma_cons (v_ 1) (ma_cons me_non (ma_cons me_non (ma_cons me_non ma_nil))))))) ma_nil)))
    (ss_one (st_if (mt_cmp (op_neD (hu64 hr)) od_ne (v_ 2) (me_op op_mulX od_mulX (me_lst (ma_cons (me_str (s := [110, 117, 109, 98, 101, 114, 32, 118, 97, 108, 117, 101]) (by rfl) (by rfl)) ma_nil)) me_int) (nomark _)) (ss_one (st_ret me_bl)) ss_nil))))))
    (ss_cons (st_if (mt_not (mt_val (me_hlam (x := "_law_all_refused") (a := "odd") (kB := 39) (N := [("odd" : Str)]) (mgd := m__law_all_refused) (P := (He.cT K ("_law_refused", none)).2) z.m__law_all_refused z.k__law_all_refused (fun G2 mf hG2 hB => ok__law_all_refused z (hG2.trans hG) hB) hr (by decide) z.t__law_refused (by exact hcd) (by rw [hG]; exact (.tail _ (.head _))) (by rw [hG]; exact tab_hu z.tnd (.tail _ (.head _))) ⟨rfl, rfl, rfl, by decide +kernel, rfl, by decide +kernel, by decide +kernel⟩ (by rfl) (ma_cons (me_lst (ma_cons (me_neg me_int) (ma_cons me_int (ma_cons me_non (ma_cons me_bl (ma_cons (me_str (s := [50]) (by rfl) (by rfl)) ma_nil)))))) (ma_cons (me_str (s := [110, 117, 109, 98, 101, 114, 32, 118, 97, 108, 117, 101]) (by rfl) (by rfl)) ma_nil)) (fun G2 f c2 A outer s H E hG2 hr0 => by have hG := hG2.trans hG; have hr := hr0; exact (me_cal ((okG_signs_of z).iso hG) hr (by decide) (L2N.takes_of rfl rfl rfl rfl) (ma_cons me_int (ma_cons (v_ 0) ma_nil))))))) (ss_one (st_ret me_bl)) ss_nil)
    (ss_cons (st_if (mt_not (mt_val (me_hlam (x := "_law_all_refused") (a := "odd") (kB := 39) (N := [("odd" : Str)]) (mgd := m__law_all_refused) (P := (He.cT K ("_law_refused", none)).2) z.m__law_all_refused z.k__law_all_refused (fun G2 mf hG2 hB => ok__law_all_refused z (hG2.trans hG) hB) hr (by decide) z.t__law_refused (by exact hcd) (by rw [hG]; exact (.tail _ (.head _))) (by rw [hG]; exact tab_hu z.tnd (.tail _ (.head _))) ⟨rfl, rfl, rfl, by decide +kernel, rfl, by decide +kernel, by decide +kernel⟩ (by rfl) (ma_cons (me_cal0 ((okG__law_bad_chances z).iso hG) hr (by decide)) (ma_cons (me_str (s := [99, 104, 97, 110, 99, 101, 32, 118, 97, 108, 117, 101]) (by rfl) (by rfl)) ma_nil)) (fun G2 f c2 A outer s H E hG2 hr0 => by have hG := hG2.trans hG; have hr := hr0; exact (me_cal ((okG_losses z).iso hG) hr (by decide) (L2N.takes_of rfl rfl rfl rfl) (ma_cons me_int (ma_cons (v_ 0) ma_nil))))))) (ss_one (st_ret me_bl)) ss_nil)
    (ss_cons (st_if (mt_not (mt_val (me_hlam (x := "_law_all_refused") (a := "odd") (kB := 39) (N := [("odd" : Str)]) (mgd := m__law_all_refused) (P := (He.cT K ("_law_refused", none)).2) z.m__law_all_refused z.k__law_all_refused (fun G2 mf hG2 hB => ok__law_all_refused z (hG2.trans hG) hB) hr (by decide) z.t__law_refused (by exact hcd) (by rw [hG]; exact (.tail _ (.head _))) (by rw [hG]; exact tab_hu z.tnd (.tail _ (.head _))) ⟨rfl, rfl, rfl, by decide +kernel, rfl, by decide +kernel, by decide +kernel⟩ (by rfl) (ma_cons (me_cal0 ((okG__law_bad_chances z).iso hG) hr (by decide)) (ma_cons (me_str (s := [99, 104, 97, 110, 99, 101, 32, 118, 97, 108, 117, 101]) (by rfl) (by rfl)) ma_nil)) (fun G2 f c2 A outer s H E hG2 hr0 => by have hG := hG2.trans hG; have hr := hr0; exact (me_cal ((okG_count_between z).iso hG) hr (by decide) (L2N.takes_of rfl rfl rfl rfl) (ma_cons me_int (ma_cons (v_ 0) (ma_cons me_non (ma_cons me_non ma_nil))))))))) (ss_one (st_ret me_bl)) ss_nil)
    (ss_one (st_ret me_bl)))))))))
theorem ok__law_refused {P : Program} {w : World} {K : PySem.W.Frag} {mg : Str → Option Value} {base : Heap} (z : Fz K mg base) {G : Gx} (hG : G.tb = tbK K) : Cal P w K mg base 44 "_law_refused" (spM K G 0 m__law_refused) := (okG__law_refused z).at hG
theorem sc__law_written : FnScope [("half" : Str), ("odd" : Str), ("words" : Str), ("one" : Str)] [] (defScope (topS 66)) := ⟨rfl, rfl, rfl, by decide +kernel, rfl, by decide +kernel, by decide +kernel⟩
def b__law_written : MS := (sSeq (sAsg (mTup (mCons (cst (.int 1)) (mCons (cst (.int 2)) mNil))) (gNm 0))
  (sSeq (sFor (mIt (mLst (mCons (cst .non) (mCons (mTup (mCons (cst (.int 1)) (mCons (cst (.int 0)) mNil))) (mCons (mTup (mCons (cst (.int 2)) (mCons (cst (.int 4)) mNil))) (mCons (mTup (mCons (cst (.int 3)) (mCons (cst (.int 2)) mNil))) (mCons (mTup (mCons (cst (.int 1)) (mCons (m2 dAdd (m2 dPow (cst (.int 10)) (cst (.int 30))) (cst (.int 1))) mNil))) (mCons (mLst (mCons (cst (.int 0)) (mCons (cst (.int 1)) mNil))) (mCons (mTup (mCons (m1 dNeg (cst (.int 1))) (mCons (cst (.int 2)) mNil))) mNil))))))))) (gNm 1) (sSeq (sAsg (mCel (mCons (mLam 2 b__law_error (mCall 4 (iso m_count_between) (mCons (cst (.int 2)) (mCons (vr 0) (mCons (vr 1) (mCons (cst .non) mNil)))))) mNil)) (gNm 2))
  (sSeq (sExpr (mMeth kLst dAppend (vr 2) (mCons (mLam 2 b__law_error (mCall 4 (iso m_count_between) (mCons (cst (.int 2)) (mCons (vr 0) (mCons (vr 0) (mCons (vr 1) mNil)))))) mNil)))
  (sIf (mB (m2 dNe (vr 2) (m2 dMulX (mLst (mCons (cst (.str [99, 104, 97, 110, 99, 101, 32, 118, 97, 108, 117, 101])) mNil)) (cst (.int 2))))) (sRet (cst (.bl false))) sNx))))
  (sSeq (sIf (mB (m2 dNe (mComp [3] (.nm 3) (mIt (mTup (mCons (cst (.str [])) (mCons (cst (.str [45])) (mCons (cst (.str [43])) (mCons (cst (.str [45, 43])) (mCons (cst (.str [43, 45])) mNil))))))) yes (mCall 2 (iso m_loss) (mCons (vr 3) (mCons (vr 0) mNil)))) (mLst (mCons (vr 0) (mCons (mTup (mCons (cst (.int 3)) (mCons (cst (.int 4)) mNil))) (mCons (mTup (mCons (cst (.int 1)) (mCons (cst (.int 4)) mNil))) (mCons (mTup (mCons (cst (.int 9)) (mCons (cst (.int 16)) mNil))) (mCons (mTup (mCons (cst (.int 7)) (mCons (cst (.int 16)) mNil))) mNil)))))))) (sRet (cst (.bl false))) sNx)
  (sSeq (sIf (mB (m2 dNe (mLst (mCons (mCall 1 (iso m_polynomial) (mCons (cst (.str [45])) mNil)) (mCons (mCall 1 (iso m_polynomial) (mCons (cst (.str [43, 45])) mNil)) (mCons (mCall 1 (iso m_polynomial) (mCons (cst (.str [45, 43])) mNil)) (mCons (mCall 1 (iso m_polynomial) (mCons (cst (.str [])) mNil)) mNil))))) (mLst (mCons (mTup (mCons (cst (.int 0)) (mCons (cst (.int 2)) (mCons (m1 dNeg (cst (.int 1))) mNil)))) (mCons (mTup (mCons (cst (.int 0)) (mCons (cst (.int 0)) (mCons (cst (.int 2)) (mCons (cst (.int 0)) (mCons (m1 dNeg (cst (.int 1))) mNil)))))) (mCons (mTup (mCons (cst (.int 0)) (mCons (cst (.int 0)) (mCons (cst (.int 4)) (mCons (m1 dNeg (cst (.int 4))) (mCons (cst (.int 1)) mNil)))))) (mCons (mTup (mCons (cst (.int 0)) (mCons (cst (.int 1)) mNil))) mNil))))))) (sRet (cst (.bl false))) sNx)
  (sSeq (sIf (mOr (mB (m2 dNe (mCall 1 (iso m_number_of) (mCons (cst (.str [43, 45])) mNil)) (cst (.int 2)))) (mOr (mB (m2 dNe (mCall 2 (iso m_signs_of) (mCons (cst (.int 2)) (mCons (cst (.int 1)) mNil))) (cst (.str [45, 43])))) (mOr (mB (m2 dNe (mCall 2 (iso m_signs_of) (mCons (cst (.int 0)) (mCons (cst (.int 0)) mNil))) (cst (.str [])))) (mB (m2 dNe (mCall 2 (iso m_losses) (mCons (cst (.int 2)) (mCons (vr 0) mNil))) (mLst (mCons (mTup (mCons (cst (.int 15)) (mCons (cst (.int 16)) mNil))) (mCons (mTup (mCons (cst (.int 9)) (mCons (cst (.int 16)) mNil))) (mCons (mTup (mCons (cst (.int 7)) (mCons (cst (.int 16)) mNil))) (mCons (mTup (mCons (cst (.int 1)) (mCons (cst (.int 16)) mNil))) mNil)))))))))) (sRet (cst (.bl false))) sNx)
  (sSeq (sIf (mB (m2 dNe (mLst (mCons (mCall 2 (iso m_loss) (mCons (cst (.str [45, 43, 45])) (mCons (mTup (mCons (cst (.int 0)) (mCons (cst (.int 1)) mNil))) mNil))) (mCons (mCall 2 (iso m_loss) (mCons (cst (.str [43, 43, 43, 43, 43])) (mCons (mTup (mCons (cst (.int 1)) (mCons (cst (.int 1)) mNil))) mNil))) (mCons (mCall 2 (iso m_loss) (mCons (cst (.str [43, 43, 43, 43, 43])) (mCons (mTup (mCons (cst (.int 1)) (mCons (cst (.int 10)) mNil))) mNil))) mNil)))) (mLst (mCons (mTup (mCons (cst (.int 0)) (mCons (cst (.int 1)) mNil))) (mCons (mTup (mCons (cst (.int 1)) (mCons (cst (.int 1)) mNil))) (mCons (mTup (mCons (cst (.int 1)) (mCons (m2 dPow (cst (.int 10)) (cst (.int 32))) mNil))) mNil)))))) (sRet (cst (.bl false))) sNx)
  (sRet (vAnd (m2 dEq (mCall 4 (iso m_count_between) (mCons (cst (.int 2)) (mCons (vr 0) (mCons (mTup (mCons (cst (.int 1)) (mCons (cst (.int 4)) mNil))) (mCons (mTup (mCons (cst (.int 3)) (mCons (cst (.int 4)) mNil))) mNil))))) (cst (.int 2))) (vAnd (m2 dEq (mCall 4 (iso m_count_between) (mCons (cst (.int 5)) (mCons (vr 0) (mCons (mTup (mCons (cst (.int 0)) (mCons (cst (.int 1)) mNil))) (mCons (mTup (mCons (cst (.int 1)) (mCons (cst (.int 100)) mNil))) mNil))))) (cst (.int 5))) (m2 dEq (mCall 4 (iso m_count_between) (mCons (cst (.int 2)) (mCons (vr 0) (mCons (mTup (mCons (cst (.int 3)) (mCons (cst (.int 4)) mNil))) (mCons (mTup (mCons (cst (.int 1)) (mCons (cst (.int 4)) mNil))) mNil))))) (cst (.int 0))))))))))))
def m__law_written : List D → M D := runB true 4 0 (b__law_written)
theorem okG__law_written {P : Program} {w : World} {K : PySem.W.Frag} {mg : Str → Option Value} {base : Heap} (z : Fz K mg base) : CalG P w K mg base 7 "_law_written" (tbK K) 0 m__law_written := by
  obtain ⟨fd, F⟩ := z.d__law_written
  refine ⟨fd, _, fun G hG => ok_defC F sc__law_written rfl rfl fun cdv A outer s H E hcd hr => ?_, F.binds fun _ _ _ _ _ _ us hl => match us, hl with | [], _ => rfl, F.kp, z.m__law_written⟩
  exact (ss_cons (st_asg (me_tup (ma_cons me_int (ma_cons me_int ma_nil))) (g_ 0 sc__law_written.nd))
    (ss_cons (st_for (L2.passes_of rfl) rfl (mi_it (me_lst (ma_cons me_non (ma_cons (me_tup (ma_cons me_int (ma_cons me_int ma_nil))) (ma_cons (me_tup (ma_cons me_int (ma_cons me_int ma_nil))) (ma_cons (me_tup (ma_cons me_int (ma_cons me_int ma_nil))) (ma_cons (me_tup (ma_cons me_int (ma_cons (me_op op_addD od_add (me_op op_pow od_pow me_int me_int) me_int) ma_nil))) (ma_cons (me_lst (ma_cons me_int (ma_cons me_int ma_nil))) (ma_cons (me_tup (ma_cons (me_neg me_int) (ma_cons me_int ma_nil))) ma_nil))))))))) (g_ 1 sc__law_written.nd) (ss_cons (st_asg (me_cel (ma_cons (me_lam (k := 5) (kb := 4) (x := "_law_error") (P := (He.cT K ("_law_written", none)).2) (by rw [hG]; exact giv__law_error z (by decide)) (hr.mono (by decide)) (by decide) (L2N.takes_of rfl rfl rfl rfl) z.t__law_written (by exact hcd) (by rw [hG]; exact (.tail _ (.tail _ (.head _)))) (by rw [hG]; exact tab_hu z.tnd (.tail _ (.tail _ (.head _)))) (LamX.lamS_by (by rfl)) (fun A outer s H E f c hr => (me_cal ((okG_count_between z).iso hG) hr (by decide) (L2N.takes_of rfl rfl rfl rfl) (ma_cons me_int (ma_cons (v_ 0) (ma_cons (v_ 1) (ma_cons me_non ma_nil))))))) ma_nil)) (g_ 2 sc__law_written.nd))
    (ss_cons (st_expr (me_append (v_ 2) (ma_cons (me_lam (k := 5) (kb := 4) (x := "_law_error") (P := (He.cT K ("_law_written", none)).2) (by rw [hG]; exact giv__law_error z (by decide)) (hr.mono (by decide)) (by decide) (L2N.takes_of rfl rfl rfl rfl) z.t__law_written (by exact hcd) (by rw [hG]; exact (.tail _ (.tail _ (.head _)))) (by rw [hG]; exact tab_hu z.tnd (.tail _ (.tail _ (.head _)))) (LamX.lamS_by (by rfl)) (fun A outer s H E f c hr => (me_cal ((okG_count_between z).iso hG) hr (by decide) (L2N.takes_of rfl rfl rfl rfl) (ma_cons me_int (ma_cons (v_ 0) (ma_cons (v_ 0) (ma_cons (v_ 1) ma_nil))))))) ma_nil)))
    (ss_one (st_if (mt_cmp (op_neD (hu64 hr)) od_ne (v_ 2) (me_op op_mulX od_mulX (me_lst (ma_cons (me_str (s := [99, 104, 97, 110, 99, 101, 32, 118, 97, 108, 117, 101]) (by rfl) (by rfl)) ma_nil)) me_int) (nomark _)) (ss_one (st_ret me_bl)) ss_nil)))))
    (ss_cons (st_if (mt_cmp (op_neD (hu64 hr)) od_ne (me_comp (own := [("one", 3)]) rfl sc__law_written.nd (mi_it (me_tup (ma_cons (me_str (s := []) (by rfl) (by rfl)) (ma_cons (me_str (s := [45]) (by rfl) (by rfl)) (ma_cons (me_str (s := [43]) (by rfl) (by rfl)) (ma_cons (me_str (s := [45, 43]) (by rfl) (by rfl)) (ma_cons (me_str (s := [43, 45]) (by rfl) (by rfl)) ma_nil))))))) (blkOk_by (by rfl)) (by rfl) (fun _ _ _ _ _ => (pn_ 3 sc__law_written.nd)) (fun _ _ _ _ _ => mts_nil) (fun fx _ _ _ _ _ => (me_cal ((okG_loss z).iso hG) hr (by decide) takesN (ma_cons (v_ 3) (ma_cons (v_ 0) ma_nil))))) (me_lst (ma_cons (v_ 0) (ma_cons (me_tup (ma_cons me_int (ma_cons me_int ma_nil))) (ma_cons (me_tup (ma_cons me_int (ma_cons me_int ma_nil))) (ma_cons (me_tup (ma_cons me_int (ma_cons me_int ma_nil))) (ma_cons (me_tup (ma_cons me_int (ma_cons me_int ma_nil))) ma_nil)))))) (nomark _)) (ss_one (st_ret me_bl)) ss_nil)
    (ss_cons (st_if (mt_cmp (op_neD (hu64 hr)) od_ne (me_lst (ma_cons (me_cal ((okG_polynomial z).iso hG) hr (by decide) (L2N.takes_of rfl rfl rfl rfl) (ma_cons (me_str (s := [45]) (by rfl) (by rfl)) ma_nil)) (ma_cons (me_cal ((okG_polynomial z).iso hG) hr (by decide) (L2N.takes_of rfl rfl rfl rfl) (ma_cons (me_str (s := [43, 45]) (by rfl) (by rfl)) ma_nil)) (ma_cons (me_cal ((okG_polynomial z).iso hG) hr (by decide) (L2N.takes_of rfl rfl rfl rfl) (ma_cons (me_str (s := [45, 43]) (by rfl) (by rfl)) ma_nil)) (ma_cons (me_cal ((okG_polynomial z).iso hG) hr (by decide) (L2N.takes_of rfl rfl rfl rfl) (ma_cons (me_str (s := []) (by rfl) (by rfl)) ma_nil)) ma_nil))))) (me_lst (ma_cons (me_tup (ma_cons me_int (ma_cons me_int (ma_cons (me_neg me_int) ma_nil)))) (ma_cons (me_tup (ma_cons me_int (ma_cons me_int (ma_cons me_int (ma_cons me_int (ma_cons (me_neg me_int) ma_nil)))))) (ma_cons (me_tup (ma_cons me_int (ma_cons me_int (ma_cons me_int (ma_cons (me_neg me_int) (ma_cons me_int ma_nil)))))) (ma_cons (me_tup (ma_cons me_int (ma_cons me_int ma_nil))) ma_nil))))) (nomark _)) (ss_one (st_ret me_bl)) ss_nil)
    (ss_cons (st_if (mt_w (mw_or (mt_cmp (op_neD (hu64 hr)) od_ne (me_cal ((okG_number_of z).iso hG) hr (by decide) (L2N.takes_of rfl rfl rfl rfl) (ma_cons (me_str (s := [43, 45]) (by rfl) (by rfl)) ma_nil)) me_int (nomark _)) (mw_or (mt_cmp (op_neD (hu64 hr)) od_ne (me_cal ((okG_signs_of z).iso hG) hr (by decide) (L2N.takes_of rfl rfl rfl rfl) (ma_cons me_int (ma_cons me_int ma_nil))) (me_str (s := [45, 43]) (by rfl) (by rfl)) (nomark _)) (mw_or (mt_cmp (op_neD (hu64 hr)) od_ne (me_cal ((okG_signs_of z).iso hG) hr (by decide) (L2N.takes_of rfl rfl rfl rfl) (ma_cons me_int (ma_cons me_int ma_nil))) (me_str (s := []) (by rfl) (by rfl)) (nomark _)) (mw_or1 (mt_cmp (op_neD (hu64 hr)) od_ne (me_cal ((okG_losses z).iso hG) hr (by decide) (L2N.takes_of rfl rfl rfl rfl) (ma_cons me_int (ma_cons (v_ 0) ma_nil))) (me_lst (ma_cons (me_tup (ma_cons me_int (ma_cons me_int ma_nil))) (ma_cons (me_tup (ma_cons me_int (ma_cons me_int ma_nil))) (ma_cons (me_tup (ma_cons me_int (ma_cons me_int ma_nil))) (ma_cons (me_tup (ma_cons me_int (ma_cons me_int ma_nil))) ma_nil))))) (nomark _))))))) (ss_one (st_ret me_bl)) ss_nil)
    (ss_cons (st_if (mt_cmp (op_neD (hu64 hr)) od_ne (me_lst (ma_cons (me_cal ((okG_loss z).iso hG) hr (by decide) (L2N.takes_of rfl rfl rfl rfl) (ma_cons (me_str (s := [45, 43, 45]) (by rfl) (by rfl)) (ma_cons (me_tup (ma_cons me_int (ma_cons me_int ma_nil))) ma_nil))) (ma_cons (me_cal ((okG_loss z).iso hG) hr (by decide) (L2N.takes_of rfl rfl rfl rfl) (ma_cons (me_str (s := [43, 43, 43, 43, 43]) (by rfl) (by rfl)) (ma_cons (me_tup (ma_cons me_int (ma_cons me_int ma_nil))) ma_nil))) (ma_cons (me_cal ((okG_loss z).iso hG) hr (by decide) (L2N.takes_of rfl rfl rfl rfl) (ma_cons (me_str (s := [43, 43, 43, 43, 43]) (by rfl) (by rfl)) (ma_cons (me_tup (ma_cons me_int (ma_cons me_int ma_nil))) ma_nil))) ma_nil)))) (me_lst (ma_cons (me_tup (ma_cons me_int (ma_cons me_int ma_nil))) (ma_cons (me_tup (ma_cons me_int (ma_cons me_int ma_nil))) (ma_cons (me_tup (ma_cons me_int (ma_cons (me_op op_pow od_pow me_int me_int) ma_nil))) ma_nil)))) (nomark _)) (ss_one (st_ret me_bl)) ss_nil)
    (ss_one (st_ret (me_and (me_cmp (op_eqD (hu64 hr)) od_eq (me_cal ((okG_count_between z).iso hG) hr (by decide) (L2N.takes_of rfl rfl rfl rfl) (ma_cons me_int (ma_cons (v_ 0) (ma_cons (me_tup (ma_cons me_int (ma_cons me_int ma_nil))) (ma_cons (me_tup (ma_cons me_int (ma_cons me_int ma_nil))) ma_nil))))) me_int (nomark _)) (me_and (me_cmp (op_eqD (hu64 hr)) od_eq (me_cal ((okG_count_between z).iso hG) hr (by decide) (L2N.takes_of rfl rfl rfl rfl) (ma_cons me_int (ma_cons (v_ 0) (ma_cons (me_tup (ma_cons me_int (ma_cons me_int ma_nil))) (ma_cons (me_tup (ma_cons me_int (ma_cons me_int ma_nil))) ma_nil))))) me_int (nomark _)) (me_one (me_cmp (op_eqD (hu64 hr)) od_eq (me_cal ((okG_count_between z).iso hG) hr (by decide) (L2N.takes_of rfl rfl rfl rfl) (ma_cons me_int (ma_cons (v_ 0) (ma_cons (me_tup (ma_cons me_int (ma_cons me_int ma_nil))) (ma_cons (me_tup (ma_cons me_int (ma_cons me_int ma_nil))) ma_nil))))) me_int (nomark _)))))))))))))
theorem ok__law_written {P : Program} {w : World} {K : PySem.W.Frag} {mg : Str → Option Value} {base : Heap} (z : Fz K mg base) {G : Gx} (hG : G.tb = tbK K) : Cal P w K mg base 7 "_law_written" (spM K G 0 m__law_written) := (okG__law_written z).at hG
theorem sc_law : FnScope [("script" : Str), ("k" : Str), ("vat" : Str), ("turn" : Str), ("value" : Str), ("again" : Str), ("steps_so" : Str), ("number" : Str), ("signs_so" : Str), ("chance_so" : Str), ("top" : Str), ("below" : Str), ("one" : Str), ("other" : Str)] [("script" : Str)] (defScope (topS 67)) := ⟨rfl, rfl, rfl, by decide +kernel, rfl, by decide +kernel, by decide +kernel⟩
def b_law : MS := (sSeq (sFor (mItL itR1 (mCons (mFn (f2 dMax) (mCons (cst (.int 5)) (mCons (mFn (f2 dMin) (mCons (cst (.int 11)) (mCons (mFn (f1 dLen) (mCons (vr 0) mNil)) mNil))) mNil))) mNil)) (gNm 1) (sSeq (sAsg (mCall 2 m__law_vat (mCons (vr 0) (mCons (vr 1) mNil))) (gNm 2))
  (sFor (mItL itR1 (mCons (cst (.int 3)) mNil)) (gNm 3) (sSeq (sAsg (mTup (mCons (mCall 2 m__law_signs (mCons (vr 2) (mCons (cst (.int 5)) mNil))) (mCons (mCall 1 m__law_chance (mCons (vr 2) mNil)) mNil))) (gTp [(gNm 8), (gNm 9)]))
  (sSeq (sAsg (vr 8) (gNm 4))
  (sSeq (sFor (mItL itR1 (mCons (cst (.int 6)) mNil)) (gNm 5) (sSeq (sIf (mNot (mB (mCall 2 (iso m__law_truly) (mCons (mCall 1 (iso m_is_signs) (mCons (vr 4) mNil)) (mCons (mCall 1 (iso m__law_is_signs) (mCons (vr 4) mNil)) mNil))))) (sRet (cst (.bl false))) sNx)
  (sAsg (mCall 2 (m__law_spoilt 6) (mCons (vr 2) (mCons (mIf (mB (m2 dEq (m2 dMod (vr 5) (cst (.int 2))) (cst (.int 0)))) (vr 8) (vr 4)) mNil))) (gNm 4))))
  (sSeq (sIf (mOr (mB (m2 dNe (mCall 2 (iso m_loss) (mCons (vr 8) (mCons (vr 9) mNil))) (mCall 2 (iso m__law_loss) (mCons (vr 8) (mCons (vr 9) mNil))))) (mB (m2 dNe (mCall 1 (iso m_polynomial) (mCons (vr 8) mNil)) (mCall 1 (iso m__law_poly) (mCons (vr 8) mNil))))) (sRet (cst (.bl false))) sNx)
  (sSeq (sAsg (mFn (f1 dLen) (mCons (vr 8) mNil)) (gNm 6))
  (sSeq (sAsg (mMeth kLst dIndex (mCall 1 (iso m__law_every) (mCons (vr 6) mNil)) (mCons (vr 8) mNil)) (gNm 7))
  (sSeq (sIf (mOr (mB (m2 dNe (mCall 1 (iso m_number_of) (mCons (vr 8) mNil)) (vr 7))) (mB (m2 dNe (mCall 2 (iso m_signs_of) (mCons (vr 6) (mCons (vr 7) mNil))) (vr 8)))) (sRet (cst (.bl false))) sNx)
  (sSeq (sIf (mB (m2 dNe (mCall 2 (iso m_losses) (mCons (vr 6) (mCons (vr 9) mNil))) (mComp [12] (.nm 12) (mIt (mCall 1 (iso m__law_every) (mCons (vr 6) mNil))) yes (mCall 2 (iso m__law_loss) (mCons (vr 12) (mCons (vr 9) mNil)))))) (sRet (cst (.bl false))) sNx)
  (sSeq (sAsg (mTup (mCons (cst (.int 0)) (mCons (cst (.int 1)) mNil))) (gTp [(gNm 10), (gNm 11)]))
  (sSeq (sFor (mIt (mCall 2 (iso m_losses) (mCons (vr 6) (mCons (vr 9) mNil)))) (gTp [(gNm 12), (gNm 13)]) (sPar 10 11 (mCons (m2 dAdd (m2 dMulX (vr 10) (vr 13)) (m2 dMulX (vr 12) (vr 11))) (mCons (m2 dMulX (vr 11) (vr 13)) mNil))))
  (sIf (mOr (mB (m2 dNe (m2 dMulX (vr 10) (m2 dIx (vr 9) (cst (.int 1)))) (m2 dMulX (m2 dMulX (m2 dIx (vr 9) (cst (.int 0))) (m2 dShl (cst (.int 1)) (vr 6))) (vr 11)))) (mNot (mB (mCall 3 m__law_bounds (mCons (vr 2) (mCons (vr 6) (mCons (vr 9) mNil))))))) (sRet (cst (.bl false))) sNx))))))))))))))
  (sRet (vAnd (mCall0 (iso m__law_refused)) (mCall0 (iso m__law_written)))))
def m_law : List D → M D := runB true 14 1 b_law
theorem okF_law {P : Program} {w : World} {K : PySem.W.Frag} {mg : Str → Option Value} {base : Heap} (z : Fz K mg base) {G : Gx} (hG : G.tb = tbK K) {fd : FuncData} (F : L2.Fun K "law" "law" (topS 67) (He.ga K "law") fd) : FnOk P w K mg base (L2N.CX P w) 45 (He.ga K "law") fd [("script" : Str)] (spM K G 1 m_law) := by
  refine ok_def F sc_law rfl rfl fun cdv A outer s H E hr => ?_
  exact (ss_cons (st_for (L2.passes_of rfl) rfl (mi_range1 z.n_range (ma_cons (me_cb (call_max2 rfl) cd_max z.n_max (by kernel_rfl) (ma_cons me_int (ma_cons (me_cb (call_min2 rfl) cd_min z.n_min (by kernel_rfl) (ma_cons me_int (ma_cons (me_cb call_len cd_len z.n_len (by kernel_rfl) (ma_cons (v_ 0) ma_nil)) ma_nil))) ma_nil))) ma_nil)) (g_ 1 sc_law.nd) (ss_cons (st_asg (me_cal (ok__law_vat z hG) hr (by decide) (L2N.takes_of rfl rfl rfl rfl) (ma_cons (v_ 0) (ma_cons (v_ 1) ma_nil))) (g_ 2 sc_law.nd))
    (ss_one (st_for (L2.passes_of rfl) rfl (mi_range1 z.n_range (ma_cons me_int ma_nil)) (g_ 3 sc_law.nd) (ss_cons (st_asg (me_tup (ma_cons (me_cal (ok__law_signs z hG) hr (by decide) (L2N.takes_of rfl rfl rfl rfl) (ma_cons (v_ 2) (ma_cons me_int ma_nil))) (ma_cons (me_cal (ok__law_chance z hG) hr (by decide) (L2N.takes_of rfl rfl rfl rfl) (ma_cons (v_ 2) ma_nil)) ma_nil))) (gt_tup rfl (gts_cons (g_ 8 sc_law.nd) (gts_cons (g_ 9 sc_law.nd) gts_nil))))
    (ss_cons (st_asg (v_ 8) (g_ 4 sc_law.nd))
    (ss_cons (st_for (L2.passes_of rfl) rfl (mi_range1 z.n_range (ma_cons me_int ma_nil)) (g_ 5 sc_law.nd) (ss_cons (st_if (mt_not (mt_val (me_cal ((okG__law_truly z).iso hG) hr (by decide) (L2N.takes_of rfl rfl rfl rfl) (ma_cons (me_cal ((okG_is_signs z).iso hG) hr (by decide) (L2N.takes_of rfl rfl rfl rfl) (ma_cons (v_ 4) ma_nil)) (ma_cons (me_cal ((okG__law_is_signs z).iso hG) hr (by decide) (L2N.takes_of rfl rfl rfl rfl) (ma_cons (v_ 4) ma_nil)) ma_nil))))) (ss_one (st_ret me_bl)) ss_nil)
    (ss_one (st_asg (me_cal (ok__law_spoilt z 6 hG) hr (by decide) (L2N.takes_of rfl rfl rfl rfl) (ma_cons (v_ 2) (ma_cons (me_ifExp (mt_cmp (op_eqD (hu64 hr)) od_eq (me_op op_mod od_mod (v_ 5) me_int) me_int (nomark _)) (v_ 8) (v_ 4)) ma_nil))) (g_ 4 sc_law.nd)))))
    (ss_cons (st_if (mt_w (mw_or (mt_cmp (op_neD (hu64 hr)) od_ne (me_cal ((okG_loss z).iso hG) hr (by decide) (L2N.takes_of rfl rfl rfl rfl) (ma_cons (v_ 8) (ma_cons (v_ 9) ma_nil))) (me_cal ((okG__law_loss z).iso hG) hr (by decide) (L2N.takes_of rfl rfl rfl rfl) (ma_cons (v_ 8) (ma_cons (v_ 9) ma_nil))) (nomark _)) (mw_or1 (mt_cmp (op_neD (hu64 hr)) od_ne (me_cal ((okG_polynomial z).iso hG) hr (by decide) (L2N.takes_of rfl rfl rfl rfl) (ma_cons (v_ 8) ma_nil)) (me_cal ((okG__law_poly z).iso hG) hr (by decide) (L2N.takes_of rfl rfl rfl rfl) (ma_cons (v_ 8) ma_nil)) (nomark _))))) (ss_one (st_ret me_bl)) ss_nil)
    (ss_cons (st_asg (me_cb call_len cd_len z.n_len (by kernel_rfl) (ma_cons (v_ 8) ma_nil)) (g_ 6 sc_law.nd))
    (ss_cons (st_asg (me_index (me_cal ((okG__law_every z).iso hG) hr (by decide) (L2N.takes_of rfl rfl rfl rfl) (ma_cons (v_ 6) ma_nil)) (ma_cons (v_ 8) ma_nil)) (g_ 7 sc_law.nd))
    (ss_cons (st_if (mt_w (mw_or (mt_cmp (op_neD (hu64 hr)) od_ne (me_cal ((okG_number_of z).iso hG) hr (by decide) (L2N.takes_of rfl rfl rfl rfl) (ma_cons (v_ 8) ma_nil)) (v_ 7) (nomark _)) (mw_or1 (mt_cmp (op_neD (hu64 hr)) od_ne (me_cal ((okG_signs_of z).iso hG) hr (by decide) (L2N.takes_of rfl rfl rfl rfl) (ma_cons (v_ 6) (ma_cons (v_ 7) ma_nil))) (v_ 8) (nomark _))))) (ss_one (st_ret me_bl)) ss_nil)
    (ss_cons (st_if (mt_cmp (op_neD (hu64 hr)) od_ne (me_cal ((okG_losses z).iso hG) hr (by decide) (L2N.takes_of rfl rfl rfl rfl) (ma_cons (v_ 6) (ma_cons (v_ 9) ma_nil))) (me_comp (own := [("one", 12)]) rfl sc_law.nd (mi_it (me_cal ((okG__law_every z).iso hG) hr (by decide) (L2N.takes_of rfl rfl rfl rfl) (ma_cons (v_ 6) ma_nil))) (blkOk_by (by rfl)) (by rfl) (fun _ _ _ _ _ => (pn_ 12 sc_law.nd)) (fun _ _ _ _ _ => mts_nil) (fun fx _ _ _ _ _ => (me_cal ((okG__law_loss z).iso hG) hr (by decide) takesN (ma_cons (v_ 12) (ma_cons (v_ 9) ma_nil))))) (nomark _)) (ss_one (st_ret me_bl)) ss_nil)
    (ss_cons (st_asg (me_tup (ma_cons me_int (ma_cons me_int ma_nil))) (gt_tup rfl (gts_cons (g_ 10 sc_law.nd) (gts_cons (g_ 11 sc_law.nd) gts_nil))))
    (ss_cons (st_for (L2.passes_of rfl) rfl (mi_it (me_cal ((okG_losses z).iso hG) hr (by decide) (L2N.takes_of rfl rfl rfl rfl) (ma_cons (v_ 6) (ma_cons (v_ 9) ma_nil)))) (gt_tup rfl (gts_cons (g_ 12 sc_law.nd) (gts_cons (g_ 13 sc_law.nd) gts_nil))) (ss_one (st_par (i := 10) (j := 11) rfl sc_law.nd rfl rfl (by decide) rfl rfl (ma_cons (me_op op_addD od_add (me_op op_mulX od_mulX (v_ 10) (v_ 13)) (me_op op_mulX od_mulX (v_ 12) (v_ 11))) (ma_cons (me_op op_mulX od_mulX (v_ 11) (v_ 13)) ma_nil)) (by rfl))))
    (ss_one (st_if (mt_w (mw_or (mt_cmp (op_neD (hu64 hr)) od_ne (me_op op_mulX od_mulX (v_ 10) (me_ix (v_ 9) me_int)) (me_op op_mulX od_mulX (me_op op_mulX od_mulX (me_ix (v_ 9) me_int) (me_op op_shl od_shl me_int (v_ 6))) (v_ 11)) (nomark _)) (mw_or1 (mt_not (mt_val (me_cal (ok__law_bounds z hG) hr (by decide) (L2N.takes_of rfl rfl rfl rfl) (ma_cons (v_ 2) (ma_cons (v_ 6) (ma_cons (v_ 9) ma_nil))))))))) (ss_one (st_ret me_bl)) ss_nil))))))))))))))))
    (ss_one (st_ret (me_and (me_cal0 ((okG__law_refused z).iso hG) hr (by decide)) (me_one (me_cal0 ((okG__law_written z).iso hG) hr (by decide)))))))
end K01

namespace K01
open DL MM
/-! ### what is no signs -/
theorem sp__law_is_signs {d : D} {st : Store} (h : vl d = true) : WM (m__law_is_signs [d] st) (Is st (.bl (isGood d))) := by
  refine wm_runI rfl ?_
  unfold b__law_is_signs
  cases d <;> simp only [vl, Bool.false_eq_true] at h <;> and_intros <;> (try exact is_of rfl)
  rename_i s
  have h' := of_decide_eq_true h
  refine ⟨h', ?_⟩
  by_cases h1 : s.length ≤ 5
  · rw [if_pos (by simp; omega)]
    refine ⟨by rw [List.length_map]; exact h', ?_⟩
    refine wm_cmpP (fun x => match x with
      | .str [c] => !sgnB c
      | _ => false) (fun x => x) (fun x hx => ?_) ?_
    · obtain ⟨c, _, rfl⟩ := List.mem_map.mp hx
      show WM (gNm 1 (sgn c) [some (.str s), none] st) _
      and_intros
      refine ⟨by decide, ?_⟩
      simp only [dInG, lLst, D.dp, D.dpL, Bool.and_self, chk, wm_bnd, wm_ret, isIn, List.any_cons, List.any_nil, D.eqv, Bool.or_false, sgnB, wm_asB]
      refine ⟨trivial, by simp [eq_comm], fun _ => ?_⟩
      and_intros
    · and_intros
      refine ⟨by decide, ?_⟩
      have e : ∀ s : List Nat, ((List.map sgn s).filter fun x => match x with
          | .str [c] => !sgnB c
          | _ => false) = (s.filter fun c => !sgnB c).map sgn := fun s => by
        rw [List.filter_map]
        rfl
      rw [e, List.map_id']
      have dpm : ∀ l : List Nat, D.dpL 59 (l.map sgn) = true := fun l => by
        induction l with
        | nil => rfl
        | cons a r ih => simp [D.dpL, D.dp, ih, sgn]
      rw [wm_eq (by simp [D.dp, dpm]) (by rfl)]
      refine is_of ?_
      congr 1
      cases hs : s.filter (fun c => !sgnB c) with
      | nil =>
        have : s.all sgnB = true := by
          rw [List.all_eq_true]
          intro c hc
          have := List.filter_eq_nil_iff.mp hs c hc
          simpa using this
        simp [isGood, h1, this, D.eqv, D.eqvL]
      | cons a r =>
        have : s.all sgnB = false := by
          rw [List.all_eq_false]
          have hm : a ∈ s.filter (fun c => !sgnB c) := by rw [hs]; exact List.mem_cons_self
          obtain ⟨h2, h3⟩ := List.mem_filter.mp hm
          exact ⟨a, h2, by simpa using h3⟩
        simp [isGood, this, D.eqv, D.eqvL]
  · rw [if_neg (by simp; omega)]
    exact is_of (by simp [isGood, h1])
theorem sp__law_truly {a b : Bool} {st : Store} : WM (m__law_truly [.bl a, .bl b] st) (Is st (.bl (a == b))) := by
  refine wm_runI rfl ?_
  unfold b__law_truly
  and_intros
  exact is_rfl
/-! ### spoilt values -/
def c128 (s : List Nat) : Bool := s.all fun c => decide (c < 128)
/-- a value that came of signs -/
inductive V1 : D → Prop where
  | str {s : List Nat} : s.length ≤ 20 → c128 s = true → V1 (.str s)
  | int {i : Int} : V1 (.int i)
inductive V2 : D → Prop where
  | v1 {d : D} : V1 d → V2 d
  | bl {b : Bool} : V2 (.bl b)
  | non : V2 .non
  | big {s : List Nat} : s.length ≤ 40 → c128 s = true → V2 (.str s)
theorem V2.vl {d : D} (h : V2 d) : vl d = true := by
  cases h with
  | v1 h => cases h with
    | str h _ => exact vl_str (by omega)
    | int => rfl
  | bl => rfl
  | non => rfl
  | big h _ => exact vl_str (by omega)
theorem repl_len : ∀ s : List Nat, PySem.StrLaws.replL [45] [43] s = s.map fun c => if c = 45 then 43 else c
  | [] => PySem.StrLaws.replL_nil
  | c :: r => by
    by_cases h : c = 45
    · subst h
      rw [PySem.StrLaws.replL_hit (by simp) (by simp)]
      simp [repl_len r]
    · rw [PySem.StrLaws.replL_miss (by simp [h])]
      simp [repl_len r, h]
theorem c128_app {a b : List Nat} (h1 : c128 a = true) (h2 : c128 b = true) : c128 (a ++ b) = true := by
  unfold c128 at *
  rw [List.all_append, h1, h2]; rfl
theorem c128_sub {a b : List Nat} (h : c128 a = true) (hs : ∀ c ∈ b, c ∈ a) : c128 b = true := by
  unfold c128 at *
  rw [List.all_eq_true] at *
  exact fun c hc => h c (hs c hc)
/-- what comes of a text -/
theorem spoilt_str {st : Store} {n k : Nat} {s : List Nat} (v : VatAt n st) (hl : s.length ≤ 30) (hc : c128 s = true) : WM (m__law_spoilt (k + 1) [.cel n, .str s] st) fun d st' => ((∃ s', d = .str s' ∧ s'.length ≤ s.length + 3 ∧ c128 s' = true) ∨ d = .int 3) ∧ Sm n st st' := by
  refine wm_run rfl ?_
  unfold b__law_spoilt
  and_intros
  refine (sp_under v (by decide) (by decide)).imp fun d st1 ⟨⟨r, e, hr⟩, s1⟩ => ?_
  subst e
  and_intros
  have L : ∀ n : Nat, n ≤ 100 → n ≤ LIM := fun n h => by unfold LIM; omega
  refine ⟨L _ (by omega), L _ (by omega), ?_⟩
  have ecut : ∀ st, dCut (.str s) (some 1) none st = .ok (.str (s.drop 1)) st := fun st => by
    show chk (decide (s.length ≤ LIM)) (ret (D.str (cut s (some 1) none))) st = _
    rw [show decide (s.length ≤ LIM) = true from decide_eq_true (L _ (by omega))]
    show R.ok (D.str (cut s (some 1) none)) st = _
    congr 2
    unfold cut
    rw [show HT.sIx s.length 0 (some 1) = min 1 s.length from HT.sIx_nat s.length 0 1]
    by_cases h0 : s.length = 0
    · have := List.length_eq_zero_iff.mp h0
      subst this
      rfl
    · rw [Nat.min_eq_left (by omega)]
      show (s.drop 1).take (s.length - 1) = _
      rw [List.take_of_length_le (by simp)]
  rw [ecut]
  and_intros
  refine ⟨L _ (by omega), ?_⟩
  have erep : ∀ st, dRepl [45] [43] (.str s) st = .ok (.str (s.map fun c => if c = 45 then 43 else c)) st := fun st => by
    show chk (decide (s.length + (s.length + 1) * [43].length ≤ 1000000) && (PySem.StrLaws.replL [45] [43] s).all fun c => decide (c < 0x110000)) (ret (D.str (PySem.StrLaws.replL [45] [43] s))) st = _
    rw [repl_len]
    have : (decide (s.length + (s.length + 1) * [43].length ≤ 1000000) && (s.map fun c => if c = 45 then 43 else c).all fun c => decide (c < 0x110000)) = true := by
      rw [Bool.and_eq_true, decide_eq_true_eq]
      refine ⟨by simp; omega, ?_⟩
      rw [List.all_eq_true]
      intro c h
      obtain ⟨z, hz, rfl⟩ := List.mem_map.mp h
      have := List.all_eq_true.mp hc z hz
      have : z < 128 := by simpa using this
      split <;> simp <;> omega
    rw [this]
    rfl
  rw [erep]
  and_intros
  refine ⟨by decide, ?_⟩
  have hmem : ∀ d ∈ [D.str (s ++ [45]), D.str (42 :: s), D.str (s.drop 1), D.str (s ++ [43, 45, 43]), D.int 3, D.str (s.map fun c => if c = 45 then 43 else c)], (∃ s', d = .str s' ∧ s'.length ≤ s.length + 3 ∧ c128 s' = true) ∨ d = .int 3 := by
    intro d hd
    simp only [List.mem_cons, List.not_mem_nil, or_false] at hd
    rcases hd with rfl | rfl | rfl | rfl | rfl | rfl
    · exact .inl ⟨_, rfl, by simp, c128_app hc rfl⟩
    · exact .inl ⟨_, rfl, by simp, c128_app (a := [42]) rfl hc⟩
    · exact .inl ⟨_, rfl, by simp; omega, c128_sub hc fun c h => List.mem_of_mem_drop h⟩
    · exact .inl ⟨_, rfl, by simp, c128_app hc rfl⟩
    · exact .inr rfl
    · refine .inl ⟨_, rfl, by simp, ?_⟩
      unfold c128 at *
      rw [List.all_eq_true] at *
      intro c h
      obtain ⟨z, hz, rfl⟩ := List.mem_map.mp h
      have := hc z hz
      split
      · rfl
      · exact this
  have hr6 : r < 6 := by omega
  rw [wm_atN (by simpa using hr6)]
  exact ⟨s1.len, hmem _ (List.getElem_mem _), s1⟩
theorem spoilt_int {st : Store} {n k : Nat} {i : Int} (v : VatAt n st) : WM (m__law_spoilt (k + 1) [.cel n, .int i] st) fun d st' => V2 d ∧ Sm n st st' := by
  refine wm_run rfl ?_
  unfold b__law_spoilt
  and_intros
  refine (sp_under v (by decide) (by decide)).imp fun d st1 ⟨⟨r, e, hr⟩, s1⟩ => ?_
  subst e
  and_intros
  refine ⟨by decide, ?_⟩
  have hmem : ∀ d ∈ [D.int (i + 1), D.int (i - 1), D.int 4, D.bl true, D.non, D.str [45]], V2 d := by
    intro d hd
    simp only [List.mem_cons, List.not_mem_nil, or_false] at hd
    rcases hd with rfl | rfl | rfl | rfl | rfl | rfl
    · exact .v1 .int
    · exact .v1 .int
    · exact .v1 .int
    · exact .bl
    · exact .non
    · exact .v1 (.str (by decide) rfl)
  have hr6 : r < 6 := by omega
  rw [wm_atN (by simpa using hr6)]
  exact ⟨s1.len, hmem _ (List.getElem_mem _), s1⟩
theorem spoilt1 {st : Store} {n k : Nat} {s : List Nat} (v : VatAt n st) (hl : s.length ≤ 5) (hc : s.all sgnB = true) : WM (m__law_spoilt (k + 1) [.cel n, .str s] st) fun d st' => V1 d ∧ Sm n st st' := by
  have h : c128 s = true := by
    unfold c128
    rw [List.all_eq_true] at *
    intro c h
    have := hc c h
    unfold sgnB at this
    rcases Bool.or_eq_true_iff.mp this with q | q <;> rw [of_decide_eq_true q] <;> rfl
  refine (spoilt_str v (by omega) h).imp fun d st' ⟨q, s'⟩ => ⟨?_, s'⟩
  rcases q with ⟨t, rfl, h1, h2⟩ | rfl
  · exact .str (by omega) h2
  · exact .int
theorem spoilt2 {st : Store} {n k : Nat} {d : D} (v : VatAt n st) (h : V1 d) : WM (m__law_spoilt (k + 1) [.cel n, d] st) fun d st' => V2 d ∧ Sm n st st' := by
  cases h with
  | str h1 h2 =>
    refine (spoilt_str v (by omega) h2).imp fun d st' ⟨q, s'⟩ => ⟨?_, s'⟩
    rcases q with ⟨t, rfl, h1, h2⟩ | rfl
    · exact .big (by omega) h2
    · exact .v1 .int
  | int => exact spoilt_int v
end K01

namespace K01
open DL MM
/-! ### checks over all signs -/
def polyOk (s : List Nat) : Bool := match m_polynomial [.str s] [], m__law_poly [.str s] [] with
  | .ok a [], .ok b [] => D.dp 60 a && D.dp 60 b && D.eqv a b
  | _, _ => false
def numOk (s : List Nat) : Bool := match dIndex (.lst ((every s.length).map D.str)) [.str s] [] with
  | .ok (.int (.ofNat k)) [] => (match m_number_of [.str s] [], m_signs_of [.int s.length, .int (.ofNat k)] [] with
    | .ok (.int (.ofNat j)) [], .ok (.str t) [] => decide (j = k) && decide (t = s)
    | _, _ => false)
  | _ => false
theorem andT {a b : Bool} (h : a = true) (k : b = true) : (a && b) = true := by rw [h, k]; rfl
theorem p0_0 : polyOk [] = true := by decide +kernel
theorem p1_0 : polyOk [45] = true := by decide +kernel
theorem p1_1 : polyOk [43] = true := by decide +kernel
theorem p2_0 : polyOk [45, 45] = true := by decide +kernel
theorem p2_1 : polyOk [45, 43] = true := by decide +kernel
theorem p2_2 : polyOk [43, 45] = true := by decide +kernel
theorem p2_3 : polyOk [43, 43] = true := by decide +kernel
theorem p3_0 : polyOk [45, 45, 45] = true := by decide +kernel
theorem p3_1 : polyOk [45, 45, 43] = true := by decide +kernel
theorem p3_2 : polyOk [45, 43, 45] = true := by decide +kernel
theorem p3_3 : polyOk [45, 43, 43] = true := by decide +kernel
theorem p3_4 : polyOk [43, 45, 45] = true := by decide +kernel
theorem p3_5 : polyOk [43, 45, 43] = true := by decide +kernel
theorem p3_6 : polyOk [43, 43, 45] = true := by decide +kernel
theorem p3_7 : polyOk [43, 43, 43] = true := by decide +kernel
theorem p4_0 : polyOk [45, 45, 45, 45] = true := by decide +kernel
theorem p4_1 : polyOk [45, 45, 45, 43] = true := by decide +kernel
theorem p4_2 : polyOk [45, 45, 43, 45] = true := by decide +kernel
theorem p4_3 : polyOk [45, 45, 43, 43] = true := by decide +kernel
theorem p4_4 : polyOk [45, 43, 45, 45] = true := by decide +kernel
theorem p4_5 : polyOk [45, 43, 45, 43] = true := by decide +kernel
theorem p4_6 : polyOk [45, 43, 43, 45] = true := by decide +kernel
theorem p4_7 : polyOk [45, 43, 43, 43] = true := by decide +kernel
theorem p4_8 : polyOk [43, 45, 45, 45] = true := by decide +kernel
theorem p4_9 : polyOk [43, 45, 45, 43] = true := by decide +kernel
theorem p4_10 : polyOk [43, 45, 43, 45] = true := by decide +kernel
theorem p4_11 : polyOk [43, 45, 43, 43] = true := by decide +kernel
theorem p4_12 : polyOk [43, 43, 45, 45] = true := by decide +kernel
theorem p4_13 : polyOk [43, 43, 45, 43] = true := by decide +kernel
theorem p4_14 : polyOk [43, 43, 43, 45] = true := by decide +kernel
theorem p4_15 : polyOk [43, 43, 43, 43] = true := by decide +kernel
theorem p5_0 : polyOk [45, 45, 45, 45, 45] = true := by decide +kernel
theorem p5_1 : polyOk [45, 45, 45, 45, 43] = true := by decide +kernel
theorem p5_2 : polyOk [45, 45, 45, 43, 45] = true := by decide +kernel
theorem p5_3 : polyOk [45, 45, 45, 43, 43] = true := by decide +kernel
theorem p5_4 : polyOk [45, 45, 43, 45, 45] = true := by decide +kernel
theorem p5_5 : polyOk [45, 45, 43, 45, 43] = true := by decide +kernel
theorem p5_6 : polyOk [45, 45, 43, 43, 45] = true := by decide +kernel
theorem p5_7 : polyOk [45, 45, 43, 43, 43] = true := by decide +kernel
theorem p5_8 : polyOk [45, 43, 45, 45, 45] = true := by decide +kernel
theorem p5_9 : polyOk [45, 43, 45, 45, 43] = true := by decide +kernel
theorem p5_10 : polyOk [45, 43, 45, 43, 45] = true := by decide +kernel
theorem p5_11 : polyOk [45, 43, 45, 43, 43] = true := by decide +kernel
theorem p5_12 : polyOk [45, 43, 43, 45, 45] = true := by decide +kernel
theorem p5_13 : polyOk [45, 43, 43, 45, 43] = true := by decide +kernel
theorem p5_14 : polyOk [45, 43, 43, 43, 45] = true := by decide +kernel
theorem p5_15 : polyOk [45, 43, 43, 43, 43] = true := by decide +kernel
theorem p5_16 : polyOk [43, 45, 45, 45, 45] = true := by decide +kernel
theorem p5_17 : polyOk [43, 45, 45, 45, 43] = true := by decide +kernel
theorem p5_18 : polyOk [43, 45, 45, 43, 45] = true := by decide +kernel
theorem p5_19 : polyOk [43, 45, 45, 43, 43] = true := by decide +kernel
theorem p5_20 : polyOk [43, 45, 43, 45, 45] = true := by decide +kernel
theorem p5_21 : polyOk [43, 45, 43, 45, 43] = true := by decide +kernel
theorem p5_22 : polyOk [43, 45, 43, 43, 45] = true := by decide +kernel
theorem p5_23 : polyOk [43, 45, 43, 43, 43] = true := by decide +kernel
theorem p5_24 : polyOk [43, 43, 45, 45, 45] = true := by decide +kernel
theorem p5_25 : polyOk [43, 43, 45, 45, 43] = true := by decide +kernel
theorem p5_26 : polyOk [43, 43, 45, 43, 45] = true := by decide +kernel
theorem p5_27 : polyOk [43, 43, 45, 43, 43] = true := by decide +kernel
theorem p5_28 : polyOk [43, 43, 43, 45, 45] = true := by decide +kernel
theorem p5_29 : polyOk [43, 43, 43, 45, 43] = true := by decide +kernel
theorem p5_30 : polyOk [43, 43, 43, 43, 45] = true := by decide +kernel
theorem p5_31 : polyOk [43, 43, 43, 43, 43] = true := by decide +kernel
theorem pa0 : (every 0).all polyOk = true := by
  have e : every 0 = [[]] := by decide +kernel
  rw [e]
  exact (andT p0_0 rfl)
theorem pa1 : (every 1).all polyOk = true := by
  have e : every 1 = [[45], [43]] := by decide +kernel
  rw [e]
  exact (andT p1_0 (andT p1_1 rfl))
theorem pa2 : (every 2).all polyOk = true := by
  have e : every 2 = [[45, 45], [45, 43], [43, 45], [43, 43]] := by decide +kernel
  rw [e]
  exact (andT p2_0 (andT p2_1 (andT p2_2 (andT p2_3 rfl))))
theorem pa3 : (every 3).all polyOk = true := by
  have e : every 3 = [[45, 45, 45], [45, 45, 43], [45, 43, 45], [45, 43, 43], [43, 45, 45], [43, 45, 43], [43, 43, 45], [43, 43, 43]] := by decide +kernel
  rw [e]
  exact (andT p3_0 (andT p3_1 (andT p3_2 (andT p3_3 (andT p3_4 (andT p3_5 (andT p3_6 (andT p3_7 rfl))))))))
theorem pa4 : (every 4).all polyOk = true := by
  have e : every 4 = [[45, 45, 45, 45], [45, 45, 45, 43], [45, 45, 43, 45], [45, 45, 43, 43], [45, 43, 45, 45], [45, 43, 45, 43], [45, 43, 43, 45], [45, 43, 43, 43], [43, 45, 45, 45], [43, 45, 45, 43], [43, 45, 43, 45], [43, 45, 43, 43], [43, 43, 45, 45], [43, 43, 45, 43], [43, 43, 43, 45], [43, 43, 43, 43]] := by decide +kernel
  rw [e]
  exact (andT p4_0 (andT p4_1 (andT p4_2 (andT p4_3 (andT p4_4 (andT p4_5 (andT p4_6 (andT p4_7 (andT p4_8 (andT p4_9 (andT p4_10 (andT p4_11 (andT p4_12 (andT p4_13 (andT p4_14 (andT p4_15 rfl))))))))))))))))
theorem pa5 : (every 5).all polyOk = true := by
  have e : every 5 = [[45, 45, 45, 45, 45], [45, 45, 45, 45, 43], [45, 45, 45, 43, 45], [45, 45, 45, 43, 43], [45, 45, 43, 45, 45], [45, 45, 43, 45, 43], [45, 45, 43, 43, 45], [45, 45, 43, 43, 43], [45, 43, 45, 45, 45], [45, 43, 45, 45, 43], [45, 43, 45, 43, 45], [45, 43, 45, 43, 43], [45, 43, 43, 45, 45], [45, 43, 43, 45, 43], [45, 43, 43, 43, 45], [45, 43, 43, 43, 43], [43, 45, 45, 45, 45], [43, 45, 45, 45, 43], [43, 45, 45, 43, 45], [43, 45, 45, 43, 43], [43, 45, 43, 45, 45], [43, 45, 43, 45, 43], [43, 45, 43, 43, 45], [43, 45, 43, 43, 43], [43, 43, 45, 45, 45], [43, 43, 45, 45, 43], [43, 43, 45, 43, 45], [43, 43, 45, 43, 43], [43, 43, 43, 45, 45], [43, 43, 43, 45, 43], [43, 43, 43, 43, 45], [43, 43, 43, 43, 43]] := by decide +kernel
  rw [e]
  exact (andT p5_0 (andT p5_1 (andT p5_2 (andT p5_3 (andT p5_4 (andT p5_5 (andT p5_6 (andT p5_7 (andT p5_8 (andT p5_9 (andT p5_10 (andT p5_11 (andT p5_12 (andT p5_13 (andT p5_14 (andT p5_15 (andT p5_16 (andT p5_17 (andT p5_18 (andT p5_19 (andT p5_20 (andT p5_21 (andT p5_22 (andT p5_23 (andT p5_24 (andT p5_25 (andT p5_26 (andT p5_27 (andT p5_28 (andT p5_29 (andT p5_30 (andT p5_31 rfl))))))))))))))))))))))))))))))))
theorem poly_all : ∀ n : Nat, n ≤ 5 → (every n).all polyOk = true
  | 0, _ => pa0
  | 1, _ => pa1
  | 2, _ => pa2
  | 3, _ => pa3
  | 4, _ => pa4
  | 5, _ => pa5
  | n + 6, h => by omega
theorem num_all : ∀ n : Nat, n ≤ 5 → (every n).all numOk = true
  | 0, _ => by decide +kernel
  | 1, _ => by decide +kernel
  | 2, _ => by decide +kernel
  | 3, _ => by decide +kernel
  | 4, _ => by decide +kernel
  | 5, _ => by decide +kernel
  | n + 6, h => by omega
end K01


namespace K01
open DL MM
theorem poly_of {s : List Nat} (h : s.length ≤ 5) (h2 : s.all sgnB = true) : ∃ a b, m_polynomial [.str s] [] = .ok a [] ∧ m__law_poly [.str s] [] = .ok b [] ∧ D.dp 60 a = true ∧ D.dp 60 b = true ∧ D.eqv a b = true := by
  have := List.all_eq_true.mp (poly_all _ h) s (every_has rfl h2)
  unfold polyOk at this
  split at this
  · rename_i a b q1 q2
    obtain ⟨h3, h4⟩ := Bool.and_eq_true_iff.mp this
    obtain ⟨h5, h6⟩ := Bool.and_eq_true_iff.mp h3
    exact ⟨a, b, q1, q2, h5, h6, h4⟩
  · cases this
theorem num_of {s : List Nat} (h : s.length ≤ 5) (h2 : s.all sgnB = true) : ∃ k : Nat, dIndex (.lst ((every s.length).map D.str)) [.str s] [] = .ok (.int k) [] ∧ m_number_of [.str s] [] = .ok (.int k) [] ∧ m_signs_of [.int s.length, .int k] [] = .ok (.str s) [] := by
  have := List.all_eq_true.mp (num_all _ h) s (every_has rfl h2)
  unfold numOk at this
  split at this
  · rename_i k q1
    split at this
    · rename_i j t q2 q3
      obtain ⟨h3, h4⟩ := Bool.and_eq_true_iff.mp this
      rw [of_decide_eq_true h3] at q2
      rw [of_decide_eq_true h4] at q3
      exact ⟨k, q1, q2, q3⟩
    · cases this
  · cases this
/-! ### the sum of the losses -/
def addF (p : Nat × Nat) (q : Nat × Nat) : Nat × Nat := (p.1 * q.2 + q.1 * p.2, p.2 * q.2)
def sumF (l : List (Nat × Nat)) (p : Nat × Nat) : Nat × Nat := l.foldl addF p
/-- all losses of one step more: twice the sum -/
theorem sum_two (t b : Nat) (ht : t ≤ b) : ∀ (l : List (List Nat)) (p q : Nat × Nat), p.1 * q.2 = 2 * q.1 * p.2 →
    (sumF ((l.flatMap fun s => [s ++ [45], s ++ [43]]).map fun s => lossN s t b) p).1 * (sumF (l.map fun s => lossN s t b) q).2 = 2 * (sumF (l.map fun s => lossN s t b) q).1 * (sumF ((l.flatMap fun s => [s ++ [45], s ++ [43]]).map fun s => lossN s t b) p).2
  | [], p, q, h => h
  | s :: r, p, q, h => by
    have la : ∀ (s : List Nat) (c t b : Nat), lossN (s ++ [c]) t b = if c = 43 then ((lossN s t b).1 * (lossN s t b).1, (lossN s t b).2 * (lossN s t b).2) else (2 * (lossN s t b).1 * (lossN s t b).2 - (lossN s t b).1 * (lossN s t b).1, (lossN s t b).2 * (lossN s t b).2) := fun s => by
      induction s with
      | nil => intro c t b; simp only [List.nil_append, lossN]; 
      | cons a r ih =>
        intro c t b
        simp only [List.cons_append, lossN]
        split <;> exact ih _ _ _
    have hle := loss_le (s := s) ht
    rw [List.flatMap_cons, List.map_append, List.map_cons]
    show (sumF (_ ++ _) p).1 * (sumF (_ :: _) q).2 = 2 * (sumF (_ :: _) q).1 * (sumF (_ ++ _) p).2
    unfold sumF
    rw [List.foldl_append, List.foldl_cons]
    refine sum_two t b ht r _ _ ?_
    simp only [List.map_cons, List.map_nil, List.foldl_cons, List.foldl_nil, la]
    rw [if_neg (by decide), if_pos trivial]
    generalize lossN s t b = xy at hle
    obtain ⟨x, y⟩ := xy
    simp only [addF] at hle ⊢
    have e1 : 2 * x * y - x * x + x * x = 2 * x * y := Nat.sub_add_cancel (tt_le hle)
    generalize hm : 2 * x * y - x * x = m at e1
    have e2 : (p.1 * (y * y) + m * p.2) * (y * y) + x * x * (p.2 * (y * y)) = (y * y) * (p.1 * (y * y) + 2 * x * y * p.2) := by
      rw [← e1]
      simp only [Nat.add_mul, Nat.mul_add]
      ac_rfl
    rw [e2]
    have e3 : y * y * (p.1 * (y * y) + 2 * x * y * p.2) * (q.2 * y) = y * y * y * y * y * (p.1 * q.2) + 2 * x * p.2 * q.2 * (y * y * y * y) := by
      simp only [Nat.add_mul, Nat.mul_add]
      ac_rfl
    rw [e3, h]
    simp only [Nat.add_mul, Nat.mul_add]
    ac_rfl
theorem sumF_pos : ∀ (l : List (Nat × Nat)) (p : Nat × Nat), 0 < p.2 → (∀ x ∈ l, 0 < x.2) → 0 < (sumF l p).2
  | [], p, h, _ => h
  | a :: l, p, h, ha => sumF_pos l _ (Nat.mul_pos h (ha a List.mem_cons_self)) fun x hx => ha x (List.mem_cons_of_mem _ hx)
theorem sum_all {t b : Nat} (c : Ch t b) : ∀ n : Nat, (sumF ((every n).map fun s => lossN s t b) (0, 1)).1 * b = t * 2 ^ n * (sumF ((every n).map fun s => lossN s t b) (0, 1)).2
  | 0 => by
    show (0 * b + t * 1) * b = t * 1 * (1 * b)
    simp
  | n + 1 => by
    have ih := sum_all c n
    have h := sum_two t b c.le (every n) (0, 1) (0, 1) rfl
    have hp : 0 < (sumF ((every n).map fun s => lossN s t b) (0, 1)).2 := sumF_pos _ _ (by decide) fun x hx => by
      obtain ⟨s, _, rfl⟩ := List.mem_map.mp hx
      exact loss_pos c.pos
    have e : every (n + 1) = (every n).flatMap fun s => [s ++ [45], s ++ [43]] := rfl
    rw [e]
    generalize sumF ((every n).map fun s => lossN s t b) (0, 1) = q at ih h hp
    generalize sumF (((every n).flatMap fun s => [s ++ [45], s ++ [43]]).map fun s => lossN s t b) (0, 1) = p at h
    refine Nat.eq_of_mul_eq_mul_right hp ?_
    have e1 : p.1 * b * q.2 = (p.1 * q.2) * b := by ac_rfl
    rw [e1, h]
    have e2 : 2 * q.1 * p.2 * b = 2 * p.2 * (q.1 * b) := by ac_rfl
    rw [e2, ih, Nat.pow_succ]
    ac_rfl
/-- the loop that sums -/
abbrev sSum : MS := sFor (mIt (mCall 2 (iso m_losses) (mCons (vr 6) (mCons (vr 9) mNil)))) (gTp [(gNm 12), (gNm 13)]) (sPar 10 11 (mCons (m2 dAdd (m2 dMulX (vr 10) (vr 13)) (m2 dMulX (vr 12) (vr 11))) (mCons (m2 dMulX (vr 11) (vr 13)) mNil)))
theorem sum_loop {j : Nat} (hj : j ≤ 320) {o0 o1 o2 o3 o4 o5 o6 o7 o8 o9 : Option D} {st : Store} {T : D → Store → Prop} {N : Env' → Store → Prop} : ∀ (l : List (Nat × Nat)) (p : Nat × Nat) (k : Nat) (o12 o13 : Option D), p.1 < 2 ^ k → p.2 < 2 ^ k → (∀ x ∈ l, x.1 ≤ x.2 ∧ x.2 < 2 ^ j) → k + 321 * l.length < 20000 →
    (∀ o12 o13 k', (sumF l p).1 < 2 ^ k' → (sumF l p).2 < 2 ^ k' → k' < 20000 → N [o0, o1, o2, o3, o4, o5, o6, o7, o8, o9, some (.int (sumF l p).1), some (.int (sumF l p).2), o12, o13] st) →
    WS (forL always (gTp [(gNm 12), (gNm 13)]) (sPar 10 11 (mCons (m2 dAdd (m2 dMulX (vr 10) (vr 13)) (m2 dMulX (vr 12) (vr 11))) (mCons (m2 dMulX (vr 11) (vr 13)) mNil))) (l.map frD) [o0, o1, o2, o3, o4, o5, o6, o7, o8, o9, some (.int p.1), some (.int p.2), o12, o13] st) N T
  | [], p, k, o12, o13, h1, h2, _, hk, hN => by
    rw [List.map_nil, ws_forN]
    exact hN _ _ k h1 h2 (by simpa using hk)
  | x :: l, p, k, o12, o13, h1, h2, hl, hk, hN => by
    obtain ⟨a1, a2⟩ := hl x List.mem_cons_self
    have a3 : x.1 < 2 ^ j := Nat.lt_of_le_of_lt a1 a2
    have hk2 : k < 20000 := by omega
    rw [List.map_cons]
    refine ws_forC ?_
    and_intros
    refine ⟨mulok (a := k) (b := j) (by simpa using h1) (by simpa using a2) (by omega), mulok (a := j) (b := k) (by simpa using a3) (by simpa using h2) (by omega), mulok (a := k) (b := j) (by simpa using h2) (by simpa using a2) (by omega), ?_⟩
    have e1 : (p.1 : Int) * x.2 + x.1 * p.2 = ((addF p x).1 : Nat) := by simp [addF]
    have e2 : (p.2 : Int) * x.2 = ((addF p x).2 : Nat) := by simp [addF]
    rw [e1, e2]
    refine sum_loop hj l (addF p x) (k + 321) _ _ ?_ ?_ (fun y hy => hl y (List.mem_cons_of_mem _ hy)) (by rw [List.length_cons] at hk; omega) hN
    · have q1 : p.1 * x.2 < 2 ^ (k + j) := by rw [Nat.pow_add]; exact Nat.mul_lt_mul'' h1 a2
      have q2 : x.1 * p.2 < 2 ^ (k + j) := by rw [Nat.pow_add, Nat.mul_comm]; exact Nat.mul_lt_mul'' h2 a3
      have q3 : 2 ^ (k + j + 1) ≤ 2 ^ (k + 321) := Nat.pow_le_pow_right (by decide) (by omega)
      rw [Nat.pow_succ] at q3
      show p.1 * x.2 + x.1 * p.2 < _
      omega
    · have q1 : p.2 * x.2 < 2 ^ (k + j) := by rw [Nat.pow_add]; exact Nat.mul_lt_mul'' h2 a2
      have q3 : 2 ^ (k + j) ≤ 2 ^ (k + 321) := Nat.pow_le_pow_right (by decide) (by omega)
      exact Nat.lt_of_lt_of_le q1 q3
end K01

namespace K01
open DL MM
/-! ### fractions beside one another -/
structure Sz (K : Nat) (p : Nat × Nat) : Prop where
  a : p.1 < 2 ^ K
  b : p.2 < 2 ^ K
theorem Sz.up {K L : Nat} {p : Nat × Nat} (h : Sz K p) (l : K ≤ L) : Sz L p := ⟨Nat.lt_of_lt_of_le h.a (Nat.pow_le_pow_right (by decide) l), Nat.lt_of_lt_of_le h.b (Nat.pow_le_pow_right (by decide) l)⟩
theorem mulN {K x y : Nat} (hK : K < 400000) (hx : x < 2 ^ K) (hy : y < 2 ^ K) : mulOk (x : Int) (y : Int) = true := mulok (a := K) (b := K) (by simpa using hx) (by simpa using hy) (by omega)
def leF (p q : Nat × Nat) : Bool := decide (p.1 * q.2 ≤ q.1 * p.2)
theorem decI {a b c d : Nat} : decide ((a : Int) * b ≤ c * d) = decide (a * b ≤ c * d) := by
  rw [decide_eq_decide]
  omega
theorem sp__law_less {K : Nat} {p q : Nat × Nat} {st : Store} (hK : K < 400000) (h1 : Sz K p) (h2 : Sz K q) : WM (m__law_less [frD p, frD q] st) (Is st (.bl (leF p q))) := by
  refine wm_runI rfl ?_
  unfold b__law_less
  and_intros
  exact ⟨mulN hK h1.a h2.b, mulN hK h2.a h1.b, is_of (by rw [decI]; rfl)⟩
theorem sp_is_within {K : Nat} {p l h : Nat × Nat} {st : Store} (hK : K < 400000) (h1 : Sz K p) (h2 : Sz K l) (h3 : Sz K h) : WM (m_is_within [frD p, frD l, frD h] st) (Is st (.bl (leF l p && leF p h))) := by
  refine wm_runI rfl ?_
  unfold b_is_within
  and_intros
  refine ⟨mulN hK h2.a h1.b, mulN hK h1.a h2.b, ?_⟩
  rw [decI]
  by_cases hc : l.1 * p.2 ≤ p.1 * l.2
  · rw [if_pos (by simpa using hc)]
    refine ⟨mulN hK h1.a h3.b, mulN hK h3.a h1.b, is_of ?_⟩
    rw [decI]
    simp [leF, hc]
  · rw [if_neg (by simpa using hc)]
    refine is_of ?_
    simp [leF, hc]
/-- a fraction as bound -/
structure Fr (K : Nat) (p : Nat × Nat) : Prop where
  le : p.1 ≤ p.2
  pos : 0 < p.2
  cop : Nat.gcd p.1 p.2 = 1
  lt : p.2 < 2 ^ K
theorem Fr.sz {K : Nat} {p : Nat × Nat} (f : Fr K p) : Sz K p := ⟨Nat.lt_of_le_of_lt f.le f.lt, f.lt⟩
theorem Fr.up {K L : Nat} {p : Nat × Nat} (h : Fr K p) (l : K ≤ L) : Fr L p := ⟨h.le, h.pos, h.cop, (h.sz.up l).b⟩
theorem Fr.part {K : Nat} {p : Nat × Nat} (f : Fr K p) {most : Int} (hm : (p.2 : Int) ≤ most) : isPt (frD p) most = true := by
  have h1 := f.le
  have h2 := f.pos
  have h4 := f.cop
  simp only [frD, isPt, isWh]
  simp [h1, hm, Int.gcd, h4]
  omega
theorem fr_loss {t b : Nat} (c : Ch t b) {s : List Nat} (h : s.length ≤ 5) : Fr (10 * 2 ^ s.length) (lossN s t b) := ⟨loss_le c.le, loss_pos c.pos, loss_cop c.le c.cop, loss_lt c.b10⟩
theorem fr_loss5 {t b : Nat} (c : Ch t b) {s : List Nat} {K : Nat} (h : s.length ≤ 5) (hK : 10 * 2 ^ 5 ≤ K) : Fr K (lossN s t b) :=
  (fr_loss c h).up (by
    have : 2 ^ s.length ≤ 2 ^ 5 := Nat.pow_le_pow_right (by decide) h
    omega)
/-- a drawn bound -/
abbrev eDraw (q0 : Int) (q1 : Int) : Env' → M D := mCall 2 m__law_some (mCons (vr 0) (mCons (mLst (mCons (mTup (mCons (cst (.int q0)) (mCons (cst (.int q1)) mNil))) (mCons (mTup (mCons (cst (.int 1)) (mCons (cst (.int 2)) mNil))) (mCons (mCall 2 m__law_some (mCons (vr 0) (mCons (vr 3) mNil))) (mCons (mCall 2 (iso m__law_low) (mCons (mCall 2 m__law_under (mCons (vr 0) (mCons (m2 dPow (cst (.int 10)) (cst (.int 9))) mNil))) (mCons (m2 dPow (cst (.int 10)) (cst (.int 9))) mNil))) mNil))))) mNil))
theorem draw_fr {K n : Nat} {st : Store} {q : Nat × Nat} {q0 q1 : Int} (e0 : q0 = q.1) (e1 : q1 = q.2) (hq : Fr K q) (hK : 40 ≤ K) (v : VatAt n st) {rows : List (Nat × Nat)} (hne : 0 < rows.length) (hlt : rows.length < 1000) (hr : ∀ p ∈ rows, Fr K p) {o1 o2 : Option D} {ρ : Env'} :
    WM (eDraw q0 q1 (some (.cel n) :: o1 :: o2 :: some (.lst (rows.map frD)) :: ρ) st) fun d st' => (∃ p, d = frD p ∧ Fr K p) ∧ Sm n st st' := by
  subst e0 e1
  unfold eDraw
  and_intros
  refine ⟨by decide, by decide, (sp_some v (by simpa using hne) (by rw [List.length_map]; omega)).imp fun d st1 ⟨hd, s1⟩ => ?_⟩
  obtain ⟨p, hp, rfl⟩ := List.mem_map.mp hd
  and_intros
  have p9 : (10 : Int) ^ (9 : Int).toNat = 1000000000 := by decide +kernel
  refine ⟨by decide +kernel, ?_⟩
  rw [p9]
  refine (sp_under s1.vat (by decide) (by omega)).imp fun d st2 ⟨⟨r, e, hr2⟩, s2⟩ => ?_
  subst e
  and_intros
  refine ⟨by decide +kernel, ?_⟩
  rw [p9]
  rw [show (1000000000 : Int) = ((1000000000 : Nat) : Int) from rfl, wm_is (sp__law_low (by decide) (log_of (a := 30) (by decide) (by decide)))]
  and_intros
  refine ⟨by decide, (sp_some s2.vat (by simp) (by simp)).imp fun d st3 ⟨hd3, s3⟩ => ⟨?_, (s1.trans s2).trans s3⟩⟩
  have hp40 : 1000000000 < 2 ^ K := Nat.lt_of_lt_of_le (by decide : 1000000000 < 2 ^ 40) (Nat.pow_le_pow_right (by decide) hK)
  simp only [List.mem_cons, List.not_mem_nil, or_false] at hd3
  rcases hd3 with rfl | rfl | rfl | rfl
  · exact ⟨q, rfl, hq⟩
  · exact ⟨(1, 2), rfl, by decide, by decide, by decide, by show 2 < 2 ^ K; omega⟩
  · exact ⟨p, rfl, hr p hp⟩
  · have hg : 0 < Nat.gcd r 1000000000 := Nat.gcd_pos_of_pos_right _ (by decide)
    refine ⟨(_, _), rfl, ?_, ?_, div_gcd_cop (by decide), ?_⟩
    · exact Nat.div_le_div_right (by omega)
    · exact Nat.div_pos (Nat.le_of_dvd (by decide) (Nat.gcd_dvd_right _ _)) hg
    · exact Nat.lt_of_le_of_lt (Nat.div_le_self _ _) hp40
theorem sp_count {K n t b : Nat} {l h : Nat × Nat} {st : Store} (hK : K < 400000) (hK2 : 10 * 2 ^ 5 ≤ K) (hn : n ≤ 5) (c : Ch t b) (hl : Fr K l) (hh : Fr K h) (l30 : l.2 ≤ 1000000000000000000000000000000) (h30 : h.2 ≤ 1000000000000000000000000000000) :
    WM (m_count_between [.int n, frD (t, b), frD l, frD h] st) (Is st (.int (((every n).filter fun s => leF l (lossN s t b) && leF (lossN s t b) h).length : Nat))) := by
  refine wm_runI rfl ?_
  unfold b_count_between
  and_intros
  rw [wm_is (sp_need_steps (by omega))]
  and_intros
  rw [wm_is (sp_need_chance rfl vl_fr c.part)]
  and_intros
  refine ⟨by decide, ?_⟩
  refine ws_forC ?_
  and_intros
  rw [wm_is (sp_is_part rfl vl_fr), hl.part (by omega)]
  and_intros
  refine ws_forC ?_
  and_intros
  rw [wm_is (sp_is_part rfl vl_fr), hh.part (by omega)]
  and_intros
  rw [wm_is (sp_all_signs hn rfl)]
  and_intros
  have hlen := every_len n
  have h32 : 2 ^ n ≤ 2 ^ 5 := Nat.pow_le_pow_right (by decide) hn
  refine ⟨by rw [List.length_map, hlen]; unfold LIM; omega, ?_⟩
  refine wm_cmpP (fun x => match x with
    | .str s => leF l (lossN s t b) && leF (lossN s t b) h
    | _ => false) (fun x => x) (fun x hx => ?_) ?_
  · obtain ⟨s, hs, rfl⟩ := List.mem_map.mp hx
    obtain ⟨h1, h2⟩ := every_mem hs
    show WM (gNm 5 (.str s) [some (.int n), some (frD (t, b)), some (frD l), some (frD h), some (frD h), none] st) _
    and_intros
    rw [wm_is (sp_made_loss (k := 10) c.le c.b10 (by rw [h1]; omega))]
    and_intros
    have f := (fr_loss5 (K := K) c (s := s) (by omega) hK2).sz
    rw [wm_is (sp_is_within hK f hl.sz hh.sz)]
    and_intros
    exact fun _ => trivial
  · and_intros
    refine is_of ?_
    rw [List.map_id', List.filter_map, List.length_map]
    rfl
end K01

namespace K01
open DL MM
theorem filt_len {α β : Type} (f : α → β) (p : β → Bool) (l : List α) : ((l.map f).filter p).length = (l.filter fun x => p (f x)).length := by
  rw [List.filter_map, List.length_map]; rfl
theorem sp__law_bounds {m n t b : Nat} {st : Store} (v : VatAt m st) (hn : n ≤ 5) (c : Ch t b) : WM (m__law_bounds [.cel m, .int n, frD (t, b)] st) fun d st' => d = .bl true ∧ Sm m st st' := by
  refine wm_run rfl ?_
  unfold b__law_bounds
  have hlen := every_len n
  have h32 : 2 ^ n ≤ 2 ^ 5 := Nat.pow_le_pow_right (by decide) hn
  have erow : ((every n).map D.str).map (fun x => match x with
      | .str s => frD (lossN s t b)
      | _ => .non) = ((every n).map fun s => lossN s t b).map frD := by rw [List.map_map, List.map_map]; rfl
  have hrows : ∀ p ∈ (every n).map (fun s => lossN s t b), Fr 400 p := fun p hp => by
    obtain ⟨s, hs, rfl⟩ := List.mem_map.mp hp
    obtain ⟨h1, h2⟩ := every_mem hs
    exact fr_loss5 c (by omega) (by decide)
  have hl0 : 0 < ((every n).map fun s => lossN s t b).length := by
    rw [List.length_map, hlen]
    exact Nat.pow_pos (by decide)
  have hl1 : ((every n).map fun s => lossN s t b).length < 1000 := by rw [List.length_map, hlen]; omega
  refine ws_cut (fun ρ st1 => st = st1 ∧ ρ = [some (.cel m), some (.int n), some (frD (t, b)), some (.lst (((every n).map fun s => lossN s t b).map frD)), none, none, none, none, none]) ?_ ?_
  · and_intros
    rw [wm_is (sp__law_every hn rfl)]
    and_intros
    refine ⟨by rw [List.length_map, hlen]; unfold LIM; omega, ?_⟩
    refine wm_cmpM (fun x => match x with
      | .str s => frD (lossN s t b)
      | _ => .non) (fun x hx => ?_) ?_
    · obtain ⟨s, hs, rfl⟩ := List.mem_map.mp hx
      obtain ⟨h1, h2⟩ := every_mem hs
      show WM (gNm 7 (.str s) [some (.cel m), some (.int n), some (frD (t, b)), none, none, none, none, none, none] st) _
      and_intros
      rw [wm_is (sp_lawloss (by omega) c)]
      and_intros
    · rw [erow]
      and_intros
  · rintro ρ1 _ ⟨rfl, rfl⟩
    refine ws_cut (fun ρ st1 => ∃ lo, Fr 400 lo ∧ Sm m st st1 ∧ ρ = [some (.cel m), some (.int n), some (frD (t, b)), some (.lst (((every n).map fun s => lossN s t b).map frD)), some (frD lo), none, none, none, none]) ?_ ?_
    · rw [ws_asg]
      refine (draw_fr (K := 400) (q := (0, 1)) (q0 := 0) (q1 := 1) rfl rfl ⟨by decide, by decide, by decide, Nat.one_lt_two_pow (by decide)⟩ (by decide) v hl0 hl1 hrows).imp fun d st1 ⟨⟨lo, e, hlo⟩, s1⟩ => ?_
      subst e
      and_intros
      exact ⟨lo, hlo, s1, rfl⟩
    rintro _ st1 ⟨lo, hlo, s1, rfl⟩
    refine ws_cut (fun ρ st2 => ∃ hi, Fr 400 hi ∧ Sm m st1 st2 ∧ ρ = [some (.cel m), some (.int n), some (frD (t, b)), some (.lst (((every n).map fun s => lossN s t b).map frD)), some (frD lo), some (frD hi), none, none, none]) ?_ ?_
    · rw [ws_asg]
      refine (draw_fr (K := 400) (q := (1, 1)) (q0 := 1) (q1 := 1) rfl rfl ⟨by decide, by decide, by decide, Nat.one_lt_two_pow (by decide)⟩ (by decide) s1.vat hl0 hl1 hrows).imp fun d st2 ⟨⟨hi, e, hhi⟩, s2⟩ => ?_
      subst e
      and_intros
      exact ⟨hi, hhi, s2, rfl⟩
    rintro _ st2 ⟨hi, hhi, s2, rfl⟩
    have s12 := s1.trans s2
    -- what follows, for bounds that are small enough
    have rest : ∀ (lo hi : Nat × Nat), Fr 400 lo → Fr 400 hi → lo.2 ≤ 1000000000000000000000000000000 → hi.2 ≤ 1000000000000000000000000000000 →
        WM (mFn (f1 dLen) (mCons (mComp [8] (.nm 8) (mIt (vr 3)) (mAnd (mB (mCall 2 (iso m__law_less) (mCons (vr 4) (mCons (vr 8) mNil)))) (mB (mCall 2 (iso m__law_less) (mCons (vr 8) (mCons (vr 5) mNil))))) (vr 8)) mNil) [some (.cel m), some (.int n), some (frD (t, b)), some (.lst (((every n).map fun s => lossN s t b).map frD)), some (frD lo), some (frD hi), none, none, none] st2) fun d st' =>
          st' = st2 ∧ d = .int (((every n).filter fun s => leF lo (lossN s t b) && leF (lossN s t b) hi).length : Nat) := fun lo hi flo fhi l30 h30 => by
      and_intros
      refine ⟨by rw [List.length_map, List.length_map, hlen]; unfold LIM; omega, ?_⟩
      refine wm_cmpP (fun x => match x with
        | .tup [.int (.ofNat x), .int (.ofNat y)] => leF lo (x, y) && leF (x, y) hi
        | _ => false) (fun x => x) (fun x hx => ?_) ?_
      · obtain ⟨p, hp, rfl⟩ := List.mem_map.mp hx
        have fp := hrows p hp
        show WM (gNm 8 (frD p) [some (.cel m), some (.int n), some (frD (t, b)), some (.lst (((every n).map fun s => lossN s t b).map frD)), some (frD lo), some (frD hi), none, none, none] st2) _
        and_intros
        rw [wm_is (sp__law_less (K := 400) (by decide) flo.sz fp.sz)]
        and_intros
        by_cases hc : leF lo p = true
        · rw [if_pos hc]
          rw [wm_is (sp__law_less (K := 400) (by decide) fp.sz fhi.sz)]
          and_intros
          refine ⟨?_, fun _ => trivial⟩
          show leF p hi = (leF lo p && leF p hi)
          rw [hc]; rfl
        · rw [if_neg hc]
          refine ⟨?_, fun _ => trivial⟩
          show false = (leF lo p && leF p hi)
          simp [hc]
      · and_intros
        rw [List.map_id', filt_len, filt_len]
    have fin : ∀ (lo hi : Nat × Nat), Fr 400 lo → Fr 400 hi → lo.2 ≤ 1000000000000000000000000000000 → hi.2 ≤ 1000000000000000000000000000000 →
        WS (sSeq (sAsg (mFn (f1 dLen) (mCons (mComp [8] (.nm 8) (mIt (vr 3)) (mAnd (mB (mCall 2 (iso m__law_less) (mCons (vr 4) (mCons (vr 8) mNil)))) (mB (mCall 2 (iso m__law_less) (mCons (vr 8) (mCons (vr 5) mNil))))) (vr 8)) mNil)) (gNm 6))
          (sRet (m2 dEq (mCall 4 (iso m_count_between) (mCons (vr 1) (mCons (vr 2) (mCons (vr 4) (mCons (vr 5) mNil))))) (vr 6))) [some (.cel m), some (.int n), some (frD (t, b)), some (.lst (((every n).map fun s => lossN s t b).map frD)), some (frD lo), some (frD hi), none, none, none] st2)
          (fun _ st' => st'.length = st.length ∧ D.non = D.bl true ∧ Sm m st st') fun d st' => st'.length = st.length ∧ d = .bl true ∧ Sm m st st' := fun lo hi flo fhi l30 h30 => by
      rw [ws_seq, ws_asg]
      refine (rest lo hi flo fhi l30 h30).imp fun d s' ⟨e1, e2⟩ => ?_
      subst e1 e2
      and_intros
      rw [wm_is (sp_count (K := 400) (by decide) (by decide) hn c flo fhi l30 h30)]
      and_intros
      exact ⟨s12.len, s12⟩
    have p30 : (10 : Int) ^ (30 : Int).toNat = 1000000000000000000000000000000 := by decide +kernel
    have q0 : Fr 400 (1, 4) := ⟨by decide, by decide, by decide, Nat.lt_of_lt_of_le (by decide : 4 < 2 ^ 3) (Nat.pow_le_pow_right (by decide) (by decide))⟩
    have q1 : Fr 400 (3, 4) := ⟨by decide, by decide, by decide, Nat.lt_of_lt_of_le (by decide : 4 < 2 ^ 3) (Nat.pow_le_pow_right (by decide) (by decide))⟩
    refine ws_cut (fun ρ st3 => st2 = st3 ∧ ∃ lo hi, Fr 400 lo ∧ Fr 400 hi ∧ lo.2 ≤ 1000000000000000000000000000000 ∧ hi.2 ≤ 1000000000000000000000000000000 ∧ ρ = [some (.cel m), some (.int n), some (frD (t, b)), some (.lst (((every n).map fun s => lossN s t b).map frD)), some (frD lo), some (frD hi), none, none, none]) ?_ ?_
    · and_intros
      refine ⟨by decide +kernel, ?_⟩
      rw [p30]
      by_cases hc : (1000000000000000000000000000000 : Int) < lo.2
      · rw [if_pos (by simpa using hc)]
        exact ⟨by decide, by decide, by decide, (1, 4), (3, 4), q0, q1, by decide, by decide, rfl⟩
      · rw [if_neg (by simpa using hc)]
        refine ⟨by decide +kernel, ?_⟩
        by_cases hc2 : (1000000000000000000000000000000 : Int) < hi.2
        · rw [if_pos (by simpa using hc2)]
          exact ⟨by decide, by decide, by decide, (1, 4), (3, 4), q0, q1, by decide, by decide, rfl⟩
        · rw [if_neg (by simpa using hc2)]
          exact ⟨lo, hi, hlo, hhi, by omega, by omega, rfl⟩
    · rintro _ _ ⟨rfl, lo, hi, h1, h2, h3, h4, rfl⟩
      exact fin lo hi h1 h2 h3 h4
end K01

namespace K01
open DL MM
theorem refused_ok : m__law_refused [] [] = .ok (.bl true) [] := by kernel_rfl
theorem written_ok : m__law_written [] [] = .ok (.bl true) [] := by kernel_rfl
abbrev F0 : D → Store → Prop := fun _ _ => False
theorem eqL_fr : ∀ l : List (Nat × Nat), D.eqvL (l.map frD) (l.map frD) = true
  | [] => rfl
  | p :: l => by
    rw [List.map_cons, D.eqvL, eqL_fr l]
    simp [D.eqv, D.eqvL]
theorem dpL_fr : ∀ l : List (Nat × Nat), D.dpL 59 (l.map frD) = true
  | [] => rfl
  | p :: l => by
    rw [List.map_cons, D.dpL, dpL_fr l]
    rfl
/-- six spoilt values -/
abbrev sSp : MS := sFor (mItL itR1 (mCons (cst (.int 6)) mNil)) (gNm 5) (sSeq (sIf (mNot (mB (mCall 2 (iso m__law_truly) (mCons (mCall 1 (iso m_is_signs) (mCons (vr 4) mNil)) (mCons (mCall 1 (iso m__law_is_signs) (mCons (vr 4) mNil)) mNil))))) (sRet (cst (.bl false))) sNx)
  (sAsg (mCall 2 (m__law_spoilt 6) (mCons (vr 2) (mCons (mIf (mB (m2 dEq (m2 dMod (vr 5) (cst (.int 2))) (cst (.int 0)))) (vr 8) (vr 4)) mNil))) (gNm 4)))
theorem sp_loop {n t b : Nat} {s : List Nat} {st : Store} {d0 : D} {o1 o3 o5 o6 o7 o10 o11 o12 o13 : Option D} (v : VatAt n st) (hs : s.length ≤ 5) (h2 : s.all sgnB = true) : WS (sSp [some d0, o1, some (.cel n), o3, some (.str s), o5, o6, o7, some (.str s), some (frD (t, b)), o10, o11, o12, o13] st) (fun ρ st' => ∃ o4 o5, ρ = [some d0, o1, some (.cel n), o3, o4, o5, o6, o7, some (.str s), some (frD (t, b)), o10, o11, o12, o13] ∧ Sm n st st') F0 := by
  have c0 : c128 s = true := by
    unfold c128
    rw [List.all_eq_true] at *
    intro c h
    have := h2 c h
    unfold sgnB at this
    rcases Bool.or_eq_true_iff.mp this with q | q <;> rw [of_decide_eq_true q] <;> rfl
  and_intros
  refine ⟨by decide, ?_⟩
  have er : rngL 0 (6 : Int).toNat = [.int 0, .int 1, .int 2, .int 3, .int 4, .int 5] := by decide +kernel
  rw [er]
  -- what holds ahead of a turn: a turn with an odd number meets a value that came of the signs
  let I : List D → Env' → Store → Prop := fun xs ρ st' => ∃ d4 o5, ρ = [some d0, o1, some (.cel n), o3, some d4, o5, o6, o7, some (.str s), some (frD (t, b)), o10, o11, o12, o13] ∧ Sm n st st' ∧ V2 d4 ∧
    ((xs = [] ∨ ∃ (j : Nat) (r : List D), xs = .int j :: r ∧ (j % 2 = 1 → V1 d4)) ∧ (xs = [.int 0, .int 1, .int 2, .int 3, .int 4, .int 5] ∨ xs = [.int 1, .int 2, .int 3, .int 4, .int 5] ∨ xs = [.int 2, .int 3, .int 4, .int 5] ∨ xs = [.int 3, .int 4, .int 5] ∨ xs = [.int 4, .int 5] ∨ xs = [.int 5] ∨ xs = []))
  refine ws_forI I ⟨.str s, o5, rfl, Sm.refl v, .v1 (.str (by omega) c0), .inr ⟨0, _, rfl, fun h => by omega⟩, .inl rfl⟩ ?_ ?_
  · rintro x xs ρ st' ⟨d4, o5', rfl, sm, hv2, hj, hx⟩
    obtain ⟨j, r, e, h1⟩ : ∃ (j : Nat) (r : List D), x :: xs = .int j :: r ∧ (j % 2 = 1 → V1 d4) := by
      rcases hj with h | h
      · cases h
      · exact h
    injection e with e1 e2
    subst e1 e2
    and_intros
    have hno := vl_no hv2.vl
    refine ⟨hno, ?_⟩
    rw [wm_is (sp_is_signs hv2.vl)]
    and_intros
    refine ⟨hno, ?_⟩
    rw [wm_is (sp__law_is_signs hv2.vl)]
    and_intros
    rw [wm_is sp__law_truly]
    and_intros
    rw [show (isGood d4 == isGood d4) = true from by simp]
    and_intros
    -- the next value
    have nx : ∀ (d : D) (j : Nat) (xs : List D) (st2 : Store), Sm n st' st2 → V2 d → ((D.int j :: xs) = [.int 0, .int 1, .int 2, .int 3, .int 4, .int 5] ∨ (D.int j :: xs) = [.int 1, .int 2, .int 3, .int 4, .int 5] ∨ (D.int j :: xs) = [.int 2, .int 3, .int 4, .int 5] ∨ (D.int j :: xs) = [.int 3, .int 4, .int 5] ∨ (D.int j :: xs) = [.int 4, .int 5] ∨ (D.int j :: xs) = [.int 5] ∨ (D.int j :: xs) = []) → (j % 2 = 0 → V1 d) → I xs [some d0, o1, some (.cel n), o3, some d, some (.int j), o6, o7, some (.str s), some (frD (t, b)), o10, o11, o12, o13] st2 := fun d j xs st2 s2 hd hx hv => by
      have fin : ∀ (i : Nat) (r : List D), (D.int j = D.int i) → xs = r → (r = [] ∨ ∃ r', r = .int ((i + 1 : Nat) : Int) :: r') → (xs = [] ∨ ∃ (k : Nat) (r : List D), xs = .int k :: r ∧ (k % 2 = 1 → V1 d)) := fun i r e1 e2 h => by
        have ej : j = i := by injection e1 with e; omega
        subst ej e2
        rcases h with rfl | ⟨r', rfl⟩
        · exact .inl rfl
        · exact .inr ⟨j + 1, r', rfl, fun h => hv (by omega)⟩
      refine ⟨d, _, rfl, sm.trans s2, hd, ?_, ?_⟩
      · rcases hx with h | h | h | h | h | h | h
        · injection h with a b; exact fin 0 _ a b (.inr ⟨_, rfl⟩)
        · injection h with a b; exact fin 1 _ a b (.inr ⟨_, rfl⟩)
        · injection h with a b; exact fin 2 _ a b (.inr ⟨_, rfl⟩)
        · injection h with a b; exact fin 3 _ a b (.inr ⟨_, rfl⟩)
        · injection h with a b; exact fin 4 _ a b (.inr ⟨_, rfl⟩)
        · injection h with a b; exact fin 5 _ a b (.inl rfl)
        · cases h
      · rcases hx with h | h | h | h | h | h | h
        · injection h with a b; exact .inr (.inl b)
        · injection h with a b; exact .inr (.inr (.inl b))
        · injection h with a b; exact .inr (.inr (.inr (.inl b)))
        · injection h with a b; exact .inr (.inr (.inr (.inr (.inl b))))
        · injection h with a b; exact .inr (.inr (.inr (.inr (.inr (.inl b)))))
        · injection h with a b; exact .inr (.inr (.inr (.inr (.inr (.inr b)))))
        · cases h
    refine ⟨by decide, ?_⟩
    by_cases hp : j % 2 = 0
    · rw [if_pos (by rw [decide_eq_true_eq]; omega)]
      refine (spoilt1 (k := 5) sm.vat hs h2).imp fun d st2 ⟨q, s2⟩ => ?_
      rw [wm_gNm]
      exact nx d j _ st2 s2 (.v1 q) hx fun _ => q
    · rw [if_neg (by rw [decide_eq_true_eq]; omega)]
      refine (spoilt2 (k := 5) sm.vat (h1 (by omega))).imp fun d st2 ⟨q, s2⟩ => ?_
      rw [wm_gNm]
      exact nx d j _ st2 s2 q hx fun h => absurd h hp
  · rintro ρ st' ⟨d4, o5', rfl, sm, _⟩
    exact ⟨some d4, o5', rfl, sm⟩
/-- the checks of one turn, behind the spoilt values -/
theorem turn_rest {n t b : Nat} {s : List Nat} {st : Store} {d0 : D} {o1 o3 o4 o5 o6 o7 o10 o11 o12 o13 : Option D} (v : VatAt n st) (hs : s.length ≤ 5) (h2 : s.all sgnB = true) (c : Ch t b) :
    WS ((sSeq (sIf (mOr (mB (m2 dNe (mCall 2 (iso m_loss) (mCons (vr 8) (mCons (vr 9) mNil))) (mCall 2 (iso m__law_loss) (mCons (vr 8) (mCons (vr 9) mNil))))) (mB (m2 dNe (mCall 1 (iso m_polynomial) (mCons (vr 8) mNil)) (mCall 1 (iso m__law_poly) (mCons (vr 8) mNil))))) (sRet (cst (.bl false))) sNx)
  (sSeq (sAsg (mFn (f1 dLen) (mCons (vr 8) mNil)) (gNm 6))
  (sSeq (sAsg (mMeth kLst dIndex (mCall 1 (iso m__law_every) (mCons (vr 6) mNil)) (mCons (vr 8) mNil)) (gNm 7))
  (sSeq (sIf (mOr (mB (m2 dNe (mCall 1 (iso m_number_of) (mCons (vr 8) mNil)) (vr 7))) (mB (m2 dNe (mCall 2 (iso m_signs_of) (mCons (vr 6) (mCons (vr 7) mNil))) (vr 8)))) (sRet (cst (.bl false))) sNx)
  (sSeq (sIf (mB (m2 dNe (mCall 2 (iso m_losses) (mCons (vr 6) (mCons (vr 9) mNil))) (mComp [12] (.nm 12) (mIt (mCall 1 (iso m__law_every) (mCons (vr 6) mNil))) yes (mCall 2 (iso m__law_loss) (mCons (vr 12) (mCons (vr 9) mNil)))))) (sRet (cst (.bl false))) sNx)
  (sSeq (sAsg (mTup (mCons (cst (.int 0)) (mCons (cst (.int 1)) mNil))) (gTp [(gNm 10), (gNm 11)]))
  (sSeq sSum
  (sIf (mOr (mB (m2 dNe (m2 dMulX (vr 10) (m2 dIx (vr 9) (cst (.int 1)))) (m2 dMulX (m2 dMulX (m2 dIx (vr 9) (cst (.int 0))) (m2 dShl (cst (.int 1)) (vr 6))) (vr 11)))) (mNot (mB (mCall 3 m__law_bounds (mCons (vr 2) (mCons (vr 6) (mCons (vr 9) mNil))))))) (sRet (cst (.bl false))) sNx)))))))) [some d0, o1, some (.cel n), o3, o4, o5, o6, o7, some (.str s), some (frD (t, b)), o10, o11, o12, o13] st)
    (fun ρ st' => Sm n st st' ∧ ∃ o3 o4 o5 o6 o7 o8 o9 o10 o11 o12 o13, ρ = [some d0, o1, some (.cel n), o3, o4, o5, o6, o7, o8, o9, o10, o11, o12, o13]) F0 := by
  obtain ⟨pa, pb, e1, e2, e3, e4, e5⟩ := poly_of hs h2
  obtain ⟨k, k1, k2, k3⟩ := num_of hs h2
  have hlim : s.length ≤ LIM := by unfold LIM; omega
  refine ws_cut (fun ρ st1 => st = st1 ∧ ρ = [some d0, o1, some (.cel n), o3, o4, o5, o6, o7, some (.str s), some (frD (t, b)), o10, o11, o12, o13]) ?_ ?_
  · and_intros
    rw [wm_is (sp_loss hs h2 c)]
    and_intros
    rw [wm_is (sp_lawloss hs c)]
    and_intros
    rw [wm_ne (by rfl) (by rfl), show D.eqv (frD (lossN s t b)) (frD (lossN s t b)) = true from by simp [D.eqv, D.eqvL]]
    and_intros
    rw [e1]
    and_intros
    rw [e2]
    and_intros
    rw [wm_ne e3 e4, e5]
    and_intros
  rintro _ _ ⟨rfl, rfl⟩
  refine ws_cut (fun ρ st1 => st = st1 ∧ ρ = [some d0, o1, some (.cel n), o3, o4, o5, some (.int s.length), o7, some (.str s), some (frD (t, b)), o10, o11, o12, o13]) ?_ ?_
  · and_intros
    exact hlim
  rintro _ _ ⟨rfl, rfl⟩
  refine ws_cut (fun ρ st1 => st = st1 ∧ ρ = [some d0, o1, some (.cel n), o3, o4, o5, some (.int s.length), some (.int k), some (.str s), some (frD (t, b)), o10, o11, o12, o13]) ?_ ?_
  · and_intros
    rw [wm_is (sp__law_every hs rfl)]
    and_intros
    rw [((pu_dIndex _ _).ok _ _ k1).2 st v.nh]
    and_intros
  rintro _ _ ⟨rfl, rfl⟩
  refine ws_cut (fun ρ st1 => st = st1 ∧ ρ = [some d0, o1, some (.cel n), o3, o4, o5, some (.int s.length), some (.int k), some (.str s), some (frD (t, b)), o10, o11, o12, o13]) ?_ ?_
  · and_intros
    rw [k2]
    and_intros
    rw [k3]
    and_intros
  rintro _ _ ⟨rfl, rfl⟩
  refine ws_cut (fun ρ st1 => st = st1 ∧ ρ = [some d0, o1, some (.cel n), o3, o4, o5, some (.int s.length), some (.int k), some (.str s), some (frD (t, b)), o10, o11, o12, o13]) ?_ ?_
  · and_intros
    rw [wm_is (sp_losses hs c)]
    and_intros
    rw [wm_is (sp__law_every hs rfl)]
    and_intros
    have h32 : 2 ^ s.length ≤ 2 ^ 5 := Nat.pow_le_pow_right (by decide) hs
    refine ⟨by rw [List.length_map, every_len]; unfold LIM; omega, ?_⟩
    refine wm_cmpM (fun x => match x with
      | .str s => frD (lossN s t b)
      | _ => .non) (fun x hx => ?_) ?_
    · obtain ⟨s', hs', rfl⟩ := List.mem_map.mp hx
      obtain ⟨h3, h4⟩ := every_mem hs'
      show WM (gNm 12 (.str s') [some d0, o1, some (.cel n), o3, o4, o5, some (.int s.length), some (.int k), some (.str s), some (frD (t, b)), o10, o11, none, o13] st) _
      and_intros
      rw [wm_is (sp_lawloss (by omega) c)]
      and_intros
    · have erow : ((every s.length).map D.str).map (fun x => match x with
          | .str s => frD (lossN s t b)
          | _ => .non) = ((every s.length).map fun s => lossN s t b).map frD := by rw [List.map_map, List.map_map]; rfl
      have erow2 : ((every s.length).map fun s => frD (lossN s t b)) = ((every s.length).map fun s => lossN s t b).map frD := by rw [List.map_map]; rfl
      rw [erow, erow2]
      have hd : D.dp 60 (.lst (((every s.length).map fun s => lossN s t b).map frD)) = true := by
        show D.dpL 59 _ = true
        exact dpL_fr _
      rw [wm_ne hd hd, show D.eqv (.lst (((every s.length).map fun s => lossN s t b).map frD)) (.lst (((every s.length).map fun s => lossN s t b).map frD)) = true from by rw [D.eqv]; exact eqL_fr _]
      and_intros
  rintro _ _ ⟨rfl, rfl⟩
  refine ws_cut (fun ρ st1 => st = st1 ∧ ρ = [some d0, o1, some (.cel n), o3, o4, o5, some (.int s.length), some (.int k), some (.str s), some (frD (t, b)), some (.int 0), some (.int 1), o12, o13]) ?_ ?_
  · and_intros
    decide
  rintro _ _ ⟨rfl, rfl⟩
  refine ws_cut (fun ρ st1 => st = st1 ∧ ∃ o12 o13 k', (sumF ((every s.length).map fun s => lossN s t b) (0, 1)).1 < 2 ^ k' ∧ (sumF ((every s.length).map fun s => lossN s t b) (0, 1)).2 < 2 ^ k' ∧ k' < 20000 ∧ ρ = [some d0, o1, some (.cel n), o3, o4, o5, some (.int s.length), some (.int k), some (.str s), some (frD (t, b)), some (.int (sumF ((every s.length).map fun s => lossN s t b) (0, 1)).1), some (.int (sumF ((every s.length).map fun s => lossN s t b) (0, 1)).2), o12, o13]) ?_ ?_
  · and_intros
    rw [wm_is (sp_losses hs c)]
    and_intros
    have erow2 : ((every s.length).map fun s => frD (lossN s t b)) = ((every s.length).map fun s => lossN s t b).map frD := by rw [List.map_map]; rfl
    rw [erow2]
    have h32 : 2 ^ s.length ≤ 2 ^ 5 := Nat.pow_le_pow_right (by decide) hs
    refine sum_loop (j := 10 * 2 ^ s.length) (by omega) _ (0, 1) 1 _ _ (by decide) (by decide) (fun x hx => ?_) (by rw [List.length_map, every_len]; omega) fun o12 o13 k' h1 h2 h3 => ⟨rfl, o12, o13, k', h1, h2, h3, rfl⟩
    obtain ⟨s', hs', rfl⟩ := List.mem_map.mp hx
    obtain ⟨h3, h4⟩ := every_mem hs'
    have f := fr_loss c (s := s') (by omega)
    rw [h3] at f
    exact ⟨f.le, f.lt⟩
  rintro _ _ ⟨rfl, o12, o13, k', q1, q2, q3, rfl⟩
  have es := sum_all c s.length
  generalize sumF ((every s.length).map fun s => lossN s t b) (0, 1) = q at q1 q2 es ⊢
  have h32 : 2 ^ s.length ≤ 2 ^ 5 := Nat.pow_le_pow_right (by decide) hs
  have hb := c.lt
  have ht := c.le
  and_intros
  have e2 : (1 : Int) * 2 ^ ((s.length : Int)).toNat = ((2 ^ s.length : Nat) : Int) := by simp
  rw [e2]
  have hp : powOk 1 (s.length : Int) = true := by
    unfold powOk
    simp
    omega
  have e3 : (t : Int) * ((2 ^ s.length : Nat) : Int) * (q.2 : Int) = ((t * 2 ^ s.length * q.2 : Nat) : Int) := by simp
  have e4 : (q.1 : Int) * (b : Int) = ((q.1 * b : Nat) : Int) := by simp
  rw [e3, e4, es]
  have hm : t * 2 ^ s.length < 2 ^ 64 := by
    have : t * 2 ^ s.length ≤ 1000 * 2 ^ 5 := Nat.mul_le_mul (by omega) h32
    omega
  refine ⟨mulok2 (by omega), hp, mulok1 (by omega), ?_, ?_⟩
  · rw [← Int.natCast_mul]
    exact mulok1 (by rw [Int.natAbs_natCast]; exact hm)
  · rw [show (!decide (((t * 2 ^ s.length * q.2 : Nat) : Int) = ((t * 2 ^ s.length * q.2 : Nat) : Int))) = false from by simp]
    and_intros
    refine (sp__law_bounds v hs c).imp fun d st1 ⟨e, sm⟩ => ?_
    subst e
    and_intros
    exact ⟨sm, _, _, _, _, _, _, _, _, _, _, _, rfl⟩
end K01

namespace K01
open DL MM
/-- one turn of the inner loop -/
theorem turn {n : Nat} {st : Store} {d0 : D} {o1 o3 o4 o5 o6 o7 o8 o9 o10 o11 o12 o13 : Option D} (v : VatAt n st) :
    WS ((sSeq (sAsg (mTup (mCons (mCall 2 m__law_signs (mCons (vr 2) (mCons (cst (.int 5)) mNil))) (mCons (mCall 1 m__law_chance (mCons (vr 2) mNil)) mNil))) (gTp [(gNm 8), (gNm 9)]))
  (sSeq (sAsg (vr 8) (gNm 4))
  (sSeq sSp
  (sSeq (sIf (mOr (mB (m2 dNe (mCall 2 (iso m_loss) (mCons (vr 8) (mCons (vr 9) mNil))) (mCall 2 (iso m__law_loss) (mCons (vr 8) (mCons (vr 9) mNil))))) (mB (m2 dNe (mCall 1 (iso m_polynomial) (mCons (vr 8) mNil)) (mCall 1 (iso m__law_poly) (mCons (vr 8) mNil))))) (sRet (cst (.bl false))) sNx)
  (sSeq (sAsg (mFn (f1 dLen) (mCons (vr 8) mNil)) (gNm 6))
  (sSeq (sAsg (mMeth kLst dIndex (mCall 1 (iso m__law_every) (mCons (vr 6) mNil)) (mCons (vr 8) mNil)) (gNm 7))
  (sSeq (sIf (mOr (mB (m2 dNe (mCall 1 (iso m_number_of) (mCons (vr 8) mNil)) (vr 7))) (mB (m2 dNe (mCall 2 (iso m_signs_of) (mCons (vr 6) (mCons (vr 7) mNil))) (vr 8)))) (sRet (cst (.bl false))) sNx)
  (sSeq (sIf (mB (m2 dNe (mCall 2 (iso m_losses) (mCons (vr 6) (mCons (vr 9) mNil))) (mComp [12] (.nm 12) (mIt (mCall 1 (iso m__law_every) (mCons (vr 6) mNil))) yes (mCall 2 (iso m__law_loss) (mCons (vr 12) (mCons (vr 9) mNil)))))) (sRet (cst (.bl false))) sNx)
  (sSeq (sAsg (mTup (mCons (cst (.int 0)) (mCons (cst (.int 1)) mNil))) (gTp [(gNm 10), (gNm 11)]))
  (sSeq sSum
  (sIf (mOr (mB (m2 dNe (m2 dMulX (vr 10) (m2 dIx (vr 9) (cst (.int 1)))) (m2 dMulX (m2 dMulX (m2 dIx (vr 9) (cst (.int 0))) (m2 dShl (cst (.int 1)) (vr 6))) (vr 11)))) (mNot (mB (mCall 3 m__law_bounds (mCons (vr 2) (mCons (vr 6) (mCons (vr 9) mNil))))))) (sRet (cst (.bl false))) sNx))))))))))) [some d0, o1, some (.cel n), o3, o4, o5, o6, o7, o8, o9, o10, o11, o12, o13] st)
    (fun ρ st' => Sm n st st' ∧ ∃ o3 o4 o5 o6 o7 o8 o9 o10 o11 o12 o13, ρ = [some d0, o1, some (.cel n), o3, o4, o5, o6, o7, o8, o9, o10, o11, o12, o13]) F0 := by
  refine ws_cut (fun ρ st1 => ∃ (s : List Nat) (t b : Nat), s.length ≤ 5 ∧ s.all sgnB = true ∧ Ch t b ∧ Sm n st st1 ∧ ρ = [some d0, o1, some (.cel n), o3, o4, o5, o6, o7, some (.str s), some (frD (t, b)), o10, o11, o12, o13]) ?_ ?_
  · and_intros
    refine (sp__law_signs (most := 5) v (by decide)).imp fun d st1 ⟨⟨s, e, h1, h2⟩, s1⟩ => ?_
    subst e
    and_intros
    refine (sp__law_chance s1.vat).imp fun d st2 ⟨⟨t, b, e, c⟩, s2⟩ => ?_
    subst e
    and_intros
    exact ⟨by decide, s, t, b, h1, h2, c, s1.trans s2, rfl⟩
  rintro _ st1 ⟨s, t, b, h1, h2, c, s1, rfl⟩
  refine ws_cut (fun ρ st2 => st1 = st2 ∧ ρ = [some d0, o1, some (.cel n), o3, some (.str s), o5, o6, o7, some (.str s), some (frD (t, b)), o10, o11, o12, o13]) ?_ ?_
  · and_intros
  rintro _ _ ⟨rfl, rfl⟩
  refine ws_cut _ (sp_loop s1.vat h1 h2) ?_
  rintro _ st2 ⟨o4', o5', rfl, s2⟩
  refine (turn_rest s2.vat h1 h2 c).imp (fun ρ st3 ⟨s3, q⟩ => ⟨(s1.trans s2).trans s3, q⟩) fun _ _ h => h
theorem lawW (ns : List Int) (d : D) (hl : ns.length ≤ 63) (hd : d = D.scr (ns.map D.int) ∨ d = D.lst (ns.map D.int)) : WS (b_law ([d].map some ++ List.replicate (14 - 1) none) []) (fun _ _ => False) (fun r _ => r = .bl true) := by
  unfold b_law
  refine ws_cut (fun ρ st => nhS st = true ∧ ∃ o1 o2 o3 o4 o5 o6 o7 o8 o9 o10 o11 o12 o13, ρ = [some d, o1, o2, o3, o4, o5, o6, o7, o8, o9, o10, o11, o12, o13]) ?_ ?_
  · have hlen : ∀ st, WM (dLen d st) (fun z s => z = .int ns.length ∧ s = st) := fun st => by
      rcases hd with rfl | rfl
      · rw [wm_lenC]; exact ⟨by simp, rfl⟩
      · rw [wm_lenL]; exact ⟨by simp, rfl⟩
    and_intros
    refine (hlen []).imp fun z s ⟨e1, e2⟩ => ?_
    subst e1 e2
    and_intros
    have hr : 0 ≤ (if (if (ns.length : Int) < 11 then (ns.length : Int) else 11) > 5 then (if (ns.length : Int) < 11 then (ns.length : Int) else 11) else 5) ∧ (if (if (ns.length : Int) < 11 then (ns.length : Int) else 11) > 5 then (if (ns.length : Int) < 11 then (ns.length : Int) else 11) else 5) ≤ 11 := by
      split <;> split <;> omega
    generalize (if (if (ns.length : Int) < 11 then (ns.length : Int) else 11) > 5 then (if (ns.length : Int) < 11 then (ns.length : Int) else 11) else 5) = r at hr ⊢
    refine ⟨by unfold rOk; simp; omega, ?_⟩
    refine ws_forI (fun xs ρ st => (∀ x ∈ xs, ∃ k : Nat, x = .int k ∧ k < 1000) ∧ nhS st = true ∧ ∃ o1 o2 o3 o4 o5 o6 o7 o8 o9 o10 o11 o12 o13, ρ = [some d, o1, o2, o3, o4, o5, o6, o7, o8, o9, o10, o11, o12, o13]) ⟨fun x hx => ?_, rfl, _, _, _, _, _, _, _, _, _, _, _, _, _, rfl⟩ ?_ fun ρ st ⟨_, h2, h3⟩ => ⟨h2, h3⟩
    · obtain ⟨k, hk, rfl⟩ := List.mem_map.mp (show x ∈ (List.range r.toNat).map fun i => D.int (0 + (i : Nat)) from hx)
      have := List.mem_range.mp hk
      exact ⟨k, by rw [Int.zero_add], by omega⟩
    rintro x xs ρ st ⟨hx, hn, o1, o2, o3, o4, o5, o6, o7, o8, o9, o10, o11, o12, o13, rfl⟩
    obtain ⟨k, rfl, hk⟩ := hx x List.mem_cons_self
    rw [wm_gNm]
    refine ws_cut (fun ρ st1 => VatAt st.length st1 ∧ ρ = [some d, some (.int k), some (.cel st.length), o3, o4, o5, o6, o7, o8, o9, o10, o11, o12, o13]) ?_ ?_
    · and_intros
      refine (sp_vat hd hk hn).imp fun z st1 ⟨e, v, _⟩ => ?_
      subst e
      and_intros
      exact v
    rintro _ st1 ⟨v, rfl⟩
    and_intros
    refine ⟨by decide, ?_⟩
    refine ws_forI (fun _ ρ st2 => VatAt st.length st2 ∧ ∃ o3 o4 o5 o6 o7 o8 o9 o10 o11 o12 o13, ρ = [some d, some (.int k), some (.cel st.length), o3, o4, o5, o6, o7, o8, o9, o10, o11, o12, o13]) ⟨v, _, _, _, _, _, _, _, _, _, _, _, rfl⟩ ?_ ?_
    · rintro y ys ρ st2 ⟨v2, o3, o4, o5, o6, o7, o8, o9, o10, o11, o12, o13, rfl⟩
      rw [wm_gNm]
      refine (turn v2).imp (fun ρ st3 ⟨s, q⟩ => ⟨s.vat, q⟩) fun _ _ h => h.elim
    · rintro ρ st2 ⟨v2, o3, o4, o5, o6, o7, o8, o9, o10, o11, o12, o13, rfl⟩
      exact ⟨fun x h => hx x (List.mem_cons_of_mem _ h), v2.nh, _, _, _, _, _, _, _, _, _, _, _, _, _, rfl⟩
  · rintro ρ st ⟨_, o1, o2, o3, o4, o5, o6, o7, o8, o9, o10, o11, o12, o13, rfl⟩
    and_intros
    rw [refused_ok]
    and_intros
    rw [written_ok]
    and_intros
theorem lawT (ns : List Int) (d : D) (hl : ns.length ≤ 63) (hd : d = D.scr (ns.map D.int) ∨ d = D.lst (ns.map D.int)) : ∃ st', m_law [d] [] = .ok (.bl true) st' := law_end (lawW ns d hl hd)
end K01

namespace K01
open PySem PySem.Spec PyProof.Rows L2 DL MM
/-! ### the head -/
def fnL0 : List He.DefD := [⟨("common_of", none), "common_of", "common_of", L2.defArgs (K01.topS 23), L2.defBody (K01.topS 23), L2.defScope (K01.topS 23), [], []⟩, ⟨("is_whole", none), "is_whole", "is_whole", L2.defArgs (K01.topS 24), L2.defBody (K01.topS 24), L2.defScope (K01.topS 24), [], []⟩, ⟨("is_part", none), "is_part", "is_part", L2.defArgs (K01.topS 25), L2.defBody (K01.topS 25), L2.defScope (K01.topS 25), [], []⟩, ⟨("is_good", none), "is_good", "is_good", L2.defArgs (K01.topS 26), L2.defBody (K01.topS 26), L2.defScope (K01.topS 26), [], []⟩, ⟨("need_signs", none), "need_signs", "need_signs", L2.defArgs (K01.topS 27), L2.defBody (K01.topS 27), L2.defScope (K01.topS 27), [], []⟩, ⟨("need_chance", none), "need_chance", "need_chance", L2.defArgs (K01.topS 28), L2.defBody (K01.topS 28), L2.defScope (K01.topS 28), [], []⟩, ⟨("need_steps", none), "need_steps", "need_steps", L2.defArgs (K01.topS 29), L2.defBody (K01.topS 29), L2.defScope (K01.topS 29), [], []⟩, ⟨("made_loss", none), "made_loss", "made_loss", L2.defArgs (K01.topS 30), L2.defBody (K01.topS 30), L2.defScope (K01.topS 30), [], []⟩, ⟨("joined", none), "joined", "joined", L2.defArgs (K01.topS 31), L2.defBody (K01.topS 31), L2.defScope (K01.topS 31), [], []⟩, ⟨("made_polynomial", none), "made_polynomial", "made_polynomial", L2.defArgs (K01.topS 32), L2.defBody (K01.topS 32), L2.defScope (K01.topS 32), [], []⟩, ⟨("number_by", none), "number_by", "number_by", L2.defArgs (K01.topS 33), L2.defBody (K01.topS 33), L2.defScope (K01.topS 33), [], []⟩, ⟨("signs_by", none), "signs_by", "signs_by", L2.defArgs (K01.topS 34), L2.defBody (K01.topS 34), L2.defScope (K01.topS 34), [], []⟩, ⟨("all_signs", none), "all_signs", "all_signs", L2.defArgs (K01.topS 35), L2.defBody (K01.topS 35), L2.defScope (K01.topS 35), [], []⟩, ⟨("is_within", none), "is_within", "is_within", L2.defArgs (K01.topS 36), L2.defBody (K01.topS 36), L2.defScope (K01.topS 36), [], []⟩, ⟨("is_signs", none), "is_signs", "is_signs", L2.defArgs (K01.topS 37), L2.defBody (K01.topS 37), L2.defScope (K01.topS 37), [], []⟩, ⟨("loss", none), "loss", "loss", L2.defArgs (K01.topS 38), L2.defBody (K01.topS 38), L2.defScope (K01.topS 38), [], []⟩, ⟨("polynomial", none), "polynomial", "polynomial", L2.defArgs (K01.topS 39), L2.defBody (K01.topS 39), L2.defScope (K01.topS 39), [], []⟩, ⟨("number_of", none), "number_of", "number_of", L2.defArgs (K01.topS 40), L2.defBody (K01.topS 40), L2.defScope (K01.topS 40), [], []⟩, ⟨("signs_of", none), "signs_of", "signs_of", L2.defArgs (K01.topS 41), L2.defBody (K01.topS 41), L2.defScope (K01.topS 41), [], []⟩, ⟨("losses", none), "losses", "losses", L2.defArgs (K01.topS 42), L2.defBody (K01.topS 42), L2.defScope (K01.topS 42), [], []⟩, ⟨("count_between", none), "count_between", "count_between", L2.defArgs (K01.topS 43), L2.defBody (K01.topS 43), L2.defScope (K01.topS 43), [], []⟩, ⟨("_law_vat", none), "_law_vat", "_law_vat", L2.defArgs (K01.topS 45), L2.defBody (K01.topS 45), L2.defScope (K01.topS 45), [], []⟩, ⟨("_law_under", none), "_law_under", "_law_under", L2.defArgs (K01.topS 46), L2.defBody (K01.topS 46), L2.defScope (K01.topS 46), [], []⟩, ⟨("_law_some", none), "_law_some", "_law_some", L2.defArgs (K01.topS 47), L2.defBody (K01.topS 47), L2.defScope (K01.topS 47), [], []⟩, ⟨("_law_truly", none), "_law_truly", "_law_truly", L2.defArgs (K01.topS 48), L2.defBody (K01.topS 48), L2.defScope (K01.topS 48), [], []⟩, ⟨("_law_gcd", none), "_law_gcd", "_law_gcd", L2.defArgs (K01.topS 49), L2.defBody (K01.topS 49), L2.defScope (K01.topS 49), [], []⟩, ⟨("_law_low", none), "_law_low", "_law_low", L2.defArgs (K01.topS 50), L2.defBody (K01.topS 50), L2.defScope (K01.topS 50), [], []⟩, ⟨("_law_is_signs", none), "_law_is_signs", "_law_is_signs", L2.defArgs (K01.topS 51), L2.defBody (K01.topS 51), L2.defScope (K01.topS 51), [], []⟩, ⟨("_law_loss", none), "_law_loss", "_law_loss", L2.defArgs (K01.topS 52), L2.defBody (K01.topS 52), L2.defScope (K01.topS 52), [], []⟩, ⟨("_law_less", none), "_law_less", "_law_less", L2.defArgs (K01.topS 53), L2.defBody (K01.topS 53), L2.defScope (K01.topS 53), [], []⟩]
def fnL1 : List He.DefD := [⟨("_law_every", none), "_law_every", "_law_every", L2.defArgs (K01.topS 54), L2.defBody (K01.topS 54), L2.defScope (K01.topS 54), [], []⟩, ⟨("_law_chance", none), "_law_chance", "_law_chance", L2.defArgs (K01.topS 55), L2.defBody (K01.topS 55), L2.defScope (K01.topS 55), [], []⟩, ⟨("_law_signs", none), "_law_signs", "_law_signs", L2.defArgs (K01.topS 56), L2.defBody (K01.topS 56), L2.defScope (K01.topS 56), [], []⟩, ⟨("_law_spoilt", none), "_law_spoilt", "_law_spoilt", L2.defArgs (K01.topS 57), L2.defBody (K01.topS 57), L2.defScope (K01.topS 57), [], []⟩, ⟨("_law_names", none), "_law_names", "_law_names", L2.defArgs (K01.topS 58), L2.defBody (K01.topS 58), L2.defScope (K01.topS 58), [], []⟩, ⟨("_law_error", none), "_law_error", "_law_error", L2.defArgs (K01.topS 59), L2.defBody (K01.topS 59), L2.defScope (K01.topS 59), [], []⟩, ⟨("_law_all_refused", none), "_law_all_refused", "_law_all_refused", L2.defArgs (K01.topS 60), L2.defBody (K01.topS 60), L2.defScope (K01.topS 60), [], []⟩, ⟨("_law_bad_signs", none), "_law_bad_signs", "_law_bad_signs", L2.defArgs (K01.topS 61), L2.defBody (K01.topS 61), L2.defScope (K01.topS 61), [], []⟩, ⟨("_law_bad_chances", none), "_law_bad_chances", "_law_bad_chances", L2.defArgs (K01.topS 62), L2.defBody (K01.topS 62), L2.defScope (K01.topS 62), [], []⟩, ⟨("_law_poly", none), "_law_poly", "_law_poly", L2.defArgs (K01.topS 63), L2.defBody (K01.topS 63), L2.defScope (K01.topS 63), [], []⟩, ⟨("_law_bounds", none), "_law_bounds", "_law_bounds", L2.defArgs (K01.topS 64), L2.defBody (K01.topS 64), L2.defScope (K01.topS 64), [], []⟩, ⟨("_law_refused", none), "_law_refused", "_law_refused", L2.defArgs (K01.topS 65), L2.defBody (K01.topS 65), L2.defScope (K01.topS 65), [], []⟩, ⟨("_law_written", none), "_law_written", "_law_written", L2.defArgs (K01.topS 66), L2.defBody (K01.topS 66), L2.defScope (K01.topS 66), [], []⟩, ⟨("law", none), "law", "law", L2.defArgs (K01.topS 67), L2.defBody (K01.topS 67), L2.defScope (K01.topS 67), [], []⟩]
def fnL : List He.DefD := fnL0 ++ fnL1
def faL0 : List He.Fa := [.glo "common_of", .glo "is_whole", .glo "is_part", .glo "is_good", .glo "need_signs", .glo "need_chance", .glo "need_steps", .glo "made_loss", .glo "joined", .glo "made_polynomial", .glo "number_by", .glo "signs_by", .glo "all_signs", .glo "is_within", .glo "is_signs", .glo "loss", .glo "polynomial", .glo "number_of", .glo "signs_of", .glo "losses", .glo "count_between", .glo "_law_vat", .glo "_law_under", .glo "_law_some", .glo "_law_truly", .glo "_law_gcd", .glo "_law_low", .glo "_law_is_signs", .glo "_law_loss", .glo "_law_less"]
def faL1 : List He.Fa := [.glo "_law_every", .glo "_law_chance", .glo "_law_signs", .glo "_law_spoilt", .glo "_law_names", .glo "_law_error", .glo "_law_all_refused", .glo "_law_bad_signs", .glo "_law_bad_chances", .glo "_law_poly", .glo "_law_bounds", .glo "_law_refused", .glo "_law_written", .glo "law", .glo "SplitError", .glo "TooMany", .glo "InvalidSigns", .glo "InvalidChance", .glo "InvalidNumber", .glo "InvalidCode", .glo "InvalidData", .glo "InvalidSeen", .glo "InvalidLost", .glo "InvalidTable", .glo "InvalidFacts", .glo "InvalidShare", .glo "InvalidPlace", .glo "InvalidSign", .glo "InvalidText", .glo "Misfit"]
def faL2 : List He.Fa := [.glo "Unlike", .glo "NothingToUndo", .free "ValueError", .free "abs", .free "all", .free "bool", .free "enumerate", .free "int", .free "isinstance", .free "len", .free "list", .free "max", .free "min", .free "range", .free "str", .free "sum", .free "tuple", .free "zip", .int "MOST_SIGNS" (5), .int "MOST_BELOW" (1000), .int "FAR" (1000000000000000000000000000000), .exc "InvalidSigns", .exc "InvalidChance", .exc "InvalidNumber", .exc "InvalidCode", .exc "InvalidData", .exc "InvalidSeen", .exc "InvalidLost", .exc "InvalidTable", .exc "InvalidFacts"]
def faL3 : List He.Fa := [.exc "InvalidShare", .exc "InvalidPlace", .exc "InvalidSign", .exc "InvalidText", .exc "Misfit", .exc "Unlike", .exc "NothingToUndo", .exm "InvalidSigns" "SplitError" true, .exm "InvalidChance" "SplitError" true, .exm "InvalidNumber" "SplitError" true, .exm "InvalidCode" "SplitError" true, .exm "InvalidData" "SplitError" true, .exm "InvalidSeen" "SplitError" true, .exm "InvalidLost" "SplitError" true, .exm "InvalidTable" "SplitError" true, .exm "InvalidFacts" "SplitError" true, .exm "InvalidShare" "SplitError" true, .exm "InvalidPlace" "SplitError" true, .exm "InvalidSign" "SplitError" true, .exm "InvalidText" "SplitError" true, .exm "Misfit" "SplitError" true, .exm "Unlike" "SplitError" true, .exm "NothingToUndo" "SplitError" true]
def faL : List He.Fa := faL0 ++ faL1 ++ faL2 ++ faL3
def tfL0 : List He.Defn := [("_law_all_refused", none), ("_law_refused", none), ("_law_written", none)]
def tfL : List He.Defn := tfL0
def loose0 : List Str := [("SplitError" : Str), ("InvalidSigns" : Str), ("InvalidChance" : Str), ("InvalidNumber" : Str), ("InvalidCode" : Str), ("InvalidData" : Str), ("InvalidSeen" : Str), ("InvalidLost" : Str), ("InvalidTable" : Str), ("InvalidFacts" : Str), ("InvalidShare" : Str), ("InvalidPlace" : Str), ("InvalidSign" : Str), ("InvalidText" : Str), ("Misfit" : Str), ("Unlike" : Str), ("NothingToUndo" : Str), ("TooMany" : Str), ("MOST_SIGNS" : Str), ("MOST_BELOW" : Str), ("FAR" : Str), ("common_of" : Str), ("is_whole" : Str), ("is_part" : Str), ("is_good" : Str), ("need_signs" : Str), ("need_chance" : Str), ("need_steps" : Str), ("made_loss" : Str), ("joined" : Str)]
def loose1 : List Str := [("made_polynomial" : Str), ("number_by" : Str), ("signs_by" : Str), ("all_signs" : Str), ("is_within" : Str), ("is_signs" : Str), ("loss" : Str), ("polynomial" : Str), ("number_of" : Str), ("signs_of" : Str), ("losses" : Str), ("count_between" : Str), ("_law_vat" : Str), ("_law_under" : Str), ("_law_some" : Str), ("_law_truly" : Str), ("_law_gcd" : Str), ("_law_low" : Str), ("_law_is_signs" : Str), ("_law_loss" : Str), ("_law_less" : Str), ("_law_every" : Str), ("_law_chance" : Str), ("_law_signs" : Str), ("_law_spoilt" : Str), ("_law_names" : Str), ("_law_error" : Str), ("_law_all_refused" : Str), ("_law_bad_signs" : Str), ("_law_bad_chances" : Str)]
def loose2 : List Str := [("_law_poly" : Str), ("_law_bounds" : Str), ("_law_refused" : Str), ("_law_written" : Str)]
def loose : List Str := loose0 ++ loose1 ++ loose2
def exL (K : PySem.W.Frag) : List Bool := [excCB K (He.ga K "InvalidSigns") && decide ([PySem.W.kitOne K (.ref (He.ga K "InvalidSigns")) (.ref (He.ga K "InvalidSigns")), PySem.W.kitOne K (.ref (He.ga K "InvalidSigns")) (.ref (He.ga K "InvalidChance")), PySem.W.kitOne K (.ref (He.ga K "InvalidSigns")) (.ref (He.ga K "InvalidNumber")), PySem.W.kitOne K (.ref (He.ga K "InvalidSigns")) (.ref (He.ga K "InvalidCode")), PySem.W.kitOne K (.ref (He.ga K "InvalidSigns")) (.ref (He.ga K "InvalidData")), PySem.W.kitOne K (.ref (He.ga K "InvalidSigns")) (.ref (He.ga K "InvalidSeen")), PySem.W.kitOne K (.ref (He.ga K "InvalidSigns")) (.ref (He.ga K "InvalidLost")), PySem.W.kitOne K (.ref (He.ga K "InvalidSigns")) (.ref (He.ga K "InvalidTable")), PySem.W.kitOne K (.ref (He.ga K "InvalidSigns")) (.ref (He.ga K "InvalidFacts")), PySem.W.kitOne K (.ref (He.ga K "InvalidSigns")) (.ref (He.ga K "InvalidShare")), PySem.W.kitOne K (.ref (He.ga K "InvalidSigns")) (.ref (He.ga K "InvalidPlace")), PySem.W.kitOne K (.ref (He.ga K "InvalidSigns")) (.ref (He.ga K "InvalidSign")), PySem.W.kitOne K (.ref (He.ga K "InvalidSigns")) (.ref (He.ga K "InvalidText")), PySem.W.kitOne K (.ref (He.ga K "InvalidSigns")) (.ref (He.ga K "Misfit")), PySem.W.kitOne K (.ref (He.ga K "InvalidSigns")) (.ref (He.ga K "Unlike")), PySem.W.kitOne K (.ref (He.ga K "InvalidSigns")) (.ref (He.ga K "NothingToUndo")), PySem.W.kitOne K (.ref (He.ga K "InvalidSigns")) (.ref (He.ga K "TooMany")), PySem.W.kitOne K (.ref (He.ga K "InvalidSigns")) (.type "ValueError")] = [some true, some false, some false, some false, some false, some false, some false, some false, some false, some false, some false, some false, some false, some false, some false, some false, some false, some true]), 
  excCB K (He.ga K "InvalidChance") && decide ([PySem.W.kitOne K (.ref (He.ga K "InvalidChance")) (.ref (He.ga K "InvalidSigns")), PySem.W.kitOne K (.ref (He.ga K "InvalidChance")) (.ref (He.ga K "InvalidChance")), PySem.W.kitOne K (.ref (He.ga K "InvalidChance")) (.ref (He.ga K "InvalidNumber")), PySem.W.kitOne K (.ref (He.ga K "InvalidChance")) (.ref (He.ga K "InvalidCode")), PySem.W.kitOne K (.ref (He.ga K "InvalidChance")) (.ref (He.ga K "InvalidData")), PySem.W.kitOne K (.ref (He.ga K "InvalidChance")) (.ref (He.ga K "InvalidSeen")), PySem.W.kitOne K (.ref (He.ga K "InvalidChance")) (.ref (He.ga K "InvalidLost")), PySem.W.kitOne K (.ref (He.ga K "InvalidChance")) (.ref (He.ga K "InvalidTable")), PySem.W.kitOne K (.ref (He.ga K "InvalidChance")) (.ref (He.ga K "InvalidFacts")), PySem.W.kitOne K (.ref (He.ga K "InvalidChance")) (.ref (He.ga K "InvalidShare")), PySem.W.kitOne K (.ref (He.ga K "InvalidChance")) (.ref (He.ga K "InvalidPlace")), PySem.W.kitOne K (.ref (He.ga K "InvalidChance")) (.ref (He.ga K "InvalidSign")), PySem.W.kitOne K (.ref (He.ga K "InvalidChance")) (.ref (He.ga K "InvalidText")), PySem.W.kitOne K (.ref (He.ga K "InvalidChance")) (.ref (He.ga K "Misfit")), PySem.W.kitOne K (.ref (He.ga K "InvalidChance")) (.ref (He.ga K "Unlike")), PySem.W.kitOne K (.ref (He.ga K "InvalidChance")) (.ref (He.ga K "NothingToUndo")), PySem.W.kitOne K (.ref (He.ga K "InvalidChance")) (.ref (He.ga K "TooMany")), PySem.W.kitOne K (.ref (He.ga K "InvalidChance")) (.type "ValueError")] = [some false, some true, some false, some false, some false, some false, some false, some false, some false, some false, some false, some false, some false, some false, some false, some false, some false, some true]), 
  excCB K (He.ga K "InvalidNumber") && decide ([PySem.W.kitOne K (.ref (He.ga K "InvalidNumber")) (.ref (He.ga K "InvalidSigns")), PySem.W.kitOne K (.ref (He.ga K "InvalidNumber")) (.ref (He.ga K "InvalidChance")), PySem.W.kitOne K (.ref (He.ga K "InvalidNumber")) (.ref (He.ga K "InvalidNumber")), PySem.W.kitOne K (.ref (He.ga K "InvalidNumber")) (.ref (He.ga K "InvalidCode")), PySem.W.kitOne K (.ref (He.ga K "InvalidNumber")) (.ref (He.ga K "InvalidData")), PySem.W.kitOne K (.ref (He.ga K "InvalidNumber")) (.ref (He.ga K "InvalidSeen")), PySem.W.kitOne K (.ref (He.ga K "InvalidNumber")) (.ref (He.ga K "InvalidLost")), PySem.W.kitOne K (.ref (He.ga K "InvalidNumber")) (.ref (He.ga K "InvalidTable")), PySem.W.kitOne K (.ref (He.ga K "InvalidNumber")) (.ref (He.ga K "InvalidFacts")), PySem.W.kitOne K (.ref (He.ga K "InvalidNumber")) (.ref (He.ga K "InvalidShare")), PySem.W.kitOne K (.ref (He.ga K "InvalidNumber")) (.ref (He.ga K "InvalidPlace")), PySem.W.kitOne K (.ref (He.ga K "InvalidNumber")) (.ref (He.ga K "InvalidSign")), PySem.W.kitOne K (.ref (He.ga K "InvalidNumber")) (.ref (He.ga K "InvalidText")), PySem.W.kitOne K (.ref (He.ga K "InvalidNumber")) (.ref (He.ga K "Misfit")), PySem.W.kitOne K (.ref (He.ga K "InvalidNumber")) (.ref (He.ga K "Unlike")), PySem.W.kitOne K (.ref (He.ga K "InvalidNumber")) (.ref (He.ga K "NothingToUndo")), PySem.W.kitOne K (.ref (He.ga K "InvalidNumber")) (.ref (He.ga K "TooMany")), PySem.W.kitOne K (.ref (He.ga K "InvalidNumber")) (.type "ValueError")] = [some false, some false, some true, some false, some false, some false, some false, some false, some false, some false, some false, some false, some false, some false, some false, some false, some false, some true]), 
  excCB K (He.ga K "InvalidCode") && decide ([PySem.W.kitOne K (.ref (He.ga K "InvalidCode")) (.ref (He.ga K "InvalidSigns")), PySem.W.kitOne K (.ref (He.ga K "InvalidCode")) (.ref (He.ga K "InvalidChance")), PySem.W.kitOne K (.ref (He.ga K "InvalidCode")) (.ref (He.ga K "InvalidNumber")), PySem.W.kitOne K (.ref (He.ga K "InvalidCode")) (.ref (He.ga K "InvalidCode")), PySem.W.kitOne K (.ref (He.ga K "InvalidCode")) (.ref (He.ga K "InvalidData")), PySem.W.kitOne K (.ref (He.ga K "InvalidCode")) (.ref (He.ga K "InvalidSeen")), PySem.W.kitOne K (.ref (He.ga K "InvalidCode")) (.ref (He.ga K "InvalidLost")), PySem.W.kitOne K (.ref (He.ga K "InvalidCode")) (.ref (He.ga K "InvalidTable")), PySem.W.kitOne K (.ref (He.ga K "InvalidCode")) (.ref (He.ga K "InvalidFacts")), PySem.W.kitOne K (.ref (He.ga K "InvalidCode")) (.ref (He.ga K "InvalidShare")), PySem.W.kitOne K (.ref (He.ga K "InvalidCode")) (.ref (He.ga K "InvalidPlace")), PySem.W.kitOne K (.ref (He.ga K "InvalidCode")) (.ref (He.ga K "InvalidSign")), PySem.W.kitOne K (.ref (He.ga K "InvalidCode")) (.ref (He.ga K "InvalidText")), PySem.W.kitOne K (.ref (He.ga K "InvalidCode")) (.ref (He.ga K "Misfit")), PySem.W.kitOne K (.ref (He.ga K "InvalidCode")) (.ref (He.ga K "Unlike")), PySem.W.kitOne K (.ref (He.ga K "InvalidCode")) (.ref (He.ga K "NothingToUndo")), PySem.W.kitOne K (.ref (He.ga K "InvalidCode")) (.ref (He.ga K "TooMany")), PySem.W.kitOne K (.ref (He.ga K "InvalidCode")) (.type "ValueError")] = [some false, some false, some false, some true, some false, some false, some false, some false, some false, some false, some false, some false, some false, some false, some false, some false, some false, some true]), 
  excCB K (He.ga K "InvalidData") && decide ([PySem.W.kitOne K (.ref (He.ga K "InvalidData")) (.ref (He.ga K "InvalidSigns")), PySem.W.kitOne K (.ref (He.ga K "InvalidData")) (.ref (He.ga K "InvalidChance")), PySem.W.kitOne K (.ref (He.ga K "InvalidData")) (.ref (He.ga K "InvalidNumber")), PySem.W.kitOne K (.ref (He.ga K "InvalidData")) (.ref (He.ga K "InvalidCode")), PySem.W.kitOne K (.ref (He.ga K "InvalidData")) (.ref (He.ga K "InvalidData")), PySem.W.kitOne K (.ref (He.ga K "InvalidData")) (.ref (He.ga K "InvalidSeen")), PySem.W.kitOne K (.ref (He.ga K "InvalidData")) (.ref (He.ga K "InvalidLost")), PySem.W.kitOne K (.ref (He.ga K "InvalidData")) (.ref (He.ga K "InvalidTable")), PySem.W.kitOne K (.ref (He.ga K "InvalidData")) (.ref (He.ga K "InvalidFacts")), PySem.W.kitOne K (.ref (He.ga K "InvalidData")) (.ref (He.ga K "InvalidShare")), PySem.W.kitOne K (.ref (He.ga K "InvalidData")) (.ref (He.ga K "InvalidPlace")), PySem.W.kitOne K (.ref (He.ga K "InvalidData")) (.ref (He.ga K "InvalidSign")), PySem.W.kitOne K (.ref (He.ga K "InvalidData")) (.ref (He.ga K "InvalidText")), PySem.W.kitOne K (.ref (He.ga K "InvalidData")) (.ref (He.ga K "Misfit")), PySem.W.kitOne K (.ref (He.ga K "InvalidData")) (.ref (He.ga K "Unlike")), PySem.W.kitOne K (.ref (He.ga K "InvalidData")) (.ref (He.ga K "NothingToUndo")), PySem.W.kitOne K (.ref (He.ga K "InvalidData")) (.ref (He.ga K "TooMany")), PySem.W.kitOne K (.ref (He.ga K "InvalidData")) (.type "ValueError")] = [some false, some false, some false, some false, some true, some false, some false, some false, some false, some false, some false, some false, some false, some false, some false, some false, some false, some true]), 
  excCB K (He.ga K "InvalidSeen") && decide ([PySem.W.kitOne K (.ref (He.ga K "InvalidSeen")) (.ref (He.ga K "InvalidSigns")), PySem.W.kitOne K (.ref (He.ga K "InvalidSeen")) (.ref (He.ga K "InvalidChance")), PySem.W.kitOne K (.ref (He.ga K "InvalidSeen")) (.ref (He.ga K "InvalidNumber")), PySem.W.kitOne K (.ref (He.ga K "InvalidSeen")) (.ref (He.ga K "InvalidCode")), PySem.W.kitOne K (.ref (He.ga K "InvalidSeen")) (.ref (He.ga K "InvalidData")), PySem.W.kitOne K (.ref (He.ga K "InvalidSeen")) (.ref (He.ga K "InvalidSeen")), PySem.W.kitOne K (.ref (He.ga K "InvalidSeen")) (.ref (He.ga K "InvalidLost")), PySem.W.kitOne K (.ref (He.ga K "InvalidSeen")) (.ref (He.ga K "InvalidTable")), PySem.W.kitOne K (.ref (He.ga K "InvalidSeen")) (.ref (He.ga K "InvalidFacts")), PySem.W.kitOne K (.ref (He.ga K "InvalidSeen")) (.ref (He.ga K "InvalidShare")), PySem.W.kitOne K (.ref (He.ga K "InvalidSeen")) (.ref (He.ga K "InvalidPlace")), PySem.W.kitOne K (.ref (He.ga K "InvalidSeen")) (.ref (He.ga K "InvalidSign")), PySem.W.kitOne K (.ref (He.ga K "InvalidSeen")) (.ref (He.ga K "InvalidText")), PySem.W.kitOne K (.ref (He.ga K "InvalidSeen")) (.ref (He.ga K "Misfit")), PySem.W.kitOne K (.ref (He.ga K "InvalidSeen")) (.ref (He.ga K "Unlike")), PySem.W.kitOne K (.ref (He.ga K "InvalidSeen")) (.ref (He.ga K "NothingToUndo")), PySem.W.kitOne K (.ref (He.ga K "InvalidSeen")) (.ref (He.ga K "TooMany")), PySem.W.kitOne K (.ref (He.ga K "InvalidSeen")) (.type "ValueError")] = [some false, some false, some false, some false, some false, some true, some false, some false, some false, some false, some false, some false, some false, some false, some false, some false, some false, some true]), 
  excCB K (He.ga K "InvalidLost") && decide ([PySem.W.kitOne K (.ref (He.ga K "InvalidLost")) (.ref (He.ga K "InvalidSigns")), PySem.W.kitOne K (.ref (He.ga K "InvalidLost")) (.ref (He.ga K "InvalidChance")), PySem.W.kitOne K (.ref (He.ga K "InvalidLost")) (.ref (He.ga K "InvalidNumber")), PySem.W.kitOne K (.ref (He.ga K "InvalidLost")) (.ref (He.ga K "InvalidCode")), PySem.W.kitOne K (.ref (He.ga K "InvalidLost")) (.ref (He.ga K "InvalidData")), PySem.W.kitOne K (.ref (He.ga K "InvalidLost")) (.ref (He.ga K "InvalidSeen")), PySem.W.kitOne K (.ref (He.ga K "InvalidLost")) (.ref (He.ga K "InvalidLost")), PySem.W.kitOne K (.ref (He.ga K "InvalidLost")) (.ref (He.ga K "InvalidTable")), PySem.W.kitOne K (.ref (He.ga K "InvalidLost")) (.ref (He.ga K "InvalidFacts")), PySem.W.kitOne K (.ref (He.ga K "InvalidLost")) (.ref (He.ga K "InvalidShare")), PySem.W.kitOne K (.ref (He.ga K "InvalidLost")) (.ref (He.ga K "InvalidPlace")), PySem.W.kitOne K (.ref (He.ga K "InvalidLost")) (.ref (He.ga K "InvalidSign")), PySem.W.kitOne K (.ref (He.ga K "InvalidLost")) (.ref (He.ga K "InvalidText")), PySem.W.kitOne K (.ref (He.ga K "InvalidLost")) (.ref (He.ga K "Misfit")), PySem.W.kitOne K (.ref (He.ga K "InvalidLost")) (.ref (He.ga K "Unlike")), PySem.W.kitOne K (.ref (He.ga K "InvalidLost")) (.ref (He.ga K "NothingToUndo")), PySem.W.kitOne K (.ref (He.ga K "InvalidLost")) (.ref (He.ga K "TooMany")), PySem.W.kitOne K (.ref (He.ga K "InvalidLost")) (.type "ValueError")] = [some false, some false, some false, some false, some false, some false, some true, some false, some false, some false, some false, some false, some false, some false, some false, some false, some false, some true]), 
  excCB K (He.ga K "InvalidTable") && decide ([PySem.W.kitOne K (.ref (He.ga K "InvalidTable")) (.ref (He.ga K "InvalidSigns")), PySem.W.kitOne K (.ref (He.ga K "InvalidTable")) (.ref (He.ga K "InvalidChance")), PySem.W.kitOne K (.ref (He.ga K "InvalidTable")) (.ref (He.ga K "InvalidNumber")), PySem.W.kitOne K (.ref (He.ga K "InvalidTable")) (.ref (He.ga K "InvalidCode")), PySem.W.kitOne K (.ref (He.ga K "InvalidTable")) (.ref (He.ga K "InvalidData")), PySem.W.kitOne K (.ref (He.ga K "InvalidTable")) (.ref (He.ga K "InvalidSeen")), PySem.W.kitOne K (.ref (He.ga K "InvalidTable")) (.ref (He.ga K "InvalidLost")), PySem.W.kitOne K (.ref (He.ga K "InvalidTable")) (.ref (He.ga K "InvalidTable")), PySem.W.kitOne K (.ref (He.ga K "InvalidTable")) (.ref (He.ga K "InvalidFacts")), PySem.W.kitOne K (.ref (He.ga K "InvalidTable")) (.ref (He.ga K "InvalidShare")), PySem.W.kitOne K (.ref (He.ga K "InvalidTable")) (.ref (He.ga K "InvalidPlace")), PySem.W.kitOne K (.ref (He.ga K "InvalidTable")) (.ref (He.ga K "InvalidSign")), PySem.W.kitOne K (.ref (He.ga K "InvalidTable")) (.ref (He.ga K "InvalidText")), PySem.W.kitOne K (.ref (He.ga K "InvalidTable")) (.ref (He.ga K "Misfit")), PySem.W.kitOne K (.ref (He.ga K "InvalidTable")) (.ref (He.ga K "Unlike")), PySem.W.kitOne K (.ref (He.ga K "InvalidTable")) (.ref (He.ga K "NothingToUndo")), PySem.W.kitOne K (.ref (He.ga K "InvalidTable")) (.ref (He.ga K "TooMany")), PySem.W.kitOne K (.ref (He.ga K "InvalidTable")) (.type "ValueError")] = [some false, some false, some false, some false, some false, some false, some false, some true, some false, some false, some false, some false, some false, some false, some false, some false, some false, some true]), 
  excCB K (He.ga K "InvalidFacts") && decide ([PySem.W.kitOne K (.ref (He.ga K "InvalidFacts")) (.ref (He.ga K "InvalidSigns")), PySem.W.kitOne K (.ref (He.ga K "InvalidFacts")) (.ref (He.ga K "InvalidChance")), PySem.W.kitOne K (.ref (He.ga K "InvalidFacts")) (.ref (He.ga K "InvalidNumber")), PySem.W.kitOne K (.ref (He.ga K "InvalidFacts")) (.ref (He.ga K "InvalidCode")), PySem.W.kitOne K (.ref (He.ga K "InvalidFacts")) (.ref (He.ga K "InvalidData")), PySem.W.kitOne K (.ref (He.ga K "InvalidFacts")) (.ref (He.ga K "InvalidSeen")), PySem.W.kitOne K (.ref (He.ga K "InvalidFacts")) (.ref (He.ga K "InvalidLost")), PySem.W.kitOne K (.ref (He.ga K "InvalidFacts")) (.ref (He.ga K "InvalidTable")), PySem.W.kitOne K (.ref (He.ga K "InvalidFacts")) (.ref (He.ga K "InvalidFacts")), PySem.W.kitOne K (.ref (He.ga K "InvalidFacts")) (.ref (He.ga K "InvalidShare")), PySem.W.kitOne K (.ref (He.ga K "InvalidFacts")) (.ref (He.ga K "InvalidPlace")), PySem.W.kitOne K (.ref (He.ga K "InvalidFacts")) (.ref (He.ga K "InvalidSign")), PySem.W.kitOne K (.ref (He.ga K "InvalidFacts")) (.ref (He.ga K "InvalidText")), PySem.W.kitOne K (.ref (He.ga K "InvalidFacts")) (.ref (He.ga K "Misfit")), PySem.W.kitOne K (.ref (He.ga K "InvalidFacts")) (.ref (He.ga K "Unlike")), PySem.W.kitOne K (.ref (He.ga K "InvalidFacts")) (.ref (He.ga K "NothingToUndo")), PySem.W.kitOne K (.ref (He.ga K "InvalidFacts")) (.ref (He.ga K "TooMany")), PySem.W.kitOne K (.ref (He.ga K "InvalidFacts")) (.type "ValueError")] = [some false, some false, some false, some false, some false, some false, some false, some false, some true, some false, some false, some false, some false, some false, some false, some false, some false, some true]), 
  excCB K (He.ga K "InvalidShare") && decide ([PySem.W.kitOne K (.ref (He.ga K "InvalidShare")) (.ref (He.ga K "InvalidSigns")), PySem.W.kitOne K (.ref (He.ga K "InvalidShare")) (.ref (He.ga K "InvalidChance")), PySem.W.kitOne K (.ref (He.ga K "InvalidShare")) (.ref (He.ga K "InvalidNumber")), PySem.W.kitOne K (.ref (He.ga K "InvalidShare")) (.ref (He.ga K "InvalidCode")), PySem.W.kitOne K (.ref (He.ga K "InvalidShare")) (.ref (He.ga K "InvalidData")), PySem.W.kitOne K (.ref (He.ga K "InvalidShare")) (.ref (He.ga K "InvalidSeen")), PySem.W.kitOne K (.ref (He.ga K "InvalidShare")) (.ref (He.ga K "InvalidLost")), PySem.W.kitOne K (.ref (He.ga K "InvalidShare")) (.ref (He.ga K "InvalidTable")), PySem.W.kitOne K (.ref (He.ga K "InvalidShare")) (.ref (He.ga K "InvalidFacts")), PySem.W.kitOne K (.ref (He.ga K "InvalidShare")) (.ref (He.ga K "InvalidShare")), PySem.W.kitOne K (.ref (He.ga K "InvalidShare")) (.ref (He.ga K "InvalidPlace")), PySem.W.kitOne K (.ref (He.ga K "InvalidShare")) (.ref (He.ga K "InvalidSign")), PySem.W.kitOne K (.ref (He.ga K "InvalidShare")) (.ref (He.ga K "InvalidText")), PySem.W.kitOne K (.ref (He.ga K "InvalidShare")) (.ref (He.ga K "Misfit")), PySem.W.kitOne K (.ref (He.ga K "InvalidShare")) (.ref (He.ga K "Unlike")), PySem.W.kitOne K (.ref (He.ga K "InvalidShare")) (.ref (He.ga K "NothingToUndo")), PySem.W.kitOne K (.ref (He.ga K "InvalidShare")) (.ref (He.ga K "TooMany")), PySem.W.kitOne K (.ref (He.ga K "InvalidShare")) (.type "ValueError")] = [some false, some false, some false, some false, some false, some false, some false, some false, some false, some true, some false, some false, some false, some false, some false, some false, some false, some true]), 
  excCB K (He.ga K "InvalidPlace") && decide ([PySem.W.kitOne K (.ref (He.ga K "InvalidPlace")) (.ref (He.ga K "InvalidSigns")), PySem.W.kitOne K (.ref (He.ga K "InvalidPlace")) (.ref (He.ga K "InvalidChance")), PySem.W.kitOne K (.ref (He.ga K "InvalidPlace")) (.ref (He.ga K "InvalidNumber")), PySem.W.kitOne K (.ref (He.ga K "InvalidPlace")) (.ref (He.ga K "InvalidCode")), PySem.W.kitOne K (.ref (He.ga K "InvalidPlace")) (.ref (He.ga K "InvalidData")), PySem.W.kitOne K (.ref (He.ga K "InvalidPlace")) (.ref (He.ga K "InvalidSeen")), PySem.W.kitOne K (.ref (He.ga K "InvalidPlace")) (.ref (He.ga K "InvalidLost")), PySem.W.kitOne K (.ref (He.ga K "InvalidPlace")) (.ref (He.ga K "InvalidTable")), PySem.W.kitOne K (.ref (He.ga K "InvalidPlace")) (.ref (He.ga K "InvalidFacts")), PySem.W.kitOne K (.ref (He.ga K "InvalidPlace")) (.ref (He.ga K "InvalidShare")), PySem.W.kitOne K (.ref (He.ga K "InvalidPlace")) (.ref (He.ga K "InvalidPlace")), PySem.W.kitOne K (.ref (He.ga K "InvalidPlace")) (.ref (He.ga K "InvalidSign")), PySem.W.kitOne K (.ref (He.ga K "InvalidPlace")) (.ref (He.ga K "InvalidText")), PySem.W.kitOne K (.ref (He.ga K "InvalidPlace")) (.ref (He.ga K "Misfit")), PySem.W.kitOne K (.ref (He.ga K "InvalidPlace")) (.ref (He.ga K "Unlike")), PySem.W.kitOne K (.ref (He.ga K "InvalidPlace")) (.ref (He.ga K "NothingToUndo")), PySem.W.kitOne K (.ref (He.ga K "InvalidPlace")) (.ref (He.ga K "TooMany")), PySem.W.kitOne K (.ref (He.ga K "InvalidPlace")) (.type "ValueError")] = [some false, some false, some false, some false, some false, some false, some false, some false, some false, some false, some true, some false, some false, some false, some false, some false, some false, some true]), 
  excCB K (He.ga K "InvalidSign") && decide ([PySem.W.kitOne K (.ref (He.ga K "InvalidSign")) (.ref (He.ga K "InvalidSigns")), PySem.W.kitOne K (.ref (He.ga K "InvalidSign")) (.ref (He.ga K "InvalidChance")), PySem.W.kitOne K (.ref (He.ga K "InvalidSign")) (.ref (He.ga K "InvalidNumber")), PySem.W.kitOne K (.ref (He.ga K "InvalidSign")) (.ref (He.ga K "InvalidCode")), PySem.W.kitOne K (.ref (He.ga K "InvalidSign")) (.ref (He.ga K "InvalidData")), PySem.W.kitOne K (.ref (He.ga K "InvalidSign")) (.ref (He.ga K "InvalidSeen")), PySem.W.kitOne K (.ref (He.ga K "InvalidSign")) (.ref (He.ga K "InvalidLost")), PySem.W.kitOne K (.ref (He.ga K "InvalidSign")) (.ref (He.ga K "InvalidTable")), PySem.W.kitOne K (.ref (He.ga K "InvalidSign")) (.ref (He.ga K "InvalidFacts")), PySem.W.kitOne K (.ref (He.ga K "InvalidSign")) (.ref (He.ga K "InvalidShare")), PySem.W.kitOne K (.ref (He.ga K "InvalidSign")) (.ref (He.ga K "InvalidPlace")), PySem.W.kitOne K (.ref (He.ga K "InvalidSign")) (.ref (He.ga K "InvalidSign")), PySem.W.kitOne K (.ref (He.ga K "InvalidSign")) (.ref (He.ga K "InvalidText")), PySem.W.kitOne K (.ref (He.ga K "InvalidSign")) (.ref (He.ga K "Misfit")), PySem.W.kitOne K (.ref (He.ga K "InvalidSign")) (.ref (He.ga K "Unlike")), PySem.W.kitOne K (.ref (He.ga K "InvalidSign")) (.ref (He.ga K "NothingToUndo")), PySem.W.kitOne K (.ref (He.ga K "InvalidSign")) (.ref (He.ga K "TooMany")), PySem.W.kitOne K (.ref (He.ga K "InvalidSign")) (.type "ValueError")] = [some false, some false, some false, some false, some false, some false, some false, some false, some false, some false, some false, some true, some false, some false, some false, some false, some false, some true]), 
  excCB K (He.ga K "InvalidText") && decide ([PySem.W.kitOne K (.ref (He.ga K "InvalidText")) (.ref (He.ga K "InvalidSigns")), PySem.W.kitOne K (.ref (He.ga K "InvalidText")) (.ref (He.ga K "InvalidChance")), PySem.W.kitOne K (.ref (He.ga K "InvalidText")) (.ref (He.ga K "InvalidNumber")), PySem.W.kitOne K (.ref (He.ga K "InvalidText")) (.ref (He.ga K "InvalidCode")), PySem.W.kitOne K (.ref (He.ga K "InvalidText")) (.ref (He.ga K "InvalidData")), PySem.W.kitOne K (.ref (He.ga K "InvalidText")) (.ref (He.ga K "InvalidSeen")), PySem.W.kitOne K (.ref (He.ga K "InvalidText")) (.ref (He.ga K "InvalidLost")), PySem.W.kitOne K (.ref (He.ga K "InvalidText")) (.ref (He.ga K "InvalidTable")), PySem.W.kitOne K (.ref (He.ga K "InvalidText")) (.ref (He.ga K "InvalidFacts")), PySem.W.kitOne K (.ref (He.ga K "InvalidText")) (.ref (He.ga K "InvalidShare")), PySem.W.kitOne K (.ref (He.ga K "InvalidText")) (.ref (He.ga K "InvalidPlace")), PySem.W.kitOne K (.ref (He.ga K "InvalidText")) (.ref (He.ga K "InvalidSign")), PySem.W.kitOne K (.ref (He.ga K "InvalidText")) (.ref (He.ga K "InvalidText")), PySem.W.kitOne K (.ref (He.ga K "InvalidText")) (.ref (He.ga K "Misfit")), PySem.W.kitOne K (.ref (He.ga K "InvalidText")) (.ref (He.ga K "Unlike")), PySem.W.kitOne K (.ref (He.ga K "InvalidText")) (.ref (He.ga K "NothingToUndo")), PySem.W.kitOne K (.ref (He.ga K "InvalidText")) (.ref (He.ga K "TooMany")), PySem.W.kitOne K (.ref (He.ga K "InvalidText")) (.type "ValueError")] = [some false, some false, some false, some false, some false, some false, some false, some false, some false, some false, some false, some false, some true, some false, some false, some false, some false, some true]), 
  excCB K (He.ga K "Misfit") && decide ([PySem.W.kitOne K (.ref (He.ga K "Misfit")) (.ref (He.ga K "InvalidSigns")), PySem.W.kitOne K (.ref (He.ga K "Misfit")) (.ref (He.ga K "InvalidChance")), PySem.W.kitOne K (.ref (He.ga K "Misfit")) (.ref (He.ga K "InvalidNumber")), PySem.W.kitOne K (.ref (He.ga K "Misfit")) (.ref (He.ga K "InvalidCode")), PySem.W.kitOne K (.ref (He.ga K "Misfit")) (.ref (He.ga K "InvalidData")), PySem.W.kitOne K (.ref (He.ga K "Misfit")) (.ref (He.ga K "InvalidSeen")), PySem.W.kitOne K (.ref (He.ga K "Misfit")) (.ref (He.ga K "InvalidLost")), PySem.W.kitOne K (.ref (He.ga K "Misfit")) (.ref (He.ga K "InvalidTable")), PySem.W.kitOne K (.ref (He.ga K "Misfit")) (.ref (He.ga K "InvalidFacts")), PySem.W.kitOne K (.ref (He.ga K "Misfit")) (.ref (He.ga K "InvalidShare")), PySem.W.kitOne K (.ref (He.ga K "Misfit")) (.ref (He.ga K "InvalidPlace")), PySem.W.kitOne K (.ref (He.ga K "Misfit")) (.ref (He.ga K "InvalidSign")), PySem.W.kitOne K (.ref (He.ga K "Misfit")) (.ref (He.ga K "InvalidText")), PySem.W.kitOne K (.ref (He.ga K "Misfit")) (.ref (He.ga K "Misfit")), PySem.W.kitOne K (.ref (He.ga K "Misfit")) (.ref (He.ga K "Unlike")), PySem.W.kitOne K (.ref (He.ga K "Misfit")) (.ref (He.ga K "NothingToUndo")), PySem.W.kitOne K (.ref (He.ga K "Misfit")) (.ref (He.ga K "TooMany")), PySem.W.kitOne K (.ref (He.ga K "Misfit")) (.type "ValueError")] = [some false, some false, some false, some false, some false, some false, some false, some false, some false, some false, some false, some false, some false, some true, some false, some false, some false, some true]), 
  excCB K (He.ga K "Unlike") && decide ([PySem.W.kitOne K (.ref (He.ga K "Unlike")) (.ref (He.ga K "InvalidSigns")), PySem.W.kitOne K (.ref (He.ga K "Unlike")) (.ref (He.ga K "InvalidChance")), PySem.W.kitOne K (.ref (He.ga K "Unlike")) (.ref (He.ga K "InvalidNumber")), PySem.W.kitOne K (.ref (He.ga K "Unlike")) (.ref (He.ga K "InvalidCode")), PySem.W.kitOne K (.ref (He.ga K "Unlike")) (.ref (He.ga K "InvalidData")), PySem.W.kitOne K (.ref (He.ga K "Unlike")) (.ref (He.ga K "InvalidSeen")), PySem.W.kitOne K (.ref (He.ga K "Unlike")) (.ref (He.ga K "InvalidLost")), PySem.W.kitOne K (.ref (He.ga K "Unlike")) (.ref (He.ga K "InvalidTable")), PySem.W.kitOne K (.ref (He.ga K "Unlike")) (.ref (He.ga K "InvalidFacts")), PySem.W.kitOne K (.ref (He.ga K "Unlike")) (.ref (He.ga K "InvalidShare")), PySem.W.kitOne K (.ref (He.ga K "Unlike")) (.ref (He.ga K "InvalidPlace")), PySem.W.kitOne K (.ref (He.ga K "Unlike")) (.ref (He.ga K "InvalidSign")), PySem.W.kitOne K (.ref (He.ga K "Unlike")) (.ref (He.ga K "InvalidText")), PySem.W.kitOne K (.ref (He.ga K "Unlike")) (.ref (He.ga K "Misfit")), PySem.W.kitOne K (.ref (He.ga K "Unlike")) (.ref (He.ga K "Unlike")), PySem.W.kitOne K (.ref (He.ga K "Unlike")) (.ref (He.ga K "NothingToUndo")), PySem.W.kitOne K (.ref (He.ga K "Unlike")) (.ref (He.ga K "TooMany")), PySem.W.kitOne K (.ref (He.ga K "Unlike")) (.type "ValueError")] = [some false, some false, some false, some false, some false, some false, some false, some false, some false, some false, some false, some false, some false, some false, some true, some false, some false, some true]), 
  excCB K (He.ga K "NothingToUndo") && decide ([PySem.W.kitOne K (.ref (He.ga K "NothingToUndo")) (.ref (He.ga K "InvalidSigns")), PySem.W.kitOne K (.ref (He.ga K "NothingToUndo")) (.ref (He.ga K "InvalidChance")), PySem.W.kitOne K (.ref (He.ga K "NothingToUndo")) (.ref (He.ga K "InvalidNumber")), PySem.W.kitOne K (.ref (He.ga K "NothingToUndo")) (.ref (He.ga K "InvalidCode")), PySem.W.kitOne K (.ref (He.ga K "NothingToUndo")) (.ref (He.ga K "InvalidData")), PySem.W.kitOne K (.ref (He.ga K "NothingToUndo")) (.ref (He.ga K "InvalidSeen")), PySem.W.kitOne K (.ref (He.ga K "NothingToUndo")) (.ref (He.ga K "InvalidLost")), PySem.W.kitOne K (.ref (He.ga K "NothingToUndo")) (.ref (He.ga K "InvalidTable")), PySem.W.kitOne K (.ref (He.ga K "NothingToUndo")) (.ref (He.ga K "InvalidFacts")), PySem.W.kitOne K (.ref (He.ga K "NothingToUndo")) (.ref (He.ga K "InvalidShare")), PySem.W.kitOne K (.ref (He.ga K "NothingToUndo")) (.ref (He.ga K "InvalidPlace")), PySem.W.kitOne K (.ref (He.ga K "NothingToUndo")) (.ref (He.ga K "InvalidSign")), PySem.W.kitOne K (.ref (He.ga K "NothingToUndo")) (.ref (He.ga K "InvalidText")), PySem.W.kitOne K (.ref (He.ga K "NothingToUndo")) (.ref (He.ga K "Misfit")), PySem.W.kitOne K (.ref (He.ga K "NothingToUndo")) (.ref (He.ga K "Unlike")), PySem.W.kitOne K (.ref (He.ga K "NothingToUndo")) (.ref (He.ga K "NothingToUndo")), PySem.W.kitOne K (.ref (He.ga K "NothingToUndo")) (.ref (He.ga K "TooMany")), PySem.W.kitOne K (.ref (He.ga K "NothingToUndo")) (.type "ValueError")] = [some false, some false, some false, some false, some false, some false, some false, some false, some false, some false, some false, some false, some false, some false, some false, some true, some false, some true])]
def exB (K : PySem.W.Frag) : Bool := decide (((tbK K).tabs.map (·.1)).Nodup) && (exL K).all id
abbrev RO : PySem.W.OpenRow := PySem.W.OpenLaw.row PySem.Challenge.rw_splituses_k01_whole_losses_and_polynomia
abbrev hk : PySem.W.Hook := He.hookX 4 faL fnL [] tfL exB
def ob (s : PySem.W.SharedT) : He.AlX := He.obsX 4 faL fnL [] tfL exB (HandSHeadRun.getT s)
theorem ob_eq (s : PySem.W.SharedT) : ob s = hk.obs s.abs := He.obsX_eq (HandSHeadRun.getT_eq s)
theorem run (w : World) : HandSHeadRun.RunEq RO (PySem.W.view RO.prog [67]) hk ob 12000 loose w := by
  intro os
  kernel_rfl
theorem funOf {K : PySem.W.Frag} {x : Str} {st : Stmt} {f : Addr} {fd : FuncData} (F : L2.FunD K x x (defArgs st) (defBody st) (defScope st) [] [] f fd) : L2.Fun K x x st f fd := by
  obtain ⟨oc, od, dV, kV, doc, pm, an, cdv, ct, osl, h1, h2, h3, h4, h5⟩ := F.ex
  rcases h4 with ⟨_, rfl⟩ | ⟨h, _⟩
  · exact ⟨⟨oc, od, kV, doc, pm, an, cdv, ct, osl, h1, h2, h3⟩, F.kp⟩
  · exact absurd rfl h
theorem fz {w : World} {K : PySem.W.Frag} {h h2 base : Heap} {mg : Str → Option Value} (X : K.In h) (G : h.Ns mainGlobals mg) (c : He.SaysX faL fnL [] tfL exB w h2 K) (hB : ∀ p ∈ tfL.map (He.cT K), LamX.TabB base mg p.1 p.2) : Fz K mg base := by
  have d := c.t.d
  obtain ⟨e1, e2⟩ := Bool.and_eq_true_iff.mp c.more
  have e3 : ∀ (j : Nat) (b : Bool), (exL K)[j]? = some b → b = true := fun j b hb => List.all_eq_true.mp e2 b (List.mem_of_getElem? hb)
  exact {
    n_ValueError := He.free_ok X G (d.fact 62 (f := .free "ValueError") rfl)
    n_abs := He.free_ok X G (d.fact 63 (f := .free "abs") rfl)
    n_all := He.free_ok X G (d.fact 64 (f := .free "all") rfl)
    n_bool := He.free_ok X G (d.fact 65 (f := .free "bool") rfl)
    n_enumerate := He.free_ok X G (d.fact 66 (f := .free "enumerate") rfl)
    n_int := He.free_ok X G (d.fact 67 (f := .free "int") rfl)
    n_isinstance := He.free_ok X G (d.fact 68 (f := .free "isinstance") rfl)
    n_len := He.free_ok X G (d.fact 69 (f := .free "len") rfl)
    n_list := He.free_ok X G (d.fact 70 (f := .free "list") rfl)
    n_max := He.free_ok X G (d.fact 71 (f := .free "max") rfl)
    n_min := He.free_ok X G (d.fact 72 (f := .free "min") rfl)
    n_range := He.free_ok X G (d.fact 73 (f := .free "range") rfl)
    n_str := He.free_ok X G (d.fact 74 (f := .free "str") rfl)
    n_sum := He.free_ok X G (d.fact 75 (f := .free "sum") rfl)
    n_tuple := He.free_ok X G (d.fact 76 (f := .free "tuple") rfl)
    n_zip := He.free_ok X G (d.fact 77 (f := .free "zip") rfl)
    c_MOST_SIGNS := He.int_ok X G (d.fact 78 (f := .int "MOST_SIGNS" (5)) rfl)
    c_MOST_BELOW := He.int_ok X G (d.fact 79 (f := .int "MOST_BELOW" (1000)) rfl)
    c_FAR := He.int_ok X G (d.fact 80 (f := .int "FAR" (1000000000000000000000000000000)) rfl)
    m_common_of := He.glo_ok X G (d.fact 0 (f := .glo "common_of") rfl)
    k_common_of := by obtain ⟨fd, F⟩ := d.def_ 0 (d := ⟨("common_of", none), "common_of", "common_of", L2.defArgs (K01.topS 23), L2.defBody (K01.topS 23), L2.defScope (K01.topS 23), [], []⟩) rfl; exact F.kp
    d_common_of := by obtain ⟨fd, F⟩ := d.def_ 0 (d := ⟨("common_of", none), "common_of", "common_of", L2.defArgs (K01.topS 23), L2.defBody (K01.topS 23), L2.defScope (K01.topS 23), [], []⟩) rfl; exact ⟨fd, funOf F⟩
    m_is_whole := He.glo_ok X G (d.fact 1 (f := .glo "is_whole") rfl)
    k_is_whole := by obtain ⟨fd, F⟩ := d.def_ 1 (d := ⟨("is_whole", none), "is_whole", "is_whole", L2.defArgs (K01.topS 24), L2.defBody (K01.topS 24), L2.defScope (K01.topS 24), [], []⟩) rfl; exact F.kp
    d_is_whole := by obtain ⟨fd, F⟩ := d.def_ 1 (d := ⟨("is_whole", none), "is_whole", "is_whole", L2.defArgs (K01.topS 24), L2.defBody (K01.topS 24), L2.defScope (K01.topS 24), [], []⟩) rfl; exact ⟨fd, funOf F⟩
    m_is_part := He.glo_ok X G (d.fact 2 (f := .glo "is_part") rfl)
    k_is_part := by obtain ⟨fd, F⟩ := d.def_ 2 (d := ⟨("is_part", none), "is_part", "is_part", L2.defArgs (K01.topS 25), L2.defBody (K01.topS 25), L2.defScope (K01.topS 25), [], []⟩) rfl; exact F.kp
    d_is_part := by obtain ⟨fd, F⟩ := d.def_ 2 (d := ⟨("is_part", none), "is_part", "is_part", L2.defArgs (K01.topS 25), L2.defBody (K01.topS 25), L2.defScope (K01.topS 25), [], []⟩) rfl; exact ⟨fd, funOf F⟩
    m_is_good := He.glo_ok X G (d.fact 3 (f := .glo "is_good") rfl)
    k_is_good := by obtain ⟨fd, F⟩ := d.def_ 3 (d := ⟨("is_good", none), "is_good", "is_good", L2.defArgs (K01.topS 26), L2.defBody (K01.topS 26), L2.defScope (K01.topS 26), [], []⟩) rfl; exact F.kp
    d_is_good := by obtain ⟨fd, F⟩ := d.def_ 3 (d := ⟨("is_good", none), "is_good", "is_good", L2.defArgs (K01.topS 26), L2.defBody (K01.topS 26), L2.defScope (K01.topS 26), [], []⟩) rfl; exact ⟨fd, funOf F⟩
    m_need_signs := He.glo_ok X G (d.fact 4 (f := .glo "need_signs") rfl)
    k_need_signs := by obtain ⟨fd, F⟩ := d.def_ 4 (d := ⟨("need_signs", none), "need_signs", "need_signs", L2.defArgs (K01.topS 27), L2.defBody (K01.topS 27), L2.defScope (K01.topS 27), [], []⟩) rfl; exact F.kp
    d_need_signs := by obtain ⟨fd, F⟩ := d.def_ 4 (d := ⟨("need_signs", none), "need_signs", "need_signs", L2.defArgs (K01.topS 27), L2.defBody (K01.topS 27), L2.defScope (K01.topS 27), [], []⟩) rfl; exact ⟨fd, funOf F⟩
    m_need_chance := He.glo_ok X G (d.fact 5 (f := .glo "need_chance") rfl)
    k_need_chance := by obtain ⟨fd, F⟩ := d.def_ 5 (d := ⟨("need_chance", none), "need_chance", "need_chance", L2.defArgs (K01.topS 28), L2.defBody (K01.topS 28), L2.defScope (K01.topS 28), [], []⟩) rfl; exact F.kp
    d_need_chance := by obtain ⟨fd, F⟩ := d.def_ 5 (d := ⟨("need_chance", none), "need_chance", "need_chance", L2.defArgs (K01.topS 28), L2.defBody (K01.topS 28), L2.defScope (K01.topS 28), [], []⟩) rfl; exact ⟨fd, funOf F⟩
    m_need_steps := He.glo_ok X G (d.fact 6 (f := .glo "need_steps") rfl)
    k_need_steps := by obtain ⟨fd, F⟩ := d.def_ 6 (d := ⟨("need_steps", none), "need_steps", "need_steps", L2.defArgs (K01.topS 29), L2.defBody (K01.topS 29), L2.defScope (K01.topS 29), [], []⟩) rfl; exact F.kp
    d_need_steps := by obtain ⟨fd, F⟩ := d.def_ 6 (d := ⟨("need_steps", none), "need_steps", "need_steps", L2.defArgs (K01.topS 29), L2.defBody (K01.topS 29), L2.defScope (K01.topS 29), [], []⟩) rfl; exact ⟨fd, funOf F⟩
    m_made_loss := He.glo_ok X G (d.fact 7 (f := .glo "made_loss") rfl)
    k_made_loss := by obtain ⟨fd, F⟩ := d.def_ 7 (d := ⟨("made_loss", none), "made_loss", "made_loss", L2.defArgs (K01.topS 30), L2.defBody (K01.topS 30), L2.defScope (K01.topS 30), [], []⟩) rfl; exact F.kp
    d_made_loss := by obtain ⟨fd, F⟩ := d.def_ 7 (d := ⟨("made_loss", none), "made_loss", "made_loss", L2.defArgs (K01.topS 30), L2.defBody (K01.topS 30), L2.defScope (K01.topS 30), [], []⟩) rfl; exact ⟨fd, funOf F⟩
    m_joined := He.glo_ok X G (d.fact 8 (f := .glo "joined") rfl)
    k_joined := by obtain ⟨fd, F⟩ := d.def_ 8 (d := ⟨("joined", none), "joined", "joined", L2.defArgs (K01.topS 31), L2.defBody (K01.topS 31), L2.defScope (K01.topS 31), [], []⟩) rfl; exact F.kp
    d_joined := by obtain ⟨fd, F⟩ := d.def_ 8 (d := ⟨("joined", none), "joined", "joined", L2.defArgs (K01.topS 31), L2.defBody (K01.topS 31), L2.defScope (K01.topS 31), [], []⟩) rfl; exact ⟨fd, funOf F⟩
    m_made_polynomial := He.glo_ok X G (d.fact 9 (f := .glo "made_polynomial") rfl)
    k_made_polynomial := by obtain ⟨fd, F⟩ := d.def_ 9 (d := ⟨("made_polynomial", none), "made_polynomial", "made_polynomial", L2.defArgs (K01.topS 32), L2.defBody (K01.topS 32), L2.defScope (K01.topS 32), [], []⟩) rfl; exact F.kp
    d_made_polynomial := by obtain ⟨fd, F⟩ := d.def_ 9 (d := ⟨("made_polynomial", none), "made_polynomial", "made_polynomial", L2.defArgs (K01.topS 32), L2.defBody (K01.topS 32), L2.defScope (K01.topS 32), [], []⟩) rfl; exact ⟨fd, funOf F⟩
    m_number_by := He.glo_ok X G (d.fact 10 (f := .glo "number_by") rfl)
    k_number_by := by obtain ⟨fd, F⟩ := d.def_ 10 (d := ⟨("number_by", none), "number_by", "number_by", L2.defArgs (K01.topS 33), L2.defBody (K01.topS 33), L2.defScope (K01.topS 33), [], []⟩) rfl; exact F.kp
    d_number_by := by obtain ⟨fd, F⟩ := d.def_ 10 (d := ⟨("number_by", none), "number_by", "number_by", L2.defArgs (K01.topS 33), L2.defBody (K01.topS 33), L2.defScope (K01.topS 33), [], []⟩) rfl; exact ⟨fd, funOf F⟩
    m_signs_by := He.glo_ok X G (d.fact 11 (f := .glo "signs_by") rfl)
    k_signs_by := by obtain ⟨fd, F⟩ := d.def_ 11 (d := ⟨("signs_by", none), "signs_by", "signs_by", L2.defArgs (K01.topS 34), L2.defBody (K01.topS 34), L2.defScope (K01.topS 34), [], []⟩) rfl; exact F.kp
    d_signs_by := by obtain ⟨fd, F⟩ := d.def_ 11 (d := ⟨("signs_by", none), "signs_by", "signs_by", L2.defArgs (K01.topS 34), L2.defBody (K01.topS 34), L2.defScope (K01.topS 34), [], []⟩) rfl; exact ⟨fd, funOf F⟩
    m_all_signs := He.glo_ok X G (d.fact 12 (f := .glo "all_signs") rfl)
    k_all_signs := by obtain ⟨fd, F⟩ := d.def_ 12 (d := ⟨("all_signs", none), "all_signs", "all_signs", L2.defArgs (K01.topS 35), L2.defBody (K01.topS 35), L2.defScope (K01.topS 35), [], []⟩) rfl; exact F.kp
    d_all_signs := by obtain ⟨fd, F⟩ := d.def_ 12 (d := ⟨("all_signs", none), "all_signs", "all_signs", L2.defArgs (K01.topS 35), L2.defBody (K01.topS 35), L2.defScope (K01.topS 35), [], []⟩) rfl; exact ⟨fd, funOf F⟩
    m_is_within := He.glo_ok X G (d.fact 13 (f := .glo "is_within") rfl)
    k_is_within := by obtain ⟨fd, F⟩ := d.def_ 13 (d := ⟨("is_within", none), "is_within", "is_within", L2.defArgs (K01.topS 36), L2.defBody (K01.topS 36), L2.defScope (K01.topS 36), [], []⟩) rfl; exact F.kp
    d_is_within := by obtain ⟨fd, F⟩ := d.def_ 13 (d := ⟨("is_within", none), "is_within", "is_within", L2.defArgs (K01.topS 36), L2.defBody (K01.topS 36), L2.defScope (K01.topS 36), [], []⟩) rfl; exact ⟨fd, funOf F⟩
    m_is_signs := He.glo_ok X G (d.fact 14 (f := .glo "is_signs") rfl)
    k_is_signs := by obtain ⟨fd, F⟩ := d.def_ 14 (d := ⟨("is_signs", none), "is_signs", "is_signs", L2.defArgs (K01.topS 37), L2.defBody (K01.topS 37), L2.defScope (K01.topS 37), [], []⟩) rfl; exact F.kp
    d_is_signs := by obtain ⟨fd, F⟩ := d.def_ 14 (d := ⟨("is_signs", none), "is_signs", "is_signs", L2.defArgs (K01.topS 37), L2.defBody (K01.topS 37), L2.defScope (K01.topS 37), [], []⟩) rfl; exact ⟨fd, funOf F⟩
    m_loss := He.glo_ok X G (d.fact 15 (f := .glo "loss") rfl)
    k_loss := by obtain ⟨fd, F⟩ := d.def_ 15 (d := ⟨("loss", none), "loss", "loss", L2.defArgs (K01.topS 38), L2.defBody (K01.topS 38), L2.defScope (K01.topS 38), [], []⟩) rfl; exact F.kp
    d_loss := by obtain ⟨fd, F⟩ := d.def_ 15 (d := ⟨("loss", none), "loss", "loss", L2.defArgs (K01.topS 38), L2.defBody (K01.topS 38), L2.defScope (K01.topS 38), [], []⟩) rfl; exact ⟨fd, funOf F⟩
    m_polynomial := He.glo_ok X G (d.fact 16 (f := .glo "polynomial") rfl)
    k_polynomial := by obtain ⟨fd, F⟩ := d.def_ 16 (d := ⟨("polynomial", none), "polynomial", "polynomial", L2.defArgs (K01.topS 39), L2.defBody (K01.topS 39), L2.defScope (K01.topS 39), [], []⟩) rfl; exact F.kp
    d_polynomial := by obtain ⟨fd, F⟩ := d.def_ 16 (d := ⟨("polynomial", none), "polynomial", "polynomial", L2.defArgs (K01.topS 39), L2.defBody (K01.topS 39), L2.defScope (K01.topS 39), [], []⟩) rfl; exact ⟨fd, funOf F⟩
    m_number_of := He.glo_ok X G (d.fact 17 (f := .glo "number_of") rfl)
    k_number_of := by obtain ⟨fd, F⟩ := d.def_ 17 (d := ⟨("number_of", none), "number_of", "number_of", L2.defArgs (K01.topS 40), L2.defBody (K01.topS 40), L2.defScope (K01.topS 40), [], []⟩) rfl; exact F.kp
    d_number_of := by obtain ⟨fd, F⟩ := d.def_ 17 (d := ⟨("number_of", none), "number_of", "number_of", L2.defArgs (K01.topS 40), L2.defBody (K01.topS 40), L2.defScope (K01.topS 40), [], []⟩) rfl; exact ⟨fd, funOf F⟩
    m_signs_of := He.glo_ok X G (d.fact 18 (f := .glo "signs_of") rfl)
    k_signs_of := by obtain ⟨fd, F⟩ := d.def_ 18 (d := ⟨("signs_of", none), "signs_of", "signs_of", L2.defArgs (K01.topS 41), L2.defBody (K01.topS 41), L2.defScope (K01.topS 41), [], []⟩) rfl; exact F.kp
    d_signs_of := by obtain ⟨fd, F⟩ := d.def_ 18 (d := ⟨("signs_of", none), "signs_of", "signs_of", L2.defArgs (K01.topS 41), L2.defBody (K01.topS 41), L2.defScope (K01.topS 41), [], []⟩) rfl; exact ⟨fd, funOf F⟩
    m_losses := He.glo_ok X G (d.fact 19 (f := .glo "losses") rfl)
    k_losses := by obtain ⟨fd, F⟩ := d.def_ 19 (d := ⟨("losses", none), "losses", "losses", L2.defArgs (K01.topS 42), L2.defBody (K01.topS 42), L2.defScope (K01.topS 42), [], []⟩) rfl; exact F.kp
    d_losses := by obtain ⟨fd, F⟩ := d.def_ 19 (d := ⟨("losses", none), "losses", "losses", L2.defArgs (K01.topS 42), L2.defBody (K01.topS 42), L2.defScope (K01.topS 42), [], []⟩) rfl; exact ⟨fd, funOf F⟩
    m_count_between := He.glo_ok X G (d.fact 20 (f := .glo "count_between") rfl)
    k_count_between := by obtain ⟨fd, F⟩ := d.def_ 20 (d := ⟨("count_between", none), "count_between", "count_between", L2.defArgs (K01.topS 43), L2.defBody (K01.topS 43), L2.defScope (K01.topS 43), [], []⟩) rfl; exact F.kp
    d_count_between := by obtain ⟨fd, F⟩ := d.def_ 20 (d := ⟨("count_between", none), "count_between", "count_between", L2.defArgs (K01.topS 43), L2.defBody (K01.topS 43), L2.defScope (K01.topS 43), [], []⟩) rfl; exact ⟨fd, funOf F⟩
    m__law_vat := He.glo_ok X G (d.fact 21 (f := .glo "_law_vat") rfl)
    k__law_vat := by obtain ⟨fd, F⟩ := d.def_ 21 (d := ⟨("_law_vat", none), "_law_vat", "_law_vat", L2.defArgs (K01.topS 45), L2.defBody (K01.topS 45), L2.defScope (K01.topS 45), [], []⟩) rfl; exact F.kp
    d__law_vat := by obtain ⟨fd, F⟩ := d.def_ 21 (d := ⟨("_law_vat", none), "_law_vat", "_law_vat", L2.defArgs (K01.topS 45), L2.defBody (K01.topS 45), L2.defScope (K01.topS 45), [], []⟩) rfl; exact ⟨fd, funOf F⟩
    m__law_under := He.glo_ok X G (d.fact 22 (f := .glo "_law_under") rfl)
    k__law_under := by obtain ⟨fd, F⟩ := d.def_ 22 (d := ⟨("_law_under", none), "_law_under", "_law_under", L2.defArgs (K01.topS 46), L2.defBody (K01.topS 46), L2.defScope (K01.topS 46), [], []⟩) rfl; exact F.kp
    d__law_under := by obtain ⟨fd, F⟩ := d.def_ 22 (d := ⟨("_law_under", none), "_law_under", "_law_under", L2.defArgs (K01.topS 46), L2.defBody (K01.topS 46), L2.defScope (K01.topS 46), [], []⟩) rfl; exact ⟨fd, funOf F⟩
    m__law_some := He.glo_ok X G (d.fact 23 (f := .glo "_law_some") rfl)
    k__law_some := by obtain ⟨fd, F⟩ := d.def_ 23 (d := ⟨("_law_some", none), "_law_some", "_law_some", L2.defArgs (K01.topS 47), L2.defBody (K01.topS 47), L2.defScope (K01.topS 47), [], []⟩) rfl; exact F.kp
    d__law_some := by obtain ⟨fd, F⟩ := d.def_ 23 (d := ⟨("_law_some", none), "_law_some", "_law_some", L2.defArgs (K01.topS 47), L2.defBody (K01.topS 47), L2.defScope (K01.topS 47), [], []⟩) rfl; exact ⟨fd, funOf F⟩
    m__law_truly := He.glo_ok X G (d.fact 24 (f := .glo "_law_truly") rfl)
    k__law_truly := by obtain ⟨fd, F⟩ := d.def_ 24 (d := ⟨("_law_truly", none), "_law_truly", "_law_truly", L2.defArgs (K01.topS 48), L2.defBody (K01.topS 48), L2.defScope (K01.topS 48), [], []⟩) rfl; exact F.kp
    d__law_truly := by obtain ⟨fd, F⟩ := d.def_ 24 (d := ⟨("_law_truly", none), "_law_truly", "_law_truly", L2.defArgs (K01.topS 48), L2.defBody (K01.topS 48), L2.defScope (K01.topS 48), [], []⟩) rfl; exact ⟨fd, funOf F⟩
    m__law_gcd := He.glo_ok X G (d.fact 25 (f := .glo "_law_gcd") rfl)
    k__law_gcd := by obtain ⟨fd, F⟩ := d.def_ 25 (d := ⟨("_law_gcd", none), "_law_gcd", "_law_gcd", L2.defArgs (K01.topS 49), L2.defBody (K01.topS 49), L2.defScope (K01.topS 49), [], []⟩) rfl; exact F.kp
    d__law_gcd := by obtain ⟨fd, F⟩ := d.def_ 25 (d := ⟨("_law_gcd", none), "_law_gcd", "_law_gcd", L2.defArgs (K01.topS 49), L2.defBody (K01.topS 49), L2.defScope (K01.topS 49), [], []⟩) rfl; exact ⟨fd, funOf F⟩
    m__law_low := He.glo_ok X G (d.fact 26 (f := .glo "_law_low") rfl)
    k__law_low := by obtain ⟨fd, F⟩ := d.def_ 26 (d := ⟨("_law_low", none), "_law_low", "_law_low", L2.defArgs (K01.topS 50), L2.defBody (K01.topS 50), L2.defScope (K01.topS 50), [], []⟩) rfl; exact F.kp
    d__law_low := by obtain ⟨fd, F⟩ := d.def_ 26 (d := ⟨("_law_low", none), "_law_low", "_law_low", L2.defArgs (K01.topS 50), L2.defBody (K01.topS 50), L2.defScope (K01.topS 50), [], []⟩) rfl; exact ⟨fd, funOf F⟩
    m__law_is_signs := He.glo_ok X G (d.fact 27 (f := .glo "_law_is_signs") rfl)
    k__law_is_signs := by obtain ⟨fd, F⟩ := d.def_ 27 (d := ⟨("_law_is_signs", none), "_law_is_signs", "_law_is_signs", L2.defArgs (K01.topS 51), L2.defBody (K01.topS 51), L2.defScope (K01.topS 51), [], []⟩) rfl; exact F.kp
    d__law_is_signs := by obtain ⟨fd, F⟩ := d.def_ 27 (d := ⟨("_law_is_signs", none), "_law_is_signs", "_law_is_signs", L2.defArgs (K01.topS 51), L2.defBody (K01.topS 51), L2.defScope (K01.topS 51), [], []⟩) rfl; exact ⟨fd, funOf F⟩
    m__law_loss := He.glo_ok X G (d.fact 28 (f := .glo "_law_loss") rfl)
    k__law_loss := by obtain ⟨fd, F⟩ := d.def_ 28 (d := ⟨("_law_loss", none), "_law_loss", "_law_loss", L2.defArgs (K01.topS 52), L2.defBody (K01.topS 52), L2.defScope (K01.topS 52), [], []⟩) rfl; exact F.kp
    d__law_loss := by obtain ⟨fd, F⟩ := d.def_ 28 (d := ⟨("_law_loss", none), "_law_loss", "_law_loss", L2.defArgs (K01.topS 52), L2.defBody (K01.topS 52), L2.defScope (K01.topS 52), [], []⟩) rfl; exact ⟨fd, funOf F⟩
    m__law_less := He.glo_ok X G (d.fact 29 (f := .glo "_law_less") rfl)
    k__law_less := by obtain ⟨fd, F⟩ := d.def_ 29 (d := ⟨("_law_less", none), "_law_less", "_law_less", L2.defArgs (K01.topS 53), L2.defBody (K01.topS 53), L2.defScope (K01.topS 53), [], []⟩) rfl; exact F.kp
    d__law_less := by obtain ⟨fd, F⟩ := d.def_ 29 (d := ⟨("_law_less", none), "_law_less", "_law_less", L2.defArgs (K01.topS 53), L2.defBody (K01.topS 53), L2.defScope (K01.topS 53), [], []⟩) rfl; exact ⟨fd, funOf F⟩
    m__law_every := He.glo_ok X G (d.fact 30 (f := .glo "_law_every") rfl)
    k__law_every := by obtain ⟨fd, F⟩ := d.def_ 30 (d := ⟨("_law_every", none), "_law_every", "_law_every", L2.defArgs (K01.topS 54), L2.defBody (K01.topS 54), L2.defScope (K01.topS 54), [], []⟩) rfl; exact F.kp
    d__law_every := by obtain ⟨fd, F⟩ := d.def_ 30 (d := ⟨("_law_every", none), "_law_every", "_law_every", L2.defArgs (K01.topS 54), L2.defBody (K01.topS 54), L2.defScope (K01.topS 54), [], []⟩) rfl; exact ⟨fd, funOf F⟩
    m__law_chance := He.glo_ok X G (d.fact 31 (f := .glo "_law_chance") rfl)
    k__law_chance := by obtain ⟨fd, F⟩ := d.def_ 31 (d := ⟨("_law_chance", none), "_law_chance", "_law_chance", L2.defArgs (K01.topS 55), L2.defBody (K01.topS 55), L2.defScope (K01.topS 55), [], []⟩) rfl; exact F.kp
    d__law_chance := by obtain ⟨fd, F⟩ := d.def_ 31 (d := ⟨("_law_chance", none), "_law_chance", "_law_chance", L2.defArgs (K01.topS 55), L2.defBody (K01.topS 55), L2.defScope (K01.topS 55), [], []⟩) rfl; exact ⟨fd, funOf F⟩
    m__law_signs := He.glo_ok X G (d.fact 32 (f := .glo "_law_signs") rfl)
    k__law_signs := by obtain ⟨fd, F⟩ := d.def_ 32 (d := ⟨("_law_signs", none), "_law_signs", "_law_signs", L2.defArgs (K01.topS 56), L2.defBody (K01.topS 56), L2.defScope (K01.topS 56), [], []⟩) rfl; exact F.kp
    d__law_signs := by obtain ⟨fd, F⟩ := d.def_ 32 (d := ⟨("_law_signs", none), "_law_signs", "_law_signs", L2.defArgs (K01.topS 56), L2.defBody (K01.topS 56), L2.defScope (K01.topS 56), [], []⟩) rfl; exact ⟨fd, funOf F⟩
    m__law_spoilt := He.glo_ok X G (d.fact 33 (f := .glo "_law_spoilt") rfl)
    k__law_spoilt := by obtain ⟨fd, F⟩ := d.def_ 33 (d := ⟨("_law_spoilt", none), "_law_spoilt", "_law_spoilt", L2.defArgs (K01.topS 57), L2.defBody (K01.topS 57), L2.defScope (K01.topS 57), [], []⟩) rfl; exact F.kp
    d__law_spoilt := by obtain ⟨fd, F⟩ := d.def_ 33 (d := ⟨("_law_spoilt", none), "_law_spoilt", "_law_spoilt", L2.defArgs (K01.topS 57), L2.defBody (K01.topS 57), L2.defScope (K01.topS 57), [], []⟩) rfl; exact ⟨fd, funOf F⟩
    m__law_names := He.glo_ok X G (d.fact 34 (f := .glo "_law_names") rfl)
    k__law_names := by obtain ⟨fd, F⟩ := d.def_ 34 (d := ⟨("_law_names", none), "_law_names", "_law_names", L2.defArgs (K01.topS 58), L2.defBody (K01.topS 58), L2.defScope (K01.topS 58), [], []⟩) rfl; exact F.kp
    d__law_names := by obtain ⟨fd, F⟩ := d.def_ 34 (d := ⟨("_law_names", none), "_law_names", "_law_names", L2.defArgs (K01.topS 58), L2.defBody (K01.topS 58), L2.defScope (K01.topS 58), [], []⟩) rfl; exact ⟨fd, funOf F⟩
    m__law_error := He.glo_ok X G (d.fact 35 (f := .glo "_law_error") rfl)
    k__law_error := by obtain ⟨fd, F⟩ := d.def_ 35 (d := ⟨("_law_error", none), "_law_error", "_law_error", L2.defArgs (K01.topS 59), L2.defBody (K01.topS 59), L2.defScope (K01.topS 59), [], []⟩) rfl; exact F.kp
    d__law_error := by obtain ⟨fd, F⟩ := d.def_ 35 (d := ⟨("_law_error", none), "_law_error", "_law_error", L2.defArgs (K01.topS 59), L2.defBody (K01.topS 59), L2.defScope (K01.topS 59), [], []⟩) rfl; exact ⟨fd, funOf F⟩
    m__law_all_refused := He.glo_ok X G (d.fact 36 (f := .glo "_law_all_refused") rfl)
    k__law_all_refused := by obtain ⟨fd, F⟩ := d.def_ 36 (d := ⟨("_law_all_refused", none), "_law_all_refused", "_law_all_refused", L2.defArgs (K01.topS 60), L2.defBody (K01.topS 60), L2.defScope (K01.topS 60), [], []⟩) rfl; exact F.kp
    d__law_all_refused := by obtain ⟨fd, F⟩ := d.def_ 36 (d := ⟨("_law_all_refused", none), "_law_all_refused", "_law_all_refused", L2.defArgs (K01.topS 60), L2.defBody (K01.topS 60), L2.defScope (K01.topS 60), [], []⟩) rfl; exact ⟨fd, funOf F⟩
    m__law_bad_signs := He.glo_ok X G (d.fact 37 (f := .glo "_law_bad_signs") rfl)
    k__law_bad_signs := by obtain ⟨fd, F⟩ := d.def_ 37 (d := ⟨("_law_bad_signs", none), "_law_bad_signs", "_law_bad_signs", L2.defArgs (K01.topS 61), L2.defBody (K01.topS 61), L2.defScope (K01.topS 61), [], []⟩) rfl; exact F.kp
    d__law_bad_signs := by obtain ⟨fd, F⟩ := d.def_ 37 (d := ⟨("_law_bad_signs", none), "_law_bad_signs", "_law_bad_signs", L2.defArgs (K01.topS 61), L2.defBody (K01.topS 61), L2.defScope (K01.topS 61), [], []⟩) rfl; exact ⟨fd, funOf F⟩
    m__law_bad_chances := He.glo_ok X G (d.fact 38 (f := .glo "_law_bad_chances") rfl)
    k__law_bad_chances := by obtain ⟨fd, F⟩ := d.def_ 38 (d := ⟨("_law_bad_chances", none), "_law_bad_chances", "_law_bad_chances", L2.defArgs (K01.topS 62), L2.defBody (K01.topS 62), L2.defScope (K01.topS 62), [], []⟩) rfl; exact F.kp
    d__law_bad_chances := by obtain ⟨fd, F⟩ := d.def_ 38 (d := ⟨("_law_bad_chances", none), "_law_bad_chances", "_law_bad_chances", L2.defArgs (K01.topS 62), L2.defBody (K01.topS 62), L2.defScope (K01.topS 62), [], []⟩) rfl; exact ⟨fd, funOf F⟩
    m__law_poly := He.glo_ok X G (d.fact 39 (f := .glo "_law_poly") rfl)
    k__law_poly := by obtain ⟨fd, F⟩ := d.def_ 39 (d := ⟨("_law_poly", none), "_law_poly", "_law_poly", L2.defArgs (K01.topS 63), L2.defBody (K01.topS 63), L2.defScope (K01.topS 63), [], []⟩) rfl; exact F.kp
    d__law_poly := by obtain ⟨fd, F⟩ := d.def_ 39 (d := ⟨("_law_poly", none), "_law_poly", "_law_poly", L2.defArgs (K01.topS 63), L2.defBody (K01.topS 63), L2.defScope (K01.topS 63), [], []⟩) rfl; exact ⟨fd, funOf F⟩
    m__law_bounds := He.glo_ok X G (d.fact 40 (f := .glo "_law_bounds") rfl)
    k__law_bounds := by obtain ⟨fd, F⟩ := d.def_ 40 (d := ⟨("_law_bounds", none), "_law_bounds", "_law_bounds", L2.defArgs (K01.topS 64), L2.defBody (K01.topS 64), L2.defScope (K01.topS 64), [], []⟩) rfl; exact F.kp
    d__law_bounds := by obtain ⟨fd, F⟩ := d.def_ 40 (d := ⟨("_law_bounds", none), "_law_bounds", "_law_bounds", L2.defArgs (K01.topS 64), L2.defBody (K01.topS 64), L2.defScope (K01.topS 64), [], []⟩) rfl; exact ⟨fd, funOf F⟩
    m__law_refused := He.glo_ok X G (d.fact 41 (f := .glo "_law_refused") rfl)
    k__law_refused := by obtain ⟨fd, F⟩ := d.def_ 41 (d := ⟨("_law_refused", none), "_law_refused", "_law_refused", L2.defArgs (K01.topS 65), L2.defBody (K01.topS 65), L2.defScope (K01.topS 65), [], []⟩) rfl; exact F.kp
    d__law_refused := by obtain ⟨fd, F⟩ := d.def_ 41 (d := ⟨("_law_refused", none), "_law_refused", "_law_refused", L2.defArgs (K01.topS 65), L2.defBody (K01.topS 65), L2.defScope (K01.topS 65), [], []⟩) rfl; exact ⟨fd, funOf F⟩
    m__law_written := He.glo_ok X G (d.fact 42 (f := .glo "_law_written") rfl)
    k__law_written := by obtain ⟨fd, F⟩ := d.def_ 42 (d := ⟨("_law_written", none), "_law_written", "_law_written", L2.defArgs (K01.topS 66), L2.defBody (K01.topS 66), L2.defScope (K01.topS 66), [], []⟩) rfl; exact F.kp
    d__law_written := by obtain ⟨fd, F⟩ := d.def_ 42 (d := ⟨("_law_written", none), "_law_written", "_law_written", L2.defArgs (K01.topS 66), L2.defBody (K01.topS 66), L2.defScope (K01.topS 66), [], []⟩) rfl; exact ⟨fd, funOf F⟩
    m_law := He.glo_ok X G (d.fact 43 (f := .glo "law") rfl)
    k_law := by obtain ⟨fd, F⟩ := d.def_ 43 (d := ⟨("law", none), "law", "law", L2.defArgs (K01.topS 67), L2.defBody (K01.topS 67), L2.defScope (K01.topS 67), [], []⟩) rfl; exact F.kp
    d_law := by obtain ⟨fd, F⟩ := d.def_ 43 (d := ⟨("law", none), "law", "law", L2.defArgs (K01.topS 67), L2.defBody (K01.topS 67), L2.defScope (K01.topS 67), [], []⟩) rfl; exact ⟨fd, funOf F⟩
    x_InvalidSigns := by have q := He.exc_ok (d.fact 81 (f := .exc "InvalidSigns") rfl); exact ⟨q.1, He.glo_ok X G (d.fact 46 (f := .glo "InvalidSigns") rfl), q.2.1, q.2.2⟩
    x_InvalidChance := by have q := He.exc_ok (d.fact 82 (f := .exc "InvalidChance") rfl); exact ⟨q.1, He.glo_ok X G (d.fact 47 (f := .glo "InvalidChance") rfl), q.2.1, q.2.2⟩
    x_InvalidNumber := by have q := He.exc_ok (d.fact 83 (f := .exc "InvalidNumber") rfl); exact ⟨q.1, He.glo_ok X G (d.fact 48 (f := .glo "InvalidNumber") rfl), q.2.1, q.2.2⟩
    x_InvalidCode := by have q := He.exc_ok (d.fact 84 (f := .exc "InvalidCode") rfl); exact ⟨q.1, He.glo_ok X G (d.fact 49 (f := .glo "InvalidCode") rfl), q.2.1, q.2.2⟩
    x_InvalidData := by have q := He.exc_ok (d.fact 85 (f := .exc "InvalidData") rfl); exact ⟨q.1, He.glo_ok X G (d.fact 50 (f := .glo "InvalidData") rfl), q.2.1, q.2.2⟩
    x_InvalidSeen := by have q := He.exc_ok (d.fact 86 (f := .exc "InvalidSeen") rfl); exact ⟨q.1, He.glo_ok X G (d.fact 51 (f := .glo "InvalidSeen") rfl), q.2.1, q.2.2⟩
    x_InvalidLost := by have q := He.exc_ok (d.fact 87 (f := .exc "InvalidLost") rfl); exact ⟨q.1, He.glo_ok X G (d.fact 52 (f := .glo "InvalidLost") rfl), q.2.1, q.2.2⟩
    x_InvalidTable := by have q := He.exc_ok (d.fact 88 (f := .exc "InvalidTable") rfl); exact ⟨q.1, He.glo_ok X G (d.fact 53 (f := .glo "InvalidTable") rfl), q.2.1, q.2.2⟩
    x_InvalidFacts := by have q := He.exc_ok (d.fact 89 (f := .exc "InvalidFacts") rfl); exact ⟨q.1, He.glo_ok X G (d.fact 54 (f := .glo "InvalidFacts") rfl), q.2.1, q.2.2⟩
    x_InvalidShare := by have q := He.exc_ok (d.fact 90 (f := .exc "InvalidShare") rfl); exact ⟨q.1, He.glo_ok X G (d.fact 55 (f := .glo "InvalidShare") rfl), q.2.1, q.2.2⟩
    x_InvalidPlace := by have q := He.exc_ok (d.fact 91 (f := .exc "InvalidPlace") rfl); exact ⟨q.1, He.glo_ok X G (d.fact 56 (f := .glo "InvalidPlace") rfl), q.2.1, q.2.2⟩
    x_InvalidSign := by have q := He.exc_ok (d.fact 92 (f := .exc "InvalidSign") rfl); exact ⟨q.1, He.glo_ok X G (d.fact 57 (f := .glo "InvalidSign") rfl), q.2.1, q.2.2⟩
    x_InvalidText := by have q := He.exc_ok (d.fact 93 (f := .exc "InvalidText") rfl); exact ⟨q.1, He.glo_ok X G (d.fact 58 (f := .glo "InvalidText") rfl), q.2.1, q.2.2⟩
    x_Misfit := by have q := He.exc_ok (d.fact 94 (f := .exc "Misfit") rfl); exact ⟨q.1, He.glo_ok X G (d.fact 59 (f := .glo "Misfit") rfl), q.2.1, q.2.2⟩
    x_Unlike := by have q := He.exc_ok (d.fact 95 (f := .exc "Unlike") rfl); exact ⟨q.1, He.glo_ok X G (d.fact 60 (f := .glo "Unlike") rfl), q.2.1, q.2.2⟩
    x_NothingToUndo := by have q := He.exc_ok (d.fact 96 (f := .exc "NothingToUndo") rfl); exact ⟨q.1, He.glo_ok X G (d.fact 61 (f := .glo "NothingToUndo") rfl), q.2.1, q.2.2⟩
    m_SplitError := He.glo_ok X G (d.fact 44 (f := .glo "SplitError") rfl)
    m_InvalidSigns := He.glo_ok X G (d.fact 46 (f := .glo "InvalidSigns") rfl)
    m_InvalidChance := He.glo_ok X G (d.fact 47 (f := .glo "InvalidChance") rfl)
    m_InvalidNumber := He.glo_ok X G (d.fact 48 (f := .glo "InvalidNumber") rfl)
    m_InvalidCode := He.glo_ok X G (d.fact 49 (f := .glo "InvalidCode") rfl)
    m_InvalidData := He.glo_ok X G (d.fact 50 (f := .glo "InvalidData") rfl)
    m_InvalidSeen := He.glo_ok X G (d.fact 51 (f := .glo "InvalidSeen") rfl)
    m_InvalidLost := He.glo_ok X G (d.fact 52 (f := .glo "InvalidLost") rfl)
    m_InvalidTable := He.glo_ok X G (d.fact 53 (f := .glo "InvalidTable") rfl)
    m_InvalidFacts := He.glo_ok X G (d.fact 54 (f := .glo "InvalidFacts") rfl)
    m_InvalidShare := He.glo_ok X G (d.fact 55 (f := .glo "InvalidShare") rfl)
    m_InvalidPlace := He.glo_ok X G (d.fact 56 (f := .glo "InvalidPlace") rfl)
    m_InvalidSign := He.glo_ok X G (d.fact 57 (f := .glo "InvalidSign") rfl)
    m_InvalidText := He.glo_ok X G (d.fact 58 (f := .glo "InvalidText") rfl)
    m_Misfit := He.glo_ok X G (d.fact 59 (f := .glo "Misfit") rfl)
    m_Unlike := He.glo_ok X G (d.fact 60 (f := .glo "Unlike") rfl)
    m_NothingToUndo := He.glo_ok X G (d.fact 61 (f := .glo "NothingToUndo") rfl)
    m_TooMany := He.glo_ok X G (d.fact 45 (f := .glo "TooMany") rfl)
    exm := fun j hj => match j, hj with
      | 0, _ => He.exm_ok (d.fact 97 (f := .exm "InvalidSigns" "SplitError" true) rfl)
      | 1, _ => He.exm_ok (d.fact 98 (f := .exm "InvalidChance" "SplitError" true) rfl)
      | 2, _ => He.exm_ok (d.fact 99 (f := .exm "InvalidNumber" "SplitError" true) rfl)
      | 3, _ => He.exm_ok (d.fact 100 (f := .exm "InvalidCode" "SplitError" true) rfl)
      | 4, _ => He.exm_ok (d.fact 101 (f := .exm "InvalidData" "SplitError" true) rfl)
      | 5, _ => He.exm_ok (d.fact 102 (f := .exm "InvalidSeen" "SplitError" true) rfl)
      | 6, _ => He.exm_ok (d.fact 103 (f := .exm "InvalidLost" "SplitError" true) rfl)
      | 7, _ => He.exm_ok (d.fact 104 (f := .exm "InvalidTable" "SplitError" true) rfl)
      | 8, _ => He.exm_ok (d.fact 105 (f := .exm "InvalidFacts" "SplitError" true) rfl)
      | 9, _ => He.exm_ok (d.fact 106 (f := .exm "InvalidShare" "SplitError" true) rfl)
      | 10, _ => He.exm_ok (d.fact 107 (f := .exm "InvalidPlace" "SplitError" true) rfl)
      | 11, _ => He.exm_ok (d.fact 108 (f := .exm "InvalidSign" "SplitError" true) rfl)
      | 12, _ => He.exm_ok (d.fact 109 (f := .exm "InvalidText" "SplitError" true) rfl)
      | 13, _ => He.exm_ok (d.fact 110 (f := .exm "Misfit" "SplitError" true) rfl)
      | 14, _ => He.exm_ok (d.fact 111 (f := .exm "Unlike" "SplitError" true) rfl)
      | 15, _ => He.exm_ok (d.fact 112 (f := .exm "NothingToUndo" "SplitError" true) rfl)
      | n + 16, hj => by omega
    q_InvalidSigns := by have q := e3 0 _ rfl; obtain ⟨q1, q2⟩ := Bool.and_eq_true_iff.mp q; exact ⟨excC_of q1, of_decide_eq_true q2⟩
    q_InvalidChance := by have q := e3 1 _ rfl; obtain ⟨q1, q2⟩ := Bool.and_eq_true_iff.mp q; exact ⟨excC_of q1, of_decide_eq_true q2⟩
    q_InvalidNumber := by have q := e3 2 _ rfl; obtain ⟨q1, q2⟩ := Bool.and_eq_true_iff.mp q; exact ⟨excC_of q1, of_decide_eq_true q2⟩
    q_InvalidCode := by have q := e3 3 _ rfl; obtain ⟨q1, q2⟩ := Bool.and_eq_true_iff.mp q; exact ⟨excC_of q1, of_decide_eq_true q2⟩
    q_InvalidData := by have q := e3 4 _ rfl; obtain ⟨q1, q2⟩ := Bool.and_eq_true_iff.mp q; exact ⟨excC_of q1, of_decide_eq_true q2⟩
    q_InvalidSeen := by have q := e3 5 _ rfl; obtain ⟨q1, q2⟩ := Bool.and_eq_true_iff.mp q; exact ⟨excC_of q1, of_decide_eq_true q2⟩
    q_InvalidLost := by have q := e3 6 _ rfl; obtain ⟨q1, q2⟩ := Bool.and_eq_true_iff.mp q; exact ⟨excC_of q1, of_decide_eq_true q2⟩
    q_InvalidTable := by have q := e3 7 _ rfl; obtain ⟨q1, q2⟩ := Bool.and_eq_true_iff.mp q; exact ⟨excC_of q1, of_decide_eq_true q2⟩
    q_InvalidFacts := by have q := e3 8 _ rfl; obtain ⟨q1, q2⟩ := Bool.and_eq_true_iff.mp q; exact ⟨excC_of q1, of_decide_eq_true q2⟩
    q_InvalidShare := by have q := e3 9 _ rfl; obtain ⟨q1, q2⟩ := Bool.and_eq_true_iff.mp q; exact ⟨excC_of q1, of_decide_eq_true q2⟩
    q_InvalidPlace := by have q := e3 10 _ rfl; obtain ⟨q1, q2⟩ := Bool.and_eq_true_iff.mp q; exact ⟨excC_of q1, of_decide_eq_true q2⟩
    q_InvalidSign := by have q := e3 11 _ rfl; obtain ⟨q1, q2⟩ := Bool.and_eq_true_iff.mp q; exact ⟨excC_of q1, of_decide_eq_true q2⟩
    q_InvalidText := by have q := e3 12 _ rfl; obtain ⟨q1, q2⟩ := Bool.and_eq_true_iff.mp q; exact ⟨excC_of q1, of_decide_eq_true q2⟩
    q_Misfit := by have q := e3 13 _ rfl; obtain ⟨q1, q2⟩ := Bool.and_eq_true_iff.mp q; exact ⟨excC_of q1, of_decide_eq_true q2⟩
    q_Unlike := by have q := e3 14 _ rfl; obtain ⟨q1, q2⟩ := Bool.and_eq_true_iff.mp q; exact ⟨excC_of q1, of_decide_eq_true q2⟩
    q_NothingToUndo := by have q := e3 15 _ rfl; obtain ⟨q1, q2⟩ := Bool.and_eq_true_iff.mp q; exact ⟨excC_of q1, of_decide_eq_true q2⟩
    t__law_all_refused := hB (He.cT K ("_law_all_refused", none)) (List.mem_of_getElem? (i := 0) rfl)
    t__law_refused := hB (He.cT K ("_law_refused", none)) (List.mem_of_getElem? (i := 1) rfl)
    t__law_written := hB (He.cT K ("_law_written", none)) (List.mem_of_getElem? (i := 2) rfl)
    tnd := of_decide_eq_true e1 }
/-- what the law is to do with the script -/
def G0 (K : PySem.W.Frag) : Gx := ⟨tbK K, none, [], fun _ => none, []⟩
theorem law_sp {K : PySem.W.Frag} {H : Hp} {a : Addr} {ns : List Int} (hT : ∀ p ∈ tfL.map (He.cT K), H p.2 = some (.tbl #[])) (hS : SqL K H a (ns.map V.int)) (hl : ns.length ≤ 63)
    (ok : ∀ d, d = D.scr (ns.map D.int) ∨ d = D.lst (ns.map D.int) → ∃ st', m_law [d] [] = .ok (.bl true) st') : spM K (G0 K) 1 m_law [.ref a] H (fun v _ => v = .bl true) fun _ _ _ => False := by
  have rl : ∀ ns : List Int, RpL K (G0 K) [] H (ns.map D.int) (ns.map V.int) := fun ns => by
    induction ns with
    | nil => exact .nil
    | cons n r ih => exact .cons .int ih
  have htabs : LamX.Tabs (tbK K).tabs H := fun p hp => by
    simp only [tbK, List.mem_cons, List.not_mem_nil, or_false] at hp
    rcases hp with rfl | rfl | rfl
    · exact LamX.TabS.nil (hT (He.cT K ("_law_all_refused", none)) (List.mem_of_getElem? (i := 0) rfl))
    · exact LamX.TabS.nil (hT (He.cT K ("_law_refused", none)) (List.mem_of_getElem? (i := 1) rfl))
    · exact LamX.TabS.nil (hT (He.cT K ("_law_written", none)) (List.mem_of_getElem? (i := 2) rfl))
  have so : StOk K (G0 K) [] H [] := ⟨rfl, List.nodup_nil, fun n c a h => by simp at h, htabs, Ext.start, (fun a h => nomatch h), (fun a h => nomatch h)⟩
  have fin : ∀ d, Rp K (G0 K) [] H d (.ref a) → (∃ st', m_law [d] [] = .ok (.bl true) st') → spM K (G0 K) 1 m_law [.ref a] H (fun v _ => v = .bl true) fun _ _ _ => False := fun d r ⟨st', e⟩ => by
    refine ⟨[], [d], [], rfl, so, .cons r .nil, ?_⟩
    rw [e]
    intro φ' H' x s v rv
    cases rv
    rfl
  rcases hS with (h | ⟨o, h⟩) | h
  · exact fin _ (.lst h (by simp) (by simp [G0]) (rl ns)) (ok _ (.inr rfl))
  · exact fin _ (.scr (.inl ⟨o, h⟩) (rl ns)) (ok _ (.inl rfl))
  · exact fin _ (.scr (.inr fun H' => .inr h) (rl ns)) (ok _ (.inl rfl))
end K01
open PySem PySem.W PySem.Calls PyProof.Rows
theorem PySem.Challenge.cw_splituses_k01_whole_losses_and_polynomia_holds : PySem.Challenge.rw_splituses_k01_whole_losses_and_polynomia.Holds := by
  w_on; o_law
  refine HandSHeadRun.head_any (r := OpenLaw.row PySem.Challenge.rw_splituses_k01_whole_losses_and_polynomia) (q := view (OpenLaw.row PySem.Challenge.rw_splituses_k01_whole_losses_and_polynomia).prog [67]) (H := K01.hk) (ob := K01.ob) (M := 12000) (loose := K01.loose) (d := HandSHeadRun.topDef (OpenLaw.row PySem.Challenge.rw_splituses_k01_whole_losses_and_polynomia).prog 67) (kwd := []) K01.ob_eq
    (by kernel_rfl) (fun s => by kernel_rfl) K01.run (by kernel_rfl) (by kernel_rfl) (by kernel_rfl) (by rfl) (by first | assumption | decide +kernel) (by decide +kernel) ⟨rfl, rfl, rfl, rfl, rfl, by decide +kernel⟩ ?hw ?hc
  case hw => w_witness2
  case hc =>
    refine LamX.walk_ofTsE (l := PySem.Challenge.rw_splituses_k01_whole_losses_and_polynomia) (n := 63) (k := 45) (x := "script") (CX := fun w => L2N.CX (PySem.Challenge.rw_splituses_k01_whole_losses_and_polynomia).prog w) rfl (by decide) (by kernel_rfl) ⟨rfl, by decide, by decide⟩ ?F ?C
    case C =>
      intro w H s e s' z
      obtain ⟨_, _, _, _, _, _, _, _, _, _, _, _, z⟩ := z
      exact z
    case F =>
      intro w mg fa h Y G hmg0
      obtain ⟨K, KX, c⟩ := Y
      have hmg : mg ("law" : PySem.Str) = some (.ref fa) := by
        have e : (HandSHeadRun.topDef (OpenLaw.row PySem.Challenge.rw_splituses_k01_whole_losses_and_polynomia).prog 67).name = ("law" : PySem.Str) := by kernel_rfl
        rw [← e]
        exact hmg0
      have hga := He.glo_ok KX G (c.t.d.fact 43 (f := .glo "law") rfl)
      have efa : fa = He.ga K "law" := by
        rw [hga] at hmg
        cases hmg
        rfl
      obtain ⟨fd, F⟩ := c.t.d.def_ 43 (d := ⟨("law", none), "law", "law", L2.defArgs (K01.topS 67), L2.defBody (K01.topS 67), L2.defScope (K01.topS 67), [], []⟩) rfl
      have F2 : L2.Fun K "law" "law" (K01.topS 67) (He.ga K "law") fd := K01.funOf F
      have bn := L2.FunD.bindsA (ps := ["script"]) F fun _ _ _ _ _ _ us hl => match us, hl with | [_], _ => rfl
      refine ⟨K, KX, fd, K01.tfL.map (He.cT K), DL.spM K (K01.G0 K) 1 K01.m_law, fun p hp => ?_, fun p hp => ?_, fun p hp => ?_, fun s u => bn s [u] rfl, fun H a ns hl _ hT hS => K01.law_sp hT hS hl fun d hd => K01.lawT ns d hl hd, fun base kb nb hB => ?_⟩
      · obtain ⟨q, hq, e⟩ := List.mem_map.mp hp
        rw [← e]
        exact c.empty q hq
      · obtain ⟨q, hq, e⟩ := List.mem_map.mp hp
        rw [← e]
        exact c.out q hq
      · obtain ⟨q, hq, e⟩ := List.mem_map.mp hp
        rw [← e]
        exact PySem.W.codeHd_of_K KX (c.hd q hq)
      · rw [efa]
        exact K01.okF_law (K01.fz kb nb c hB) rfl F2


