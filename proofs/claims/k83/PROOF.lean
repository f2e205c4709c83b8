import PyProof.Rows.All
import Wide.All
import OpenK.AllK
import Wide.FinOn
import HandS.ForMost
import HandS.Exc
import HandS.WordsExc
import HandS.Wide
import HandS.TupAny
import HandS.TupMul
import HandS.Deep
import HandS.TupLe
import HandS.Conv
import HandS.More
import KE.KUnpackStar
import HandS.NoneIn
import HandS.Small
import HandS.Zip
import HandS.Iter
import HandS.Comp
import HandS.Defaults
import HandS.MakeKw
import HandS.MakeKwOnly
import HandS.FStr
import HandS.IsInst
import PyProof.SliceList
import HandS.RaiseMore
import HandS.Flow
import HandS.Text
import HandS.List
import HandS.Dict
import HandS.SetBool
import HandS.SetKeys
import HandS.EndBits
import PySem.Challenge.RW_crowdsay_k83_sentences_written_and_read
set_option Elab.async false
set_option linter.all false
set_option maxRecDepth 100000
set_option maxHeartbeats 2000000
namespace Dm
open PySem L2

/-! ### data, cells, the store -/
inductive D where
  | non | bl (b : Bool) | int (i : Int) | str (s : Str) | tup (xs : List D) | wtup (xs : List D) | lst (xs : List D) | wlst (xs : List D) | box (i : Nat) | glb (x : Str)
inductive Cell where
  | lst (xs : List D) | ro (xs : List D) | dic (kd : Nat) (lk : Bool) (kvs : List (D × D)) | ins (c : Str) (fs : List (Str × D)) | dead
abbrev Store := List Cell
structure Exn where
  cls : Str
  fl : List (Str × D)
inductive Rs (α : Type) where
  | ok (a : α) | ex (e : Exn)
abbrev M (α : Type) := Store → Option (Rs α × Store)
abbrev Env := List (Option D)
inductive Fl where
  | nx (ρ : Env) | rt (d : D) | bk (ρ : Env) | ct (ρ : Env) | ex (e : Exn) (ρ : Env)
abbrev EM := Env → M D
abbrev TM := Env → M Bool
abbrev AM := Env → M (List D)
abbrev SM := Env → Store → Option (Fl × Store)

/-! ### what the data stands for -/
structure Wd where
  Hf : Hp
  eta : List Addr
  pv : List (Addr × HO)
structure Wle (W W' : Wd) : Prop where
  hf : ∀ a o, W.Hf a = some o → W'.Hf a = some o
  et : ∃ t, W'.eta = W.eta ++ t
  pv : W'.pv = W.pv
theorem Wle.refl (W : Wd) : Wle W W := ⟨fun _ _ h => h, ⟨[], (List.append_nil _).symm⟩, rfl⟩
theorem Wle.trans {W W' W'' : Wd} (a : Wle W W') (b : Wle W' W'') : Wle W W'' := by
  obtain ⟨t, e⟩ := a.et
  obtain ⟨t', e'⟩ := b.et
  exact ⟨fun x o h => b.hf x o (a.hf x o h), ⟨t ++ t', by rw [e', e, List.append_assoc]⟩, b.pv.trans a.pv⟩
theorem Wle.get {W W' : Wd} (h : Wle W W') {i : Nat} {a : Addr} (e : W.eta[i]? = some a) : W'.eta[i]? = some a := by
  obtain ⟨t, e'⟩ := h.et
  rw [e', List.getElem?_append_left (List.getElem?_eq_some_iff.mp e).1]
  exact e
structure Wsub (W W' : Wd) : Prop where
  hf : ∀ a o, W.Hf a = some o → W'.Hf a = some o
  et : ∃ t, W'.eta = W.eta ++ t
theorem Wle.sub {W W' : Wd} (h : Wle W W') : Wsub W W' := ⟨h.hf, h.et⟩
theorem Wsub.trans {W W' W'' : Wd} (a : Wsub W W') (b : Wsub W' W'') : Wsub W W'' := by
  obtain ⟨t, e⟩ := a.et
  obtain ⟨t', e'⟩ := b.et
  exact ⟨fun x o h => b.hf x o (a.hf x o h), ⟨t ++ t', by rw [e', e, List.append_assoc]⟩⟩
theorem Wsub.get {W W' : Wd} (h : Wsub W W') {i : Nat} {a : Addr} (e : W.eta[i]? = some a) : W'.eta[i]? = some a := by
  obtain ⟨t, e'⟩ := h.et
  rw [e', List.getElem?_append_left (List.getElem?_eq_some_iff.mp e).1]
  exact e
theorem sqT_mono {K : PySem.W.Frag} {H H' : Hp} (h : ∀ a o, H a = some o → H' a = some o) {a : Addr} {xs : List V} (q : SqT K H a xs) : SqT K H' a xs := by
  rcases q with (q | ⟨o, q⟩) | q
  · exact .inl (.inl (h _ _ q))
  · exact .inl (.inr ⟨o, h _ _ q⟩)
  · exact .inr q

mutual
inductive Rep (K : PySem.W.Frag) (mg : Str → Option Value) (W : Wd) : D → V → Prop where
  | non : Rep K mg W .non .non
  | bl {b : Bool} : Rep K mg W (.bl b) (.bl b)
  | int {i : Int} : Rep K mg W (.int i) (.int i)
  | str {s : Str} (z : s.length ≤ sizeLine) : Rep K mg W (.str s) (.str s)
  | tup {ds : List D} {a : Addr} {vs : List V} (h : W.Hf a = some (.tup vs)) (z : ds.length ≤ sizeLine) (r : RepL K mg W ds vs) : Rep K mg W (.tup ds) (.ref a)
  | wtup {ds : List D} {a : Addr} {vs : List V} (h : ∀ H, SqT K H a vs) (z : ds.length ≤ sizeLine) (r : RepL K mg W ds vs) : Rep K mg W (.wtup ds) (.ref a)
  | lst {ds : List D} {a : Addr} {vs : List V} (h : W.Hf a = some (.lst vs)) (z : ds.length ≤ sizeLine) (r : RepL K mg W ds vs) : Rep K mg W (.lst ds) (.ref a)
  | wlst {ds : List D} {a : Addr} {vs : List V} (h : ∀ H, (∀ b o, W.Hf b = some o → H b = some o) → SqL K H a vs) (z : ds.length ≤ sizeLine) (r : RepL K mg W ds vs) : Rep K mg W (.wlst ds) (.ref a)
  | box {i : Nat} {a : Addr} (h : W.eta[i]? = some a) : Rep K mg W (.box i) (.ref a)
  | glb {x : Str} {v : V} {u : Value} (h : mg x = some u) (r : RelV v u) : Rep K mg W (.glb x) v
inductive RepL (K : PySem.W.Frag) (mg : Str → Option Value) (W : Wd) : List D → List V → Prop where
  | nil : RepL K mg W [] []
  | cons {d : D} {ds : List D} {v : V} {vs : List V} (h : Rep K mg W d v) (r : RepL K mg W ds vs) : RepL K mg W (d :: ds) (v :: vs)
end
section
variable {K : PySem.W.Frag} {mg : Str → Option Value} {W W' : Wd}
mutual
theorem Rep.monoV (w : ∀ a o, W.Hf a = some o → W'.Hf a = some o) (w2 : ∀ (i : Nat) a, W.eta[i]? = some a → W'.eta[i]? = some a) : ∀ {d : D} {v : V}, Rep K mg W d v → Rep K mg W' d v
  | _, _, .non => .non
  | _, _, .bl => .bl
  | _, _, .int => .int
  | _, _, .str z => .str z
  | _, _, .tup h z r => .tup (w _ _ h) z (RepL.monoV w w2 r)
  | _, _, .wtup h z r => .wtup h z (RepL.monoV w w2 r)
  | _, _, .lst h z r => .lst (w _ _ h) z (RepL.monoV w w2 r)
  | _, _, .wlst h z r => .wlst (fun H q => h H fun b o e => q b o (w b o e)) z (RepL.monoV w w2 r)
  | _, _, .box h => .box (w2 _ _ h)
  | _, _, .glb h r => .glb h r
theorem RepL.monoV (w : ∀ a o, W.Hf a = some o → W'.Hf a = some o) (w2 : ∀ (i : Nat) a, W.eta[i]? = some a → W'.eta[i]? = some a) : ∀ {ds : List D} {vs : List V}, RepL K mg W ds vs → RepL K mg W' ds vs
  | _, _, .nil => .nil
  | _, _, .cons h r => .cons (Rep.monoV w w2 h) (RepL.monoV w w2 r)
end
theorem Rep.mono (w : Wle W W') {d : D} {v : V} (r : Rep K mg W d v) : Rep K mg W' d v := r.monoV w.hf fun _ _ e => w.get e
theorem RepL.mono (w : Wle W W') {ds : List D} {vs : List V} (r : RepL K mg W ds vs) : RepL K mg W' ds vs := r.monoV w.hf fun _ _ e => w.get e
theorem Rep.monoS (w : Wsub W W') {d : D} {v : V} (r : Rep K mg W d v) : Rep K mg W' d v := r.monoV w.hf fun _ _ e => w.get e
theorem RepL.monoS (w : Wsub W W') {ds : List D} {vs : List V} (r : RepL K mg W ds vs) : RepL K mg W' ds vs := r.monoV w.hf fun _ _ e => w.get e
theorem RepL.length : ∀ {ds : List D} {vs : List V}, RepL K mg W ds vs → ds.length = vs.length
  | _, _, .nil => rfl
  | _, _, .cons _ r => congrArg (· + 1) r.length
theorem RepL.append : ∀ {ds es : List D} {vs us : List V}, RepL K mg W ds vs → RepL K mg W es us → RepL K mg W (ds ++ es) (vs ++ us)
  | _, _, _, _, .nil, s => s
  | _, _, _, _, .cons h r, s => .cons h (r.append s)
theorem RepL.get : ∀ {ds : List D} {vs : List V}, RepL K mg W ds vs → ∀ {i : Nat} {d : D}, ds[i]? = some d → ∃ v, vs[i]? = some v ∧ Rep K mg W d v
  | _, _, .nil, i, d, e => by simp at e
  | _, _, .cons h r, 0, d, e => by simp at e; subst e; exact ⟨_, by simp, h⟩
  | _, _, .cons h r, i + 1, d, e => by
    obtain ⟨v, h1, h2⟩ := r.get (i := i) (d := d) (by simpa using e)
    exact ⟨v, by simpa using h1, h2⟩
theorem RepL.getV : ∀ {ds : List D} {vs : List V}, RepL K mg W ds vs → ∀ {i : Nat} {v : V}, vs[i]? = some v → ∃ d, ds[i]? = some d ∧ Rep K mg W d v
  | _, _, .nil, i, d, e => by simp at e
  | _, _, .cons h r, 0, d, e => by simp at e; subst e; exact ⟨_, by simp, h⟩
  | _, _, .cons h r, i + 1, d, e => by
    obtain ⟨v, h1, h2⟩ := r.getV (i := i) (v := d) (by simpa using e)
    exact ⟨v, by simpa using h1, h2⟩
theorem RepL.take : ∀ (n : Nat) {ds : List D} {vs : List V}, RepL K mg W ds vs → RepL K mg W (ds.take n) (vs.take n)
  | 0, _, _, _ => by simp; exact .nil
  | n + 1, _, _, .nil => .nil
  | n + 1, _, _, .cons h r => .cons h (r.take n)
theorem RepL.drop : ∀ (n : Nat) {ds : List D} {vs : List V}, RepL K mg W ds vs → RepL K mg W (ds.drop n) (vs.drop n)
  | 0, _, _, r => r
  | n + 1, _, _, .nil => .nil
  | n + 1, _, _, .cons _ r => r.drop n
theorem RepL.set {d : D} {v : V} (h : Rep K mg W d v) : ∀ (i : Nat) {ds : List D} {vs : List V}, RepL K mg W ds vs → RepL K mg W (ds.set i d) (vs.set i v)
  | _, _, _, .nil => .nil
  | 0, _, _, .cons _ r => .cons h r
  | i + 1, _, _, .cons q r => .cons q (r.set h i)
theorem RepL.reverse : ∀ {ds : List D} {vs : List V}, RepL K mg W ds vs → RepL K mg W ds.reverse vs.reverse
  | _, _, .nil => .nil
  | _, _, .cons h r => by rw [List.reverse_cons, List.reverse_cons]; exact r.reverse.append (.cons h .nil)
theorem RepL.dropLast : ∀ {ds : List D} {vs : List V}, RepL K mg W ds vs → RepL K mg W ds.dropLast vs.dropLast
  | _, _, .nil => .nil
  | _, _, .cons h .nil => .nil
  | _, _, .cons h (.cons h' r) => .cons h (RepL.dropLast (.cons h' r))
theorem RepL.eraseIdx : ∀ (i : Nat) {ds : List D} {vs : List V}, RepL K mg W ds vs → RepL K mg W (ds.eraseIdx i) (vs.eraseIdx i)
  | _, _, _, .nil => .nil
  | 0, _, _, .cons _ r => r
  | i + 1, _, _, .cons q r => .cons q (r.eraseIdx i)
theorem RepL.one {d : D} {v : V} (h : Rep K mg W d v) : RepL K mg W [d] [v] := .cons h .nil
theorem RepL.flat : ∀ (n : Nat) {ds : List D} {vs : List V}, RepL K mg W ds vs → RepL K mg W (List.replicate n ds).flatten (List.replicate n vs).flatten
  | 0, _, _, _ => .nil
  | n + 1, _, _, r => by rw [List.replicate_succ, List.replicate_succ, List.flatten_cons, List.flatten_cons]; exact r.append (RepL.flat n r)
end

/-! ### cells -/
def keyK : D → Option Key
  | .int i => some (.inl i)
  | .str s => some (.inr s)
  | _ => none
def keysK : List D → Option (List Key)
  | [] => some []
  | d :: ds => match keyK d, keysK ds with
    | some k, some ks => some (k :: ks)
    | _, _ => none
def keyT : D → Option (List Key)
  | .tup ds => keysK ds
  | _ => none
section
variable (K : PySem.W.Frag) (mg : Str → Option Value) (W : Wd)
/-- the dict's object -/
abbrev RK0 (d : D) (k : Key) : Prop := Rep K mg W d (kV k)
abbrev RK1 (d : D) (k : List Key) : Prop := ∃ ds, d = .tup ds ∧ ds.length ≤ sizeLine ∧ RepL K mg W ds (k.map kV)
def DicO (kd : Nat) (kvs : List (D × D)) (u : HO) : Prop :=
  (kd = 0 ∧ ∃ kk : List (Key × V), u = .dK kk ∧ Paired (fun (p : D × D) (q : Key × V) => (keyK p.1 = some q.1 ∧ RK0 K mg W p.1 q.1) ∧ Rep K mg W p.2 q.2) kvs kk) ∨
  (kd = 1 ∧ ∃ kk : List (List Key × V), u = .dT kk ∧ Paired (fun (p : D × D) (q : List Key × V) => (keyT p.1 = some q.1 ∧ RK1 K mg W p.1 q.1) ∧ Rep K mg W p.2 q.2) kvs kk)
def CellOk (H : Hp) (a : Addr) : Cell → Prop
  | .lst ds => ds.length ≤ sizeLine ∧ ∃ vs, H a = some (.lst vs) ∧ RepL K mg W ds vs
  | .ro ds => ds.length ≤ sizeLine ∧ ∃ o vs, H a = some (.frz o (.lst vs)) ∧ RepL K mg W ds vs
  | .dic kd false kvs => ∃ u, DicO K mg W kd kvs u ∧ H a = some u
  | .dic kd true kvs => ∃ o u, DicO K mg W kd kvs u ∧ H a = some (.frz o u)
  | .ins c fs => ∃ C dx vs, mg c = some (.ref C) ∧ H a = some (.ins C dx vs) ∧ Paired (fun (p : Str × D) (q : Str × V) => p.1 = q.1 ∧ Rep K mg W p.2 q.2) fs vs
  | .dead => True
structure Hold (S : Store) (H : Hp) : Prop where
  ex : ∀ a o, W.Hf a = some o → H a = some o
  len : W.eta.length = S.length
  nd : ∀ (i j : Nat) (a : Addr), W.eta[i]? = some a → W.eta[j]? = some a → i = j
  cells : ∀ (i : Nat) a c, W.eta[i]? = some a → S[i]? = some c → c = .dead ∨ (W.Hf a = none ∧ CellOk K mg W H a c)
  there : ∀ (i : Nat) a, W.eta[i]? = some a → H a ≠ none
  pvt : ∀ p ∈ W.pv, H p.1 = some p.2 ∧ W.Hf p.1 = none ∧ ∀ (i : Nat), W.eta[i]? ≠ some p.1
end
section
variable {K : PySem.W.Frag} {mg : Str → Option Value} {W W' : Wd} {S : Store} {H H' : Hp}
theorem DicO.monoV (w : ∀ a o, W.Hf a = some o → W'.Hf a = some o) (w2 : ∀ (i : Nat) a, W.eta[i]? = some a → W'.eta[i]? = some a) {kd : Nat} {kvs : List (D × D)} {u : HO} (h : DicO K mg W kd kvs u) : DicO K mg W' kd kvs u := by
  rcases h with ⟨e, kk, e', p⟩ | ⟨e, kk, e', p⟩
  · exact .inl ⟨e, kk, e', Paired.mapP p fun _ _ q => ⟨⟨q.1.1, q.1.2.monoV w w2⟩, q.2.monoV w w2⟩⟩
  · exact .inr ⟨e, kk, e', Paired.mapP p fun _ _ q => ⟨⟨q.1.1, let ⟨ds, h1, h0, h2⟩ := q.1.2; ⟨ds, h1, h0, h2.monoV w w2⟩⟩, q.2.monoV w w2⟩⟩
theorem CellOk.monoV (w : ∀ a o, W.Hf a = some o → W'.Hf a = some o) (w2 : ∀ (i : Nat) a, W.eta[i]? = some a → W'.eta[i]? = some a) {a : Addr} (e : H' a = H a) : ∀ {c : Cell}, CellOk K mg W H a c → CellOk K mg W' H' a c
  | .lst ds, ⟨z, vs, h, r⟩ => ⟨z, vs, e.trans h, r.monoV w w2⟩
  | .ro ds, ⟨z, o, vs, h, r⟩ => ⟨z, o, vs, e.trans h, r.monoV w w2⟩
  | .dic kd false kvs, ⟨u, h, q⟩ => ⟨u, h.monoV w w2, e.trans q⟩
  | .dic kd true kvs, ⟨o, u, h, q⟩ => ⟨o, u, h.monoV w w2, e.trans q⟩
  | .ins c fs, ⟨C, dx, vs, h1, h2, p⟩ => ⟨C, dx, vs, h1, e.trans h2, Paired.mapP p fun _ _ q => ⟨q.1, q.2.monoV w w2⟩⟩
  | .dead, _ => True.intro
theorem DicO.mono (w : Wle W W') {kd : Nat} {kvs : List (D × D)} {u : HO} (h : DicO K mg W kd kvs u) : DicO K mg W' kd kvs u := h.monoV w.hf fun _ _ e => w.get e
theorem CellOk.mono (w : Wle W W') {a : Addr} (e : H' a = H a) {c : Cell} (h : CellOk K mg W H a c) : CellOk K mg W' H' a c := h.monoV w.hf (fun _ _ e => w.get e) e
/-- a new frozen object -/
theorem Hold.froze (h : Hold K mg W S H) {p : Addr} {o : HO} (np : H p = none) : Wle W ⟨upd W.Hf p o, W.eta, W.pv⟩ ∧ Hold K mg ⟨upd W.Hf p o, W.eta, W.pv⟩ S (upd H p o) := by
  have nf : W.Hf p = none := by
    cases e : W.Hf p with
    | none => rfl
    | some u => rw [h.ex _ _ e] at np; cases np
  have w : Wle W ⟨upd W.Hf p o, W.eta, W.pv⟩ := ⟨fun a u e => by
    show upd W.Hf p o a = some u
    rw [upd_ne (ne_of_none e nf)]; exact e, ⟨[], (List.append_nil _).symm⟩, rfl⟩
  refine ⟨w, ⟨fun a u e => ?_, h.len, h.nd, fun i a c e1 e2 => ?_, fun i a e1 => ?_, fun q hq => ?_⟩⟩
  · by_cases q : a = p
    · subst q
      have e' : upd W.Hf a o a = some u := e
      rw [upd_same] at e'; rw [upd_same]; exact e'
    · have e' : upd W.Hf p o a = some u := e
      rw [upd_ne q] at e'; rw [upd_ne q]; exact h.ex a u e'
  · have q : a ≠ p := fun z => h.there i a e1 (by rw [z]; exact np)
    rcases h.cells i a c e1 e2 with k | ⟨k1, k2⟩
    · exact .inl k
    · refine .inr ⟨?_, k2.mono w (upd_ne q)⟩
      show upd W.Hf p o a = none
      rw [upd_ne q]; exact k1
  · have q : a ≠ p := fun z => h.there i a e1 (by rw [z]; exact np)
    rw [upd_ne q]; exact h.there i a e1
  · obtain ⟨k1, k2, k3⟩ := h.pvt q hq
    have z : q.1 ≠ p := ne_of_none k1 np
    exact ⟨by rw [upd_ne z]; exact k1, by show upd W.Hf p o q.1 = none; rw [upd_ne z]; exact k2, k3⟩
/-- a new cell -/
theorem Hold.boxed (h : Hold K mg W S H) {p : Addr} {o : HO} {c : Cell} (np : H p = none) (hc : ∀ W', Wle W W' → CellOk K mg W' (upd H p o) p c) :
    Wle W ⟨W.Hf, W.eta ++ [p], W.pv⟩ ∧ Hold K mg ⟨W.Hf, W.eta ++ [p], W.pv⟩ (S ++ [c]) (upd H p o) := by
  have nf : W.Hf p = none := by
    cases e : W.Hf p with
    | none => rfl
    | some u => rw [h.ex _ _ e] at np; cases np
  have w : Wle W ⟨W.Hf, W.eta ++ [p], W.pv⟩ := ⟨fun a u e => e, ⟨[p], rfl⟩, rfl⟩
  have old : ∀ (i : Nat) a, W.eta[i]? = some a → a ≠ p := fun i a e1 z => h.there i a e1 (by rw [z]; exact np)
  have cs : ∀ (i : Nat) a, (W.eta ++ [p])[i]? = some a → W.eta[i]? = some a ∨ (i = W.eta.length ∧ a = p) := fun i a e => by
    by_cases hi : i < W.eta.length
    · rw [List.getElem?_append_left hi] at e; exact .inl e
    · rw [List.getElem?_append_right (by omega)] at e
      have : i - W.eta.length = 0 := by
        by_cases z : i - W.eta.length = 0
        · exact z
        · rw [List.getElem?_eq_none (by simp; omega)] at e; cases e
      rw [this] at e
      simp at e
      exact .inr ⟨by omega, e.symm⟩
  refine ⟨w, ⟨fun a u e => ?_, ?_, fun i j a e1 e2 => ?_, fun i a c' e1 e2 => ?_, fun i a e1 => ?_, fun q hq => ?_⟩⟩
  · have q : a ≠ p := ne_of_none e nf
    rw [upd_ne q]; exact h.ex a u e
  · show (W.eta ++ [p]).length = (S ++ [c]).length
    rw [List.length_append, List.length_append, h.len]; rfl
  · rcases cs i a e1 with k1 | ⟨k1, k2⟩
    · rcases cs j a e2 with k3 | ⟨k3, k4⟩
      · exact h.nd i j a k1 k3
      · exact absurd k4 (old i a k1)
    · rcases cs j a e2 with k3 | ⟨k3, k4⟩
      · exact absurd k2 (old j a k3)
      · omega
  · rcases cs i a e1 with k1 | ⟨k1, k2⟩
    · have hi : i < S.length := by rw [← h.len]; exact (List.getElem?_eq_some_iff.mp k1).1
      rw [List.getElem?_append_left hi] at e2
      rcases h.cells i a c' k1 e2 with q | ⟨q1, q2⟩
      · exact .inl q
      · exact .inr ⟨q1, q2.mono w (upd_ne (old i a k1))⟩
    · subst k2
      rw [k1, h.len, List.getElem?_append_right (Nat.le_refl _), Nat.sub_self] at e2
      simp at e2
      subst e2
      exact .inr ⟨nf, hc _ w⟩
  · rcases cs i a e1 with k1 | ⟨k1, k2⟩
    · rw [upd_ne (old i a k1)]; exact h.there i a k1
    · rw [k2, upd_same]; exact fun z => by cases z
  · obtain ⟨k1, k2, k3⟩ := h.pvt q hq
    have z : q.1 ≠ p := ne_of_none k1 np
    refine ⟨by rw [upd_ne z]; exact k1, k2, fun i e => ?_⟩
    rcases cs i q.1 e with k4 | ⟨_, k5⟩
    · exact k3 i k4
    · exact z k5
/-- a cell is written -/
theorem Hold.written (h : Hold K mg W S H) {i : Nat} {a : Addr} {o : HO} {c0 c : Cell} (ha : W.eta[i]? = some a) (hs : S[i]? = some c0) (hd : c0 ≠ .dead) (hc : CellOk K mg W (upd H a o) a c) :
    Hold K mg W (S.set i c) (upd H a o) := by
  have hf : W.Hf a = none := by
    rcases h.cells i a c0 ha hs with q | q
    · exact absurd q hd
    · exact q.1
  refine ⟨fun b u e => ?_, by rw [List.length_set]; exact h.len, h.nd, fun j b c' e1 e2 => ?_, fun j b e1 => ?_, fun q hq => ?_⟩
  · rw [upd_ne (ne_of_none e hf)]; exact h.ex b u e
  · by_cases q : j = i
    · subst q
      rw [ha] at e1; cases e1
      have hi : j < S.length := (List.getElem?_eq_some_iff.mp hs).1
      rw [List.getElem?_set_self hi] at e2
      cases e2
      exact .inr ⟨hf, hc⟩
    · rw [List.getElem?_set_ne (Ne.symm q)] at e2
      have nb : b ≠ a := fun z => q (h.nd j i a (by rw [← z]; exact e1) ha)
      rcases h.cells j b c' e1 e2 with k | ⟨k1, k2⟩
      · exact .inl k
      · exact .inr ⟨k1, k2.mono (Wle.refl W) (upd_ne nb)⟩
  · by_cases q : b = a
    · subst q; rw [upd_same]; exact fun z => by cases z
    · rw [upd_ne q]; exact h.there j b e1
  · obtain ⟨k1, k2, k3⟩ := h.pvt q hq
    have z : q.1 ≠ a := fun z => k3 i (by rw [z]; exact ha)
    exact ⟨by rw [upd_ne z]; exact k1, k2, k3⟩
/-- a list's cell is given up: from here on nobody changes it -/
theorem Hold.given (h : Hold K mg W S H) {i : Nat} {a : Addr} {ds : List D} (ha : W.eta[i]? = some a) (hs : S[i]? = some (.lst ds)) :
    ∃ W', Wle W W' ∧ Hold K mg W' (S.set i .dead) H ∧ Rep K mg W' (.lst ds) (.ref a) := by
  rcases h.cells i a _ ha hs with q | ⟨hf, hc⟩
  · cases q
  · obtain ⟨z, vs, hh, r⟩ := hc
    have w : Wle W ⟨upd W.Hf a (.lst vs), W.eta, W.pv⟩ := ⟨fun b u e => by
      show upd W.Hf a _ b = some u
      rw [upd_ne (ne_of_none e hf)]; exact e, ⟨[], (List.append_nil _).symm⟩, rfl⟩
    refine ⟨_, w, ⟨fun b u e => ?_, by rw [List.length_set]; exact h.len, h.nd, fun j b c' e1 e2 => ?_, h.there, fun q hq => ?_⟩, .lst (show upd W.Hf a _ a = _ from upd_same) z (r.mono w)⟩
    · have e' : upd W.Hf a (.lst vs) b = some u := e
      by_cases q : b = a
      · subst q; rw [upd_same] at e'; rw [hh]; exact e'
      · rw [upd_ne q] at e'; exact h.ex b u e'
    · by_cases q : j = i
      · subst q
        have hi : j < S.length := (List.getElem?_eq_some_iff.mp hs).1
        rw [List.getElem?_set_self hi] at e2
        cases e2
        exact .inl rfl
      · rw [List.getElem?_set_ne (Ne.symm q)] at e2
        have nb : b ≠ a := fun z => q (h.nd j i a (by rw [← z]; exact e1) ha)
        rcases h.cells j b c' e1 e2 with k | ⟨k1, k2⟩
        · exact .inl k
        · refine .inr ⟨?_, k2.mono w rfl⟩
          show upd W.Hf a _ b = none
          rw [upd_ne nb]; exact k1
    · obtain ⟨k1, k2, k3⟩ := h.pvt q hq
      have z : q.1 ≠ a := fun z => k3 i (by rw [z]; exact ha)
      exact ⟨k1, by show upd W.Hf a _ q.1 = none; rw [upd_ne z]; exact k2, k3⟩
/-- an object that is kept apart -/
theorem Hold.priv (h : Hold K mg W S H) {p : Addr} {o : HO} (np : H p = none) : Hold K mg ⟨W.Hf, W.eta, (p, o) :: W.pv⟩ S (upd H p o) := by
  have nf : W.Hf p = none := by
    cases e : W.Hf p with
    | none => rfl
    | some u => rw [h.ex _ _ e] at np; cases np
  have old : ∀ (i : Nat) a, W.eta[i]? = some a → a ≠ p := fun i a e1 z => h.there i a e1 (by rw [z]; exact np)
  refine ⟨fun a u e => ?_, h.len, h.nd, fun i a c e1 e2 => ?_, fun i a e1 => ?_, fun q hq => ?_⟩
  · rw [upd_ne (ne_of_none e nf)]; exact h.ex a u e
  · rcases h.cells i a c e1 e2 with k | ⟨k1, k2⟩
    · exact .inl k
    · exact .inr ⟨k1, CellOk.monoV (W := W) (W' := ⟨W.Hf, W.eta, (p, o) :: W.pv⟩) (H' := upd H p o) (fun _ _ z => z) (fun _ _ z => z) (upd_ne (old i a e1)) k2⟩
  · rw [upd_ne (old i a e1)]; exact h.there i a e1
  · rcases List.mem_cons.mp hq with e | hq
    · rw [e]
      exact ⟨upd_same, nf, fun i z => old i p z rfl⟩
    · obtain ⟨k1, k2, k3⟩ := h.pvt q hq
      exact ⟨by rw [upd_ne (ne_of_none k1 np)]; exact k1, k2, k3⟩
theorem Hold.privSet {Hf : Hp} {eta : List Addr} {pv : List (Addr × HO)} {p : Addr} {o o' : HO} (h : Hold K mg ⟨Hf, eta, (p, o) :: pv⟩ S H) (np : ∀ q ∈ pv, q.1 ≠ p) : Hold K mg ⟨Hf, eta, (p, o') :: pv⟩ S (upd H p o') := by
  obtain ⟨h1, h2, h3⟩ := h.pvt (p, o) List.mem_cons_self
  have old : ∀ (i : Nat) a, eta[i]? = some a → a ≠ p := fun i a e1 z => h3 i (by rw [← z]; exact e1)
  refine ⟨fun a u e => ?_, h.len, h.nd, fun i a c e1 e2 => ?_, fun i a e1 => ?_, fun q hq => ?_⟩
  · rw [upd_ne (ne_of_none e h2)]; exact h.ex a u e
  · rcases h.cells i a c e1 e2 with k | ⟨k1, k2⟩
    · exact .inl k
    · exact .inr ⟨k1, CellOk.monoV (W := ⟨Hf, eta, (p, o) :: pv⟩) (W' := ⟨Hf, eta, (p, o') :: pv⟩) (H' := upd H p o') (fun _ _ z => z) (fun _ _ z => z) (upd_ne (old i a e1)) k2⟩
  · rw [upd_ne (old i a e1)]; exact h.there i a e1
  · rcases List.mem_cons.mp hq with e | hq
    · rw [e]
      exact ⟨upd_same, h2, h3⟩
    · obtain ⟨k1, k2, k3⟩ := h.pvt q (List.mem_cons_of_mem _ hq)
      exact ⟨by rw [upd_ne (np q hq)]; exact k1, k2, k3⟩
theorem Hold.privOut {Hf : Hp} {eta : List Addr} {pv : List (Addr × HO)} {p : Addr} {o : HO} (h : Hold K mg ⟨Hf, eta, (p, o) :: pv⟩ S H) : Hold K mg ⟨Hf, eta, pv⟩ S H := by
  refine ⟨h.ex, h.len, h.nd, fun i a c e1 e2 => ?_, h.there, fun q hq => h.pvt q (List.mem_cons_of_mem _ hq)⟩
  rcases h.cells i a c e1 e2 with k | ⟨k1, k2⟩
  · exact .inl k
  · exact .inr ⟨k1, CellOk.monoV (W := ⟨Hf, eta, (p, o) :: pv⟩) (W' := ⟨Hf, eta, pv⟩) (fun _ _ z => z) (fun _ _ z => z) rfl k2⟩
/-- it is given away, and never changed from here on -/
theorem Hold.privFroze {Hf : Hp} {eta : List Addr} {pv : List (Addr × HO)} {p : Addr} {o : HO} (h : Hold K mg ⟨Hf, eta, (p, o) :: pv⟩ S H) (np : ∀ q ∈ pv, q.1 ≠ p) : Hold K mg ⟨upd Hf p o, eta, pv⟩ S H := by
  obtain ⟨h1, h2, h3⟩ := h.pvt (p, o) List.mem_cons_self
  have old : ∀ (i : Nat) a, eta[i]? = some a → a ≠ p := fun i a e1 z => h3 i (by rw [← z]; exact e1)
  have up : ∀ a u, Hf a = some u → upd Hf p o a = some u := fun a u e => by rw [upd_ne (ne_of_none e h2)]; exact e
  refine ⟨fun a u e => ?_, h.len, h.nd, fun i a c e1 e2 => ?_, h.there, fun q hq => ?_⟩
  · by_cases z : a = p
    · subst z
      have e' : upd Hf a o a = some u := e
      rw [upd_same] at e'
      rw [← e']; exact h1
    · have e' : upd Hf p o a = some u := e
      rw [upd_ne z] at e'; exact h.ex a u e'
  · rcases h.cells i a c e1 e2 with k | ⟨k1, k2⟩
    · exact .inl k
    · refine .inr ⟨by show upd Hf p o a = none; rw [upd_ne (old i a e1)]; exact k1, CellOk.monoV (W := ⟨Hf, eta, (p, o) :: pv⟩) (W' := ⟨upd Hf p o, eta, pv⟩) up (fun _ _ z => z) rfl k2⟩
  · obtain ⟨k1, k2, k3⟩ := h.pvt q (List.mem_cons_of_mem _ hq)
    exact ⟨k1, by show upd Hf p o q.1 = none; rw [upd_ne (np q hq)]; exact k2, k3⟩
/-- it becomes a cell -/
theorem Hold.privBox {Hf : Hp} {eta : List Addr} {pv : List (Addr × HO)} {p : Addr} {o : HO} {c : Cell} (h : Hold K mg ⟨Hf, eta, (p, o) :: pv⟩ S H) (np : ∀ q ∈ pv, q.1 ≠ p) (hc : CellOk K mg ⟨Hf, eta ++ [p], pv⟩ H p c) : Hold K mg ⟨Hf, eta ++ [p], pv⟩ (S ++ [c]) H := by
  obtain ⟨h1, h2, h3⟩ := h.pvt (p, o) List.mem_cons_self
  have cs : ∀ (i : Nat) a, (eta ++ [p])[i]? = some a → eta[i]? = some a ∨ (i = eta.length ∧ a = p) := fun i a e => by
    by_cases hi : i < eta.length
    · rw [List.getElem?_append_left hi] at e; exact .inl e
    · rw [List.getElem?_append_right (by omega)] at e
      have : i - eta.length = 0 := by
        by_cases z : i - eta.length = 0
        · exact z
        · rw [List.getElem?_eq_none (by simp; omega)] at e; cases e
      rw [this] at e
      simp at e
      exact .inr ⟨by omega, e.symm⟩
  have hl : eta.length = S.length := h.len
  refine ⟨h.ex, ?_, fun i j a e1 e2 => ?_, fun i a c' e1 e2 => ?_, fun i a e1 => ?_, fun q hq => ?_⟩
  · show (eta ++ [p]).length = (S ++ [c]).length
    rw [List.length_append, List.length_append, hl]; rfl
  · rcases cs i a e1 with k1 | ⟨k1, k2⟩
    · rcases cs j a e2 with k3 | ⟨k3, k4⟩
      · exact h.nd i j a k1 k3
      · subst k4; exact absurd k1 (h3 i)
    · subst k2
      rcases cs j _ e2 with k3 | ⟨k3, k4⟩
      · exact absurd k3 (h3 j)
      · omega
  · rcases cs i a e1 with k1 | ⟨k1, k2⟩
    · have hi : i < S.length := by rw [← hl]; exact (List.getElem?_eq_some_iff.mp k1).1
      rw [List.getElem?_append_left hi] at e2
      rcases h.cells i a c' k1 e2 with q | ⟨q1, q2⟩
      · exact .inl q
      · exact .inr ⟨q1, CellOk.monoV (W := ⟨Hf, eta, (p, o) :: pv⟩) (W' := ⟨Hf, eta ++ [p], pv⟩) (fun _ _ z => z) (fun i a z => by
          have z : eta[i]? = some a := z
          show (eta ++ [p])[i]? = some a
          rw [List.getElem?_append_left (List.getElem?_eq_some_iff.mp z).1]; exact z) rfl q2⟩
    · subst k2
      rw [k1, hl, List.getElem?_append_right (Nat.le_refl _), Nat.sub_self] at e2
      simp at e2
      subst e2
      exact .inr ⟨h2, hc⟩
  · rcases cs i a e1 with k1 | ⟨k1, k2⟩
    · exact h.there i a k1
    · rw [k2, h1]; exact fun z => by cases z
  · obtain ⟨k1, k2, k3⟩ := h.pvt q (List.mem_cons_of_mem _ hq)
    refine ⟨k1, k2, fun i e => ?_⟩
    rcases cs i q.1 e with k4 | ⟨_, k5⟩
    · exact k3 i k4
    · exact np q hq k5
end
end Dm
set_option linter.all false
set_option maxRecDepth 100000
set_option maxHeartbeats 2000000
namespace Dm
open PySem L2

def bd {α β : Type} (m : Option (Rs α × Store)) (k : α → M β) : Option (Rs β × Store) :=
  match m with
  | none => none
  | some (.ok a, S) => k a S
  | some (.ex e, S) => some (.ex e, S)
theorem bd_none {α β : Type} (k : α → M β) : bd none k = none := rfl
theorem bd_ok {α β : Type} (a : α) (S : Store) (k : α → M β) : bd (some (.ok a, S)) k = k a S := rfl
theorem bd_ex {α β : Type} (e : Exn) (S : Store) (k : α → M β) : bd (some (.ex e, S)) k = some (.ex e, S) := rfl
/-- a result without an exception -/
def okM {α : Type} (m : Option (α × Store)) : Option (Rs α × Store) :=
  match m with
  | none => none
  | some (a, S) => some (.ok a, S)
theorem okM_none {α : Type} : okM (none : Option (α × Store)) = none := rfl
theorem okM_some {α : Type} (a : α) (S : Store) : okM (some (a, S)) = some (.ok a, S) := rfl

def Fr (K : PySem.W.Frag) (mg : Str → Option Value) (W : Wd) (ρ : Env) (σ : L2.St) : Prop :=
  ρ.length = σ.length ∧ ∀ (i : Nat) d, ρ[i]? = some (some d) → ∃ v, σ[i]? = some (some v) ∧ Rep K mg W d v
section
variable {K : PySem.W.Frag} {mg : Str → Option Value} {W W' : Wd} {ρ : Env} {σ : L2.St}
theorem Fr.mono (w : Wle W W') (h : Fr K mg W ρ σ) : Fr K mg W' ρ σ := ⟨h.1, fun i d e => let ⟨v, h1, h2⟩ := h.2 i d e; ⟨v, h1, h2.mono w⟩⟩
theorem Fr.set (h : Fr K mg W ρ σ) {i : Nat} {d : D} {v : V} (r : Rep K mg W d v) : Fr K mg W (ρ.set i (some d)) (σ.set i (some v)) := by
  refine ⟨by rw [List.length_set, List.length_set]; exact h.1, fun j e q => ?_⟩
  by_cases z : i = j
  · subst z
    by_cases hi : i < ρ.length
    · rw [List.getElem?_set_self hi] at q
      cases q
      exact ⟨v, by rw [List.getElem?_set_self (by rw [← h.1]; exact hi)], r⟩
    · rw [List.getElem?_eq_none (by simpa using hi)] at q; cases q
  · rw [List.getElem?_set_ne z] at q
    obtain ⟨u, h1, h2⟩ := h.2 j e q
    exact ⟨u, by rw [List.getElem?_set_ne z]; exact h1, h2⟩
theorem Fr.unset (h : Fr K mg W ρ σ) {i : Nat} : Fr K mg W (ρ.set i none) (σ.set i none) := by
  refine ⟨by rw [List.length_set, List.length_set]; exact h.1, fun j e q => ?_⟩
  by_cases z : i = j
  · subst z
    by_cases hi : i < ρ.length
    · rw [List.getElem?_set_self hi] at q; cases q
    · rw [List.getElem?_eq_none (by simpa using hi)] at q; cases q
  · rw [List.getElem?_set_ne z] at q
    obtain ⟨u, h1, h2⟩ := h.2 j e q
    exact ⟨u, by rw [List.getElem?_set_ne z]; exact h1, h2⟩
/-- forgetting -/
theorem Fr.weak {σ' : L2.St} {ρ' : Env} (h : Fr K mg W ρ σ) (hl : ρ'.length = σ'.length) (hw : ∀ (i : Nat) d v, ρ'[i]? = some (some d) → (ρ[i]? = some (some d) ∧ (σ[i]? = some (some v) → σ'[i]? = some (some v)))) : Fr K mg W ρ' σ' :=
  ⟨hl, fun i d e => by
    obtain ⟨v, h1, h2⟩ := h.2 i d (hw i d .non e).1
    exact ⟨v, (hw i d v e).2 h1, h2⟩⟩
end

/-- an exception, as it lies -/
def ExRep (K : PySem.W.Frag) (mg : Str → Option Value) (W : Wd) (e : Exn) (cls : Value) (dd : Option Addr) : Prop :=
  ∃ C, mg e.cls = some (.ref C) ∧ cls = .ref C ∧ ((e.fl = [] ∧ dd = none) ∨
    ∃ d vs, dd = some d ∧ W.Hf d = some (.xd vs) ∧ Paired (fun (p : Str × D) (q : Str × V) => p.1 = q.1 ∧ Rep K mg W p.2 q.2) e.fl vs)

/-- what is wanted of a result -/
def Post {α β : Type} (K : PySem.W.Frag) (mg : Str → Option Value) (EX : WX) (R : Wd → α → β → Prop) (W : Wd) (σ : L2.St) (Q : β → Hp → Prop) : Rs α → Store → Prop
  | .ok a, S' => ∀ b H' W', Wle W W' → Hold K mg W' S' H' → R W' a b → Q b H'
  | .ex e, S' => ∀ cls dd H' W', Wle W W' → Hold K mg W' S' H' → ExRep K mg W' e cls dd → EX cls dd σ H'
theorem Post.mono {α β : Type} {K : PySem.W.Frag} {mg : Str → Option Value} {EX : WX} {R : Wd → α → β → Prop} {W W1 : Wd} {σ : L2.St} {Q : β → Hp → Prop} (w : Wle W W1) : ∀ {r : Rs α} {S' : Store}, Post K mg EX R W σ Q r S' → Post K mg EX R W1 σ Q r S'
  | .ok _, _, h => fun b H' W' w' ho r => h b H' W' (w.trans w') ho r
  | .ex _, _, h => fun c d H' W' w' ho r => h c d H' W' (w.trans w') ho r

structure Ev {α β : Type} (K : PySem.W.Frag) (mg : Str → Option Value) (EX : WX) (R : Wd → α → β → Prop) (t : L2.St → Hp → (β → Hp → Prop) → Prop) (g : Env → M α) : Prop where
  run : ∀ W σ H S ρ Q r S', Fr K mg W ρ σ → Hold K mg W S H → g ρ S = some (r, S') → Post K mg EX R W σ Q r S' → t σ H Q
/-- the step: something is evaluated, then the rest -/
theorem Ev.bd {α β α' : Type} {K : PySem.W.Frag} {mg : Str → Option Value} {EX : WX} {R : Wd → α → β → Prop} {t : L2.St → Hp → (β → Hp → Prop) → Prop} {g : Env → M α} (h : Ev K mg EX R t g) {W : Wd} {σ : L2.St} {H : Hp} {S : Store} {ρ : Env} {k : α → M α'} {r : Rs α'} {S' : Store} {Q : β → Hp → Prop}
    (fr : Fr K mg W ρ σ) (ho : Hold K mg W S H) (hg : Dm.bd (g ρ S) k = some (r, S'))
    (hx : ∀ e, r = .ex e → ∀ cls dd H' W', Wle W W' → Hold K mg W' S' H' → ExRep K mg W' e cls dd → EX cls dd σ H')
    (hk : ∀ a b S1 H1 W1, Wle W W1 → Hold K mg W1 S1 H1 → R W1 a b → k a S1 = some (r, S') → Q b H1) : t σ H Q := by
  cases e : g ρ S with
  | none => rw [e, bd_none] at hg; cases hg
  | some p =>
    obtain ⟨r1, S1⟩ := p
    cases r1 with
    | ex x =>
      rw [e, bd_ex] at hg
      cases hg
      exact h.run W σ H S ρ Q _ _ fr ho e (hx x rfl)
    | ok a =>
      rw [e, bd_ok] at hg
      exact h.run W σ H S ρ Q _ _ fr ho e fun b H1 W1 w1 ho1 r1 => hk a b S1 H1 W1 w1 ho1 r1 hg
theorem Post.exn {α β : Type} {K : PySem.W.Frag} {mg : Str → Option Value} {EX : WX} {R : Wd → α → β → Prop} {W : Wd} {σ : L2.St} {Q : β → Hp → Prop} {r : Rs α} {S' : Store} (h : Post K mg EX R W σ Q r S') :
    ∀ e, r = .ex e → ∀ cls dd H' W', Wle W W' → Hold K mg W' S' H' → ExRep K mg W' e cls dd → EX cls dd σ H' := fun e q => by
  subst q
  exact h

/-! ### judgements -/
abbrev RD (X : Cx) : Wd → D → V → Prop := Rep X.K X.mg
abbrev RL (X : Cx) : Wd → List D → List V → Prop := RepL X.K X.mg
abbrev RB : Wd → Bool → Bool → Prop := fun _ a b => a = b
abbrev RO : Wd → Option Int → Option Int → Prop := fun _ a b => a = b
structure DE (X : Cx) (EX : WX) (e : Expr) (g : EM) : Prop where
  ev : ∃ t, PE X e t ∧ Ev X.K X.mg EX (RD X) t g
structure DT (X : Cx) (EX : WX) (e : Expr) (g : TM) : Prop where
  ev : ∃ t, PT X e t ∧ Ev X.K X.mg EX RB t g
structure DW (X : Cx) (EX : WX) (e : Expr) (g : TM) : Prop where
  ev : ∃ t, PW X e t ∧ Ev X.K X.mg EX RB t g
structure DA (X : Cx) (EX : WX) (es : List Expr) (g : AM) : Prop where
  ev : ∃ t, PA X es t ∧ Ev X.K X.mg EX (RL X) t g
structure DO (X : Cx) (EX : WX) (e : Option Expr) (g : Env → M (Option Int)) : Prop where
  ev : ∃ t, PO X e t ∧ Ev X.K X.mg EX RO t g

/-! ### names, constants -/
def gVar (i : Nat) : EM := fun ρ S => match ρ[i]? with
  | some (some d) => some (.ok d, S)
  | _ => none
def gC (d : D) : EM := fun _ S => some (.ok d, S)
section
variable {X : Cx} {EX : WX} {a b c e : Expr} {ga gb gc g : EM} {pos : Pos}
theorem de_var (i : Nat) {x : Str} (hN : X.N[i]? = some x := by rfl) (hv : Vis X.env.scope x := by first | exact Or.inl rfl | exact Or.inr (Or.inl rfl) | exact Or.inr (Or.inr rfl)) (hd : (x == ("__debug__" : Str)) = false := by decide)
    (hcd : (x == ("__classdict__" : Str)) = false := by decide) : DE X EX (.Name x pos) (gVar i) := by
  refine ⟨tVar i, pe_var hN hv hd hcd, ⟨fun W σ H S ρ Q r S' fr ho hg hp => ?_⟩⟩
  unfold gVar at hg
  cases q : ρ[i]? with
  | none => rw [q] at hg; cases hg
  | some o =>
    cases o with
    | none => rw [q] at hg; cases hg
    | some d =>
      rw [q] at hg
      cases hg
      obtain ⟨v, h1, h2⟩ := fr.2 i d q
      exact ⟨v, h1, hp v H W (Wle.refl W) ho h2⟩
theorem de_c {d : D} {v : V} (h : PE X e (tC v)) (r : ∀ W, Rep X.K X.mg W d v) : DE X EX e (gC d) := by
  refine ⟨tC v, h, ⟨fun W σ H S ρ Q r' S' fr ho hg hp => ?_⟩⟩
  unfold gC at hg
  cases hg
  exact hp v H W (Wle.refl W) ho (r W)
theorem de_int {i : Int} {j} : DE X EX (.Constant (.int i) j pos) (gC (.int i)) := de_c pe_int fun _ => .int
theorem de_bl {b : Bool} {j} : DE X EX (.Constant (.bool b) j pos) (gC (.bl b)) := de_c pe_bl fun _ => .bl
theorem de_non {j} : DE X EX (.Constant .none j pos) (gC .non) := de_c pe_non fun _ => .non
theorem de_str {s : Str} {j} (z : s.length ≤ sizeLine := by decide) : DE X EX (.Constant (.str s) j pos) (gC (.str s)) := de_c pe_str fun _ => .str z
/-- a name of the module that holds an int, a text -/
theorem de_gint {x : Str} {i : Int} {t : Tok} (hm : X.mg x = some (.int i t)) (hg : Gl X x := by rfl) (hd : (x == ("__debug__" : Str)) = false := by decide) : DE X EX (.Name x pos) (gC (.int i)) :=
  de_c (v := .int i) (pe_glob hg hm ⟨t, rfl⟩ hd) fun _ => .int
theorem de_gstr {x : Str} {s : Str} {t : Tok} (hm : X.mg x = some (.str s t)) (hg : Gl X x := by rfl) (hd : (x == ("__debug__" : Str)) = false := by decide) (z : s.length ≤ sizeLine := by decide) : DE X EX (.Name x pos) (gC (.str s)) :=
  de_c (v := .str s) (pe_glob hg hm ⟨t, rfl⟩ hd) fun _ => .str z
theorem de_glb {x : Str} {a : Addr} (hm : X.mg x = some (.ref a)) (hg : Gl X x := by rfl) (hd : (x == ("__debug__" : Str)) = false := by decide) : DE X EX (.Name x pos) (gC (.glb x)) :=
  de_c (v := .ref a) (pe_glob hg hm rfl hd) fun _ => .glb hm rfl
/-- a tuple of the module's -/
theorem de_gtup {x : Str} {a : Addr} {ds : List D} {vs : List V} (hm : X.mg x = some (.ref a)) (ht : ∀ H, SqT X.K H a vs) (hr : ∀ W, RepL X.K X.mg W ds vs) (z : ds.length ≤ sizeLine) (hg : Gl X x := by rfl) (hd : (x == ("__debug__" : Str)) = false := by decide) : DE X EX (.Name x pos) (gC (.wtup ds)) :=
  de_c (v := .ref a) (pe_glob hg hm rfl hd) fun W => .wtup ht z (hr W)

/-! ### operators -/
def g2 (op : D → D → Store → Option (D × Store)) (ga gb : EM) : EM := fun ρ S => bd (ga ρ S) fun x S1 => bd (gb ρ S1) fun y S2 => okM (op x y S2)
def g1 (op : D → Store → Option (D × Store)) (ga : EM) : EM := fun ρ S => bd (ga ρ S) fun x S1 => okM (op x S1)
/-- an operation on values does what op says -/
def Op2 (X : Cx) (r : R2) (op : D → D → Store → Option (D × Store)) : Prop :=
  ∀ W H S x y d1 d2 Q d S', Hold X.K X.mg W S H → Rep X.K X.mg W d1 x → Rep X.K X.mg W d2 y → op d1 d2 S = some (d, S') →
    (∀ v H' W', Wle W W' → Hold X.K X.mg W' S' H' → Rep X.K X.mg W' d v → Q v H') → r x y H Q
def Op1 (X : Cx) (r : V → Hp → VK → Prop) (op : D → Store → Option (D × Store)) : Prop :=
  ∀ W H S x d1 Q d S', Hold X.K X.mg W S H → Rep X.K X.mg W d1 x → op d1 S = some (d, S') →
    (∀ v H' W', Wle W W' → Hold X.K X.mg W' S' H' → Rep X.K X.mg W' d v → Q v H') → r x H Q
/-- the first that is defined -/
def orO (o1 o2 : D → D → Store → Option (D × Store)) : D → D → Store → Option (D × Store) := fun x y S => match o1 x y S with
  | some p => some p
  | none => o2 x y S
theorem Op2.or {r r' : R2} {o o' : D → D → Store → Option (D × Store)} (h : Op2 X r o) (h' : Op2 X r' o') : Op2 X (fun x y H Q => r x y H Q ∨ r' x y H Q) (orO o o') := by
  intro W H S x y d1 d2 Q d S' ho r1 r2 hg hq
  unfold orO at hg
  cases e : o d1 d2 S with
  | some p =>
    rw [e] at hg
    cases hg
    exact .inl (h W H S x y d1 d2 Q d S' ho r1 r2 e hq)
  | none =>
    rw [e] at hg
    exact .inr (h' W H S x y d1 d2 Q d S' ho r1 r2 hg hq)
theorem ev_op2 {ta tb : TE} {r : R2} {op : D → D → Store → Option (D × Store)} (ho2 : Op2 X r op) (ha : Ev X.K X.mg EX (RD X) ta ga) (hb : Ev X.K X.mg EX (RD X) tb gb) : Ev X.K X.mg EX (RD X) (tOp r ta tb) (g2 op ga gb) := by
  refine ⟨fun W σ H S ρ Q r' S' fr ho hg hp => ?_⟩
  refine ha.bd fr ho hg hp.exn fun x v S1 H1 W1 w1 ho1 rx hg1 => ?_
  refine hb.bd (fr.mono w1) ho1 hg1 (hp.mono w1).exn fun y u S2 H2 W2 w2 ho2' ry hg2 => ?_
  cases e : op x y S2 with
  | none => rw [e] at hg2; cases hg2
  | some p =>
    obtain ⟨d, S3⟩ := p
    rw [e] at hg2
    cases hg2
    exact ho2 W2 H2 S2 v u x y _ d _ ho2' (rx.mono w2) ry e fun z H' W' w' h' rz => hp z H' W' ((w1.trans w2).trans w') h' rz
theorem de_bin {op : Operator} {r : R2} {o : D → D → Store → Option (D × Store)} (hr : OpR X (binaryOp op) r) (h : Op2 X r o) (ha : DE X EX a ga) (hb : DE X EX b gb) : DE X EX (.BinOp a op b pos) (g2 o ga gb) := by
  obtain ⟨ta, pa, ea⟩ := ha.ev
  obtain ⟨tb, pb, eb⟩ := hb.ev
  exact ⟨_, pe_op hr pa pb, ev_op2 h ea eb⟩
theorem de_un {op : UnaryOp} {r : V → Hp → VK → Prop} {o : D → Store → Option (D × Store)} (hr : UnR X (unaryOp op) r) (h : Op1 X r o) (ha : DE X EX a ga) : DE X EX (.UnaryOp op a pos) (g1 o ga) := by
  obtain ⟨ta, pa, ea⟩ := ha.ev
  refine ⟨_, pe_un hr pa, ⟨fun W σ H S ρ Q r' S' fr ho hg hp => ?_⟩⟩
  refine ea.bd fr ho hg hp.exn fun x v S1 H1 W1 w1 ho1 rx hg1 => ?_
  cases e : o x S1 with
  | none => rw [e] at hg1; cases hg1
  | some p =>
    obtain ⟨d, S3⟩ := p
    rw [e] at hg1
    cases hg1
    exact h W1 H1 S1 v x _ d _ ho1 rx e fun z H' W' w' h' rz => hp z H' W' (w1.trans w') h' rz
theorem de_cmp {op : CmpOp} {r : R2} {o : D → D → Store → Option (D × Store)} (hr : OpR X (compareOp op) r) (h : Op2 X r o) (ha : DE X EX a ga) (hb : DE X EX b gb) (hm : behindInMarks op b = false := by first | exact nomark _ | rfl) : DE X EX (.Compare a [op] [b] pos) (g2 o ga gb) := by
  obtain ⟨ta, pa, ea⟩ := ha.ev
  obtain ⟨tb, pb, eb⟩ := hb.ev
  exact ⟨_, pe_cmpR hr pa pb hm, ev_op2 h ea eb⟩

/-! ### tests -/
def gB (g : EM) : TM := fun ρ S => bd (g ρ S) fun x S1 => match x with
  | .bl b => some (.ok b, S1)
  | _ => none
theorem dt_cmp {op : CmpOp} {r : R2} {o : D → D → Store → Option (D × Store)} (hr : OpR X (compareOp op) r) (h : Op2 X r o) (ha : DE X EX a ga) (hb : DE X EX b gb) (hm : behindInMarks op b = false := by first | exact nomark _ | rfl) : DT X EX (.Compare a [op] [b] pos) (gB (g2 o ga gb)) := by
  obtain ⟨ta, pa, ea⟩ := ha.ev
  obtain ⟨tb, pb, eb⟩ := hb.ev
  refine ⟨_, pt_cmpR hr pa pb hm, ⟨fun W σ H S ρ Q r' S' fr ho hg hp => ?_⟩⟩
  refine (ev_op2 h ea eb).bd fr ho hg hp.exn fun x v S1 H1 W1 w1 ho1 rx hg1 => ?_
  cases x with
  | bl k =>
    cases hg1
    cases rx
    exact ⟨k, rfl, hp k H1 W1 w1 ho1 rfl⟩
  | _ => cases hg1
/-- a value's truth -/
def truC : Cell → Option Bool
  | .lst ds => some (!ds.isEmpty)
  | .ro ds => some (!ds.isEmpty)
  | .dic kd lk kvs => if kd = 0 ∧ lk = false then some (!kvs.isEmpty) else none
  | _ => none
def truD (S : Store) : D → Option Bool
  | .non => some false
  | .bl b => some b
  | .int i => some (i != 0)
  | .str s => some ((s.length : Int) != 0)
  | .tup ds => some (!ds.isEmpty)
  | .wtup ds => some (!ds.isEmpty)
  | .lst ds => some (!ds.isEmpty)
  | .wlst ds => some (!ds.isEmpty)
  | .box i => (S[i]?).bind truC
  | .glb _ => none
theorem paired_isEmpty {α β : Type} {F : α → β → Prop} {l : List α} {m : List β} (h : Paired F l m) : l.isEmpty = m.isEmpty := by cases h <;> rfl
theorem RepL.isEmpty {K : PySem.W.Frag} {mg : Str → Option Value} {W : Wd} {ds : List D} {vs : List V} (h : RepL K mg W ds vs) : ds.isEmpty = vs.isEmpty := by cases h <;> rfl
theorem Hold.cell {K : PySem.W.Frag} {mg : Str → Option Value} {W : Wd} {S : Store} {H : Hp} (h : Hold K mg W S H) {i : Nat} {a : Addr} {c : Cell} (ha : W.eta[i]? = some a) (hs : S[i]? = some c) (hd : c ≠ .dead := by intro z; cases z) : CellOk K mg W H a c := by
  rcases h.cells i a c ha hs with q | q
  · exact absurd q hd
  · exact q.2
theorem truD_ok {K : PySem.W.Frag} {mg : Str → Option Value} {W : Wd} {S : Store} {H : Hp} {d : D} {v : V} {k : Bool} (ho : Hold K mg W S H) (r : Rep K mg W d v) (h : truD S d = some k) : TruV K v H k := by
  cases r with
  | non => cases h; rfl
  | bl => cases h; rfl
  | int => cases h; rfl
  | str z => cases h; exact ⟨z, rfl⟩
  | tup q z r => cases h; exact .inr (.inl ⟨_, SqT.of (ho.ex _ _ q), by rw [r.isEmpty]⟩)
  | wtup q z r => cases h; exact .inr (.inl ⟨_, q H, by rw [r.isEmpty]⟩)
  | lst q z r => cases h; exact .inl ⟨_, SqL.of (ho.ex _ _ q), by rw [r.isEmpty]⟩
  | wlst q z r => cases h; exact .inl ⟨_, q H ho.ex, by rw [r.isEmpty]⟩
  | @box i a q =>
    have h : (S[i]?).bind truC = some k := h
    cases e : S[i]? with
    | none => rw [e] at h; cases h
    | some c =>
      rw [e] at h
      have h : truC c = some k := h
      cases c with
      | lst ds =>
        cases h
        obtain ⟨z, vs, h1, h2⟩ := ho.cell q e
        exact .inl ⟨_, SqL.of h1, by rw [h2.isEmpty]⟩
      | ro ds =>
        cases h
        obtain ⟨z, o, vs, h1, h2⟩ := ho.cell q e
        exact .inl ⟨vs, .inl (.inr ⟨o, h1⟩), by rw [h2.isEmpty]⟩
      | dic kd lk kvs =>
        have h : (if kd = 0 ∧ lk = false then some (!kvs.isEmpty) else none) = some k := h
        by_cases z : kd = 0 ∧ lk = false
        · rw [if_pos z] at h
          cases h
          obtain ⟨rfl, rfl⟩ := z
          obtain ⟨u, h1, h2⟩ := ho.cell q e
          rcases h1 with ⟨_, kk, e1, p⟩ | ⟨e0, _⟩
          · subst e1
            exact .inr (.inr ⟨kk, h2, by rw [paired_isEmpty p]⟩)
          · cases e0
        · rw [if_neg z] at h; cases h
      | ins c fs => cases h
      | dead => cases h
  | glb q r => cases h
def gTr (g : EM) : TM := fun ρ S => bd (g ρ S) fun x S1 => match truD S1 x with
  | some b => some (.ok b, S1)
  | none => none
/-- any expression whose test is its value's truth -/
theorem dt_tr (ha : DE X EX a ga) (he : ∀ whole, isTrue a X.env whole = (do let v ← whole; standAt a.pos; holding [v] (truthy v)) := by intro _; rfl) : DT X EX a (gTr ga) := by
  obtain ⟨ta, pa, ea⟩ := ha.ev
  refine ⟨_, pt_truth pa he, ⟨fun W σ H S ρ Q r' S' fr ho hg hp => ?_⟩⟩
  refine ea.bd fr ho hg hp.exn fun x v S1 H1 W1 w1 ho1 rx hg1 => ?_
  cases e : truD S1 x with
  | none => rw [e] at hg1; cases hg1
  | some k =>
    rw [e] at hg1
    cases hg1
    exact ⟨k, truD_ok ho1 rx e, hp k H1 W1 w1 ho1 rfl⟩
def gNotT (g : TM) : TM := fun ρ S => bd (g ρ S) fun b S1 => some (.ok (!b), S1)
def gAndT (g h : TM) : TM := fun ρ S => bd (g ρ S) fun b S1 => if b = true then h ρ S1 else some (.ok false, S1)
def gOrT (g h : TM) : TM := fun ρ S => bd (g ρ S) fun b S1 => if b = true then some (.ok true, S1) else h ρ S1
theorem dt_not {g : TM} (ha : DT X EX a g) : DT X EX (.UnaryOp .Not a pos) (gNotT g) := by
  obtain ⟨ta, pa, ea⟩ := ha.ev
  refine ⟨_, pt_not pa, ⟨fun W σ H S ρ Q r' S' fr ho hg hp => ?_⟩⟩
  refine ea.bd fr ho hg hp.exn fun x v S1 H1 W1 w1 ho1 rx hg1 => ?_
  cases hg1
  cases rx
  exact hp _ H1 W1 w1 ho1 rfl
theorem dw_and1 {g : TM} (ha : DT X EX a g) : DW X EX (.BoolOp .And [a] pos) g := let ⟨_, pa, ea⟩ := ha.ev; ⟨_, pw_and1 pa, ea⟩
theorem dw_or1 {g : TM} (ha : DT X EX a g) : DW X EX (.BoolOp .Or [a] pos) g := let ⟨_, pa, ea⟩ := ha.ev; ⟨_, pw_or1 pa, ea⟩
variable {rest : List Expr}
theorem dw_and {g h : TM} (ha : DT X EX a g) (hb : DW X EX (.BoolOp .And (b :: rest) pos) h) : DW X EX (.BoolOp .And (a :: b :: rest) pos) (gAndT g h) := by
  obtain ⟨ta, pa, ea⟩ := ha.ev
  obtain ⟨tb, pb, eb⟩ := hb.ev
  refine ⟨_, pw_and pa pb, ⟨fun W σ H S ρ Q r' S' fr ho hg hp => ?_⟩⟩
  refine ea.bd fr ho hg hp.exn fun x v S1 H1 W1 w1 ho1 rx hg1 => ?_
  cases rx
  cases x with
  | true => exact eb.run W1 σ H1 S1 ρ Q r' S' (fr.mono w1) ho1 hg1 (hp.mono w1)
  | false => cases hg1; exact hp _ H1 W1 w1 ho1 rfl
theorem dw_or {g h : TM} (ha : DT X EX a g) (hb : DW X EX (.BoolOp .Or (b :: rest) pos) h) : DW X EX (.BoolOp .Or (a :: b :: rest) pos) (gOrT g h) := by
  obtain ⟨ta, pa, ea⟩ := ha.ev
  obtain ⟨tb, pb, eb⟩ := hb.ev
  refine ⟨_, pw_or pa pb, ⟨fun W σ H S ρ Q r' S' fr ho hg hp => ?_⟩⟩
  refine ea.bd fr ho hg hp.exn fun x v S1 H1 W1 w1 ho1 rx hg1 => ?_
  cases rx
  cases x with
  | true => cases hg1; exact hp _ H1 W1 w1 ho1 rfl
  | false => exact eb.run W1 σ H1 S1 ρ Q r' S' (fr.mono w1) ho1 hg1 (hp.mono w1)
theorem dt_w {g : TM} (h : DW X EX e g) : DT X EX e g := let ⟨_, pa, ea⟩ := h.ev; ⟨_, pa.pt, ea⟩
def gIf (t : TM) (ga gb : EM) : EM := fun ρ S => bd (t ρ S) fun b S1 => if b = true then ga ρ S1 else gb ρ S1
theorem de_if {t : TM} (hc : DT X EX c t) (ha : DE X EX a ga) (hb : DE X EX b gb) : DE X EX (.IfExp c a b pos) (gIf t ga gb) := by
  obtain ⟨tc, pc, ec⟩ := hc.ev
  obtain ⟨ta, pa, ea⟩ := ha.ev
  obtain ⟨tb, pb, eb⟩ := hb.ev
  refine ⟨_, pe_ifExp pc pa pb, ⟨fun W σ H S ρ Q r' S' fr ho hg hp => ?_⟩⟩
  refine ec.bd fr ho hg hp.exn fun x v S1 H1 W1 w1 ho1 rx hg1 => ?_
  cases rx
  cases x with
  | true => exact ea.run W1 σ H1 S1 ρ Q r' S' (fr.mono w1) ho1 hg1 (hp.mono w1)
  | false => exact eb.run W1 σ H1 S1 ρ Q r' S' (fr.mono w1) ho1 hg1 (hp.mono w1)

/-! ### arguments, displays -/
def aNil : AM := fun _ S => some (.ok [], S)
def aCons (g : EM) (h : AM) : AM := fun ρ S => bd (g ρ S) fun x S1 => bd (h ρ S1) fun xs S2 => some (.ok (x :: xs), S2)
variable {es : List Expr}
theorem da_nil : DA X EX [] aNil := by
  refine ⟨tNil, pa_nil, ⟨fun W σ H S ρ Q r' S' fr ho hg hp => ?_⟩⟩
  cases hg
  exact hp [] H W (Wle.refl W) ho .nil
theorem da_cons {h : AM} (ha : DE X EX e g) (hr : DA X EX es h) (hs : starEach (e :: es) X.env = (false, eval e X.env) :: starEach es X.env := by rfl) : DA X EX (e :: es) (aCons g h) := by
  obtain ⟨ta, pa, ea⟩ := ha.ev
  obtain ⟨tb, pb, eb⟩ := hr.ev
  refine ⟨_, pa_cons pa pb hs, ⟨fun W σ H S ρ Q r' S' fr ho hg hp => ?_⟩⟩
  refine ea.bd fr ho hg hp.exn fun x v S1 H1 W1 w1 ho1 rx hg1 => ?_
  refine eb.bd (fr.mono w1) ho1 hg1 (hp.mono w1).exn fun xs vs S2 H2 W2 w2 ho2 rxs hg2 => ?_
  cases hg2
  exact hp (v :: vs) H2 W2 (w1.trans w2) ho2 (.cons (rx.mono w2) rxs)
/-- a new list: frozen, or a cell -/
def mkL (bx : Bool) (ds : List D) (S : Store) : D × Store := if bx = true then (.box S.length, S ++ [.lst ds]) else (.lst ds, S)
theorem mkL_f (ds : List D) (S : Store) : mkL false ds S = (.lst ds, S) := rfl
theorem mkL_t (ds : List D) (S : Store) : mkL true ds S = (.box S.length, S ++ [.lst ds]) := rfl
section
variable {K : PySem.W.Frag} {mg : Str → Option Value} {W : Wd} {S : Store} {H : Hp} {p : Addr} {ds : List D} {vs : List V}
theorem Hold.newL (ho : Hold K mg W S H) (np : H p = none) (z : ds.length ≤ sizeLine) (r : RepL K mg W ds vs) (bx : Bool) :
    ∃ W', Wle W W' ∧ Hold K mg W' (mkL bx ds S).2 (upd H p (.lst vs)) ∧ Rep K mg W' (mkL bx ds S).1 (.ref p) := by
  cases bx with
  | false =>
    obtain ⟨w, h⟩ := ho.froze (o := .lst vs) np
    exact ⟨_, w, h, .lst (show upd W.Hf p _ p = _ from upd_same) z (r.mono w)⟩
  | true =>
    obtain ⟨w, h⟩ := ho.boxed (o := .lst vs) (c := .lst ds) np fun W' w' => ⟨z, vs, upd_same, r.mono w'⟩
    refine ⟨_, w, h, .box ?_⟩
    show (W.eta ++ [p])[S.length]? = some p
    rw [← ho.len, List.getElem?_append_right (Nat.le_refl _), Nat.sub_self]; rfl
theorem Hold.newT (ho : Hold K mg W S H) (np : H p = none) (z : ds.length ≤ sizeLine) (r : RepL K mg W ds vs) :
    ∃ W', Wle W W' ∧ Hold K mg W' S (upd H p (.tup vs)) ∧ Rep K mg W' (.tup ds) (.ref p) := by
  obtain ⟨w, h⟩ := ho.froze (o := .tup vs) np
  exact ⟨_, w, h, .tup (show upd W.Hf p _ p = _ from upd_same) z (r.mono w)⟩
end
def gTup (h : AM) : EM := fun ρ S => bd (h ρ S) fun xs S1 => if xs.length ≤ sizeLine then some (.ok (.tup xs), S1) else none
def gLst (bx : Bool) (h : AM) : EM := fun ρ S => bd (h ρ S) fun xs S1 => if xs.length ≤ sizeLine then okM (some (mkL bx xs S1)) else none
theorem de_tup {h : AM} {x1} (ha : DA X EX es h) : DE X EX (.Tuple es x1 pos) (gTup h) := by
  obtain ⟨ta, pa, ea⟩ := ha.ev
  refine ⟨_, pe_tup pa, ⟨fun W σ H S ρ Q r' S' fr ho hg hp => ?_⟩⟩
  refine ea.bd fr ho hg hp.exn fun xs vs S1 H1 W1 w1 ho1 rx hg1 => ?_
  by_cases z : xs.length ≤ sizeLine
  · rw [if_pos z] at hg1
    cases hg1
    refine ⟨by rw [← rx.length]; exact z, fun p np => ?_⟩
    obtain ⟨W2, w2, ho2, r2⟩ := ho1.newT np z rx
    exact hp _ _ W2 (w1.trans w2) ho2 r2
  · rw [if_neg z] at hg1; cases hg1
theorem de_lst {h : AM} (bx : Bool) (ha : DA X EX es h) : DE X EX (.List es pos) (gLst bx h) := by
  obtain ⟨ta, pa, ea⟩ := ha.ev
  refine ⟨_, pe_lst pa, ⟨fun W σ H S ρ Q r' S' fr ho hg hp => ?_⟩⟩
  refine ea.bd fr ho hg hp.exn fun xs vs S1 H1 W1 w1 ho1 rx hg1 => ?_
  by_cases z : xs.length ≤ sizeLine
  · rw [if_pos z] at hg1
    refine ⟨by rw [← rx.length]; exact z, fun p np => ?_⟩
    obtain ⟨W2, w2, ho2, r2⟩ := ho1.newL np z rx bx
    have e : (Rs.ok (mkL bx xs S1).1, (mkL bx xs S1).2) = (r', S') := Option.some.inj hg1
    cases e
    exact hp _ _ W2 (w1.trans w2) ho2 r2
  · rw [if_neg z] at hg1; cases hg1
end
end Dm
set_option linter.all false
set_option maxRecDepth 100000
set_option maxHeartbeats 2000000
namespace Dm
open PySem L2

/-! ### what may be read as a sequence -/
def cL : Cell → Option (List D)
  | .lst ds => some ds
  | .ro ds => some ds
  | _ => none
def cW : Cell → Option (List D)
  | .lst ds => some ds
  | _ => none
def sqL (S : Store) : D → Option (List D)
  | .lst ds => some ds
  | .wlst ds => some ds
  | .box i => (S[i]?).bind cL
  | _ => none
def sqW (S : Store) : D → Option (List D)
  | .lst ds => some ds
  | .box i => (S[i]?).bind cW
  | _ => none
def sqT : D → Option (List D)
  | .tup ds => some ds
  | .wtup ds => some ds
  | _ => none
section
variable {K : PySem.W.Frag} {mg : Str → Option Value} {W : Wd} {S : Store} {H : Hp} {d : D} {v : V} {ds : List D}
theorem sqL_ok (ho : Hold K mg W S H) (r : Rep K mg W d v) (h : sqL S d = some ds) : ∃ a vs, v = .ref a ∧ SqL K H a vs ∧ RepL K mg W ds vs ∧ ds.length ≤ sizeLine := by
  cases r with
  | lst q z r => cases h; exact ⟨_, _, rfl, SqL.of (ho.ex _ _ q), r, z⟩
  | wlst q z r => cases h; exact ⟨_, _, rfl, q H ho.ex, r, z⟩
  | @box i a q =>
    have h : (S[i]?).bind cL = some ds := h
    cases e : S[i]? with
    | none => rw [e] at h; cases h
    | some c =>
      rw [e] at h
      cases c with
      | lst xs =>
        cases h
        obtain ⟨z, vs, h1, h2⟩ := ho.cell q e
        exact ⟨a, vs, rfl, SqL.of h1, h2, z⟩
      | ro xs =>
        cases h
        obtain ⟨z, o, vs, h1, h2⟩ := ho.cell q e
        exact ⟨a, vs, rfl, .inl (.inr ⟨o, h1⟩), h2, z⟩
      | dic _ _ _ => cases h
      | ins _ _ => cases h
      | dead => cases h
  | _ => cases h
theorem sqW_ok (ho : Hold K mg W S H) (r : Rep K mg W d v) (h : sqW S d = some ds) : ∃ a vs, v = .ref a ∧ H a = some (.lst vs) ∧ RepL K mg W ds vs ∧ ds.length ≤ sizeLine := by
  cases r with
  | lst q z r => cases h; exact ⟨_, _, rfl, ho.ex _ _ q, r, z⟩
  | @box i a q =>
    have h : (S[i]?).bind cW = some ds := h
    cases e : S[i]? with
    | none => rw [e] at h; cases h
    | some c =>
      rw [e] at h
      cases c with
      | lst xs =>
        cases h
        obtain ⟨z, vs, h1, h2⟩ := ho.cell q e
        exact ⟨a, vs, rfl, h1, h2, z⟩
      | ro xs => cases h
      | dic _ _ _ => cases h
      | ins _ _ => cases h
      | dead => cases h
  | _ => cases h
theorem sqT_ok (ho : Hold K mg W S H) (r : Rep K mg W d v) (h : sqT d = some ds) : ∃ a vs, v = .ref a ∧ SqT K H a vs ∧ RepL K mg W ds vs ∧ ds.length ≤ sizeLine := by
  cases r with
  | tup q z r => cases h; exact ⟨_, _, rfl, SqT.of (ho.ex _ _ q), r, z⟩
  | wtup q z r => cases h; exact ⟨_, _, rfl, q H, r, z⟩
  | _ => cases h
end

/-! ### ints -/
def oI (C : Int → Int → Prop) [∀ i j, Decidable (C i j)] (g : Int → Int → Int) : D → D → Store → Option (D × Store)
  | .int i, .int j, S => if C i j then some (.int (g i j), S) else none
  | _, _, _ => none
def oI0 (g : Int → Int → Int) : D → D → Store → Option (D × Store)
  | .int i, .int j, S => some (.int (g i j), S)
  | _, _, _ => none
def oB0 (g : Int → Int → Bool) : D → D → Store → Option (D × Store)
  | .int i, .int j, S => some (.bl (g i j), S)
  | _, _, _ => none
section
variable {X : Cx}
theorem op2_I {C : Int → Int → Prop} [∀ i j, Decidable (C i j)] {g : Int → Int → Int} : Op2 X (rI C fun i j => .int (g i j)) (oI C g) := by
  intro W H S x y d1 d2 Q d S' ho r1 r2 hg hq
  cases r1 with
  | int =>
    cases r2 with
    | int =>
      rename_i i j
      have hg : (if C i j then some (D.int (g i j), S) else none) = some (d, S') := hg
      by_cases c : C i j
      · rw [if_pos c] at hg
        cases hg
        exact ⟨i, j, rfl, rfl, c, hq _ H W (Wle.refl W) ho .int⟩
      · rw [if_neg c] at hg; cases hg
    | _ => cases hg
  | _ => cases hg
theorem op2_I0 {g : Int → Int → Int} : Op2 X (rI0 fun i j => .int (g i j)) (oI0 g) := by
  intro W H S x y d1 d2 Q d S' ho r1 r2 hg hq
  cases r1 with
  | int =>
    cases r2 with
    | int =>
      cases hg
      exact ⟨_, _, rfl, rfl, hq _ H W (Wle.refl W) ho .int⟩
    | _ => cases hg
  | _ => cases hg
theorem op2_B0 {g : Int → Int → Bool} : Op2 X (rI0 fun i j => .bl (g i j)) (oB0 g) := by
  intro W H S x y d1 d2 Q d S' ho r1 r2 hg hq
  cases r1 with
  | int =>
    cases r2 with
    | int =>
      cases hg
      exact ⟨_, _, rfl, rfl, hq _ H W (Wle.refl W) ho .bl⟩
    | _ => cases hg
  | _ => cases hg
instance (i j : Int) : Decidable (CMul i j) := by unfold CMul; exact inferInstance
instance (i j : Int) : Decidable (CDivN i j) := by unfold CDivN; exact inferInstance
instance (i j : Int) : Decidable (CDivW i j) := by unfold CDivW; exact inferInstance
instance (i j : Int) : Decidable (CMulW i j) := by unfold CMulW; exact inferInstance
instance (i j : Int) : Decidable (CPow i j) := by unfold CPow; exact inferInstance

/-! ### + -/
def oAddS : D → D → Store → Option (D × Store)
  | .str x, .str y, S => if x.length + y.length ≤ sizeLine then some (.str (x ++ y), S) else none
  | _, _, _ => none
theorem str_len_app (x y : Str) : (x ++ y).length = x.length + y.length := by
  show (x.cps ++ y.cps).size = _
  rw [Array.size_append]; rfl
theorem op2_addS : Op2 X (fun x y H Q => ∃ i j, x = .str i ∧ y = .str j ∧ i.length + j.length ≤ sizeLine ∧ Q (.str (i ++ j)) H) oAddS := by
  intro W H S x y d1 d2 Q d S' ho r1 r2 hg hq
  cases r1 with
  | str z1 =>
    cases r2 with
    | str z2 =>
      rename_i a b
      have hg : (if a.length + b.length ≤ sizeLine then some (D.str (a ++ b), S) else none) = some (d, S') := hg
      by_cases c : a.length + b.length ≤ sizeLine
      · rw [if_pos c] at hg
        cases hg
        exact ⟨a, b, rfl, rfl, c, hq _ H W (Wle.refl W) ho (.str (by rw [str_len_app]; exact c))⟩
      · rw [if_neg c] at hg; cases hg
    | _ => cases hg
  | _ => cases hg
def oCat (bx : Bool) : D → D → Store → Option (D × Store) := fun x y S => match sqW S x, sqW S y with
  | some xs, some ys => if xs.length + ys.length ≤ sizeLine then some (mkL bx (xs ++ ys) S) else none
  | _, _ => none
theorem op2_cat (bx : Bool) : Op2 X rCat (oCat bx) := by
  intro W H S x y d1 d2 Q d S' ho r1 r2 hg hq
  unfold oCat at hg
  cases e1 : sqW S d1 with
  | none => rw [e1] at hg; cases hg
  | some xs =>
    cases e2 : sqW S d2 with
    | none => rw [e1, e2] at hg; cases hg
    | some ys =>
      rw [e1, e2] at hg
      have hg : (if xs.length + ys.length ≤ sizeLine then some (mkL bx (xs ++ ys) S) else none) = some (d, S') := hg
      by_cases c : xs.length + ys.length ≤ sizeLine
      · rw [if_pos c] at hg
        obtain ⟨a, vs, rfl, ha, ra, _⟩ := sqW_ok ho r1 e1
        obtain ⟨b, us, rfl, hb, rb, _⟩ := sqW_ok ho r2 e2
        refine ⟨a, b, vs, us, rfl, rfl, ha, hb, by rw [← ra.length, ← rb.length]; exact c, fun p np => ?_⟩
        obtain ⟨W2, w2, ho2, r⟩ := ho.newL np (by rw [List.length_append]; exact c) (ra.append rb) bx
        have e : mkL bx (xs ++ ys) S = (d, S') := Option.some.inj hg
        rw [e] at ho2 r
        exact hq _ _ W2 w2 ho2 r
      · rw [if_neg c] at hg; cases hg
def oCatT : D → D → Store → Option (D × Store) := fun x y S => match sqT x, sqT y with
  | some xs, some ys => if xs.length + ys.length ≤ sizeLine then some (if xs = [] then y else if ys = [] then x else .tup (xs ++ ys), S) else none
  | _, _ => none
end
end Dm
set_option linter.all false
set_option maxRecDepth 100000
set_option maxHeartbeats 2000000
namespace Dm
open PySem L2

theorem getNil {α : Type} {xs : List α} : xs = [] ↔ xs.length = 0 := by cases xs <;> simp
section
variable {X : Cx}
theorem RepL.nil_iff {K : PySem.W.Frag} {mg : Str → Option Value} {W : Wd} {ds : List D} {vs : List V} (h : RepL K mg W ds vs) : ds = [] ↔ vs = [] := by
  cases h with
  | nil => exact Iff.intro (fun _ => rfl) (fun _ => rfl)
  | cons _ _ => exact Iff.intro (fun z => by cases z) (fun z => by cases z)
theorem op2_catT : Op2 X (rCatA X.K) oCatT := by
  intro W H S x y d1 d2 Q d S' ho r1 r2 hg hq
  unfold oCatT at hg
  cases e1 : sqT d1 with
  | none => rw [e1] at hg; cases hg
  | some xs =>
    cases e2 : sqT d2 with
    | none => rw [e1, e2] at hg; cases hg
    | some ys =>
      rw [e1, e2] at hg
      have hg : (if xs.length + ys.length ≤ sizeLine then some (if xs = [] then d2 else if ys = [] then d1 else .tup (xs ++ ys), S) else none) = some (d, S') := hg
      by_cases c : xs.length + ys.length ≤ sizeLine
      · rw [if_pos c] at hg
        obtain ⟨a, vs, rfl, ha, ra, _⟩ := sqT_ok ho r1 e1
        obtain ⟨b, us, rfl, hb, rb, _⟩ := sqT_ok ho r2 e2
        cases hg
        refine ⟨a, b, vs, us, rfl, rfl, ha, hb, by rw [← ra.length, ← rb.length]; exact c, fun h0 => ?_, fun h0 h1 => ?_, fun h0 h1 p np => ?_⟩
        · rw [if_pos (ra.nil_iff.mpr h0)] at hq
          exact hq _ H W (Wle.refl W) ho r2
        · rw [if_neg (fun z => h0 (ra.nil_iff.mp z)), if_pos (rb.nil_iff.mpr h1)] at hq
          exact hq _ H W (Wle.refl W) ho r1
        · rw [if_neg (fun z => h0 (ra.nil_iff.mp z)), if_neg (fun z => h1 (rb.nil_iff.mp z))] at hq
          obtain ⟨W2, w2, ho2, r⟩ := ho.newT np (by rw [List.length_append]; exact c) (ra.append rb)
          exact hq _ _ W2 w2 ho2 r
      · rw [if_neg c] at hg; cases hg
/-- list * int -/
def oRep (bx : Bool) : D → D → Store → Option (D × Store)
  | x, .int k, S => match sqW S x with
    | some xs => if -(2 ^ 63) ≤ k ∧ k < 2 ^ 63 ∧ xs.length * k.toNat ≤ sizeLine then some (mkL bx (List.replicate k.toNat xs).flatten S) else none
    | none => none
  | _, _, _ => none
theorem flat_len {α : Type} (n : Nat) (xs : List α) : (List.replicate n xs).flatten.length = xs.length * n := by
  induction n with
  | zero => simp
  | succ n ih => rw [List.replicate_succ, List.flatten_cons, List.length_append, ih, Nat.mul_succ, Nat.add_comm]
theorem op2_rep (bx : Bool) : Op2 X rRep (oRep bx) := by
  intro W H S x y d1 d2 Q d S' ho r1 r2 hg hq
  cases r2 with
  | int =>
    rename_i k
    have hg : (match sqW S d1 with
      | some xs => if -(2 ^ 63) ≤ k ∧ k < 2 ^ 63 ∧ xs.length * k.toNat ≤ sizeLine then some (mkL bx (List.replicate k.toNat xs).flatten S) else none
      | none => none) = some (d, S') := hg
    cases e1 : sqW S d1 with
    | none => rw [e1] at hg; cases hg
    | some xs =>
      rw [e1] at hg
      have hg : (if -(2 ^ 63) ≤ k ∧ k < 2 ^ 63 ∧ xs.length * k.toNat ≤ sizeLine then some (mkL bx (List.replicate k.toNat xs).flatten S) else none) = some (d, S') := hg
      by_cases c : -(2 ^ 63) ≤ k ∧ k < 2 ^ 63 ∧ xs.length * k.toNat ≤ sizeLine
      · rw [if_pos c] at hg
        obtain ⟨a, vs, rfl, ha, ra, _⟩ := sqW_ok ho r1 e1
        refine ⟨a, k, vs, rfl, rfl, ha, c.1, c.2.1, by rw [← ra.length]; exact c.2.2, fun p np => ?_⟩
        obtain ⟨W2, w2, ho2, r⟩ := ho.newL np (by rw [flat_len]; exact c.2.2) (ra.flat k.toNat) bx
        have e : mkL bx (List.replicate k.toNat xs).flatten S = (d, S') := Option.some.inj hg
        rw [e] at ho2 r
        exact hq _ _ W2 w2 ho2 r
      · rw [if_neg c] at hg; cases hg
  | _ => cases hg
/-- tuple * int -/
def oRepT : D → D → Store → Option (D × Store)
  | x, .int k, S => match sqT x with
    | some xs => if xs ≠ [] ∧ 2 ≤ k ∧ k ≤ 1000 ∧ xs.length ≤ 1000 then some (.tup (List.replicate k.toNat xs).flatten, S) else none
    | none => none
  | _, _, _ => none
theorem op2_repT : Op2 X (rRepT X.K) oRepT := by
  intro W H S x y d1 d2 Q d S' ho r1 r2 hg hq
  cases r2 with
  | int =>
    rename_i k
    have hg : (match sqT d1 with
      | some xs => if xs ≠ [] ∧ 2 ≤ k ∧ k ≤ 1000 ∧ xs.length ≤ 1000 then some (D.tup (List.replicate k.toNat xs).flatten, S) else none
      | none => none) = some (d, S') := hg
    cases e1 : sqT d1 with
    | none => rw [e1] at hg; cases hg
    | some xs =>
      rw [e1] at hg
      have hg : (if xs ≠ [] ∧ 2 ≤ k ∧ k ≤ 1000 ∧ xs.length ≤ 1000 then some (D.tup (List.replicate k.toNat xs).flatten, S) else none) = some (d, S') := hg
      by_cases c : xs ≠ [] ∧ 2 ≤ k ∧ k ≤ 1000 ∧ xs.length ≤ 1000
      · rw [if_pos c] at hg
        cases hg
        obtain ⟨c0, c1, c2, c3⟩ := c
        obtain ⟨a, vs, rfl, ha, ra, _⟩ := sqT_ok ho r1 e1
        refine ⟨a, k, vs, rfl, rfl, ha, fun z => c0 (ra.nil_iff.mpr z), c1, c2, by rw [← ra.length]; exact c3, fun p np => ?_⟩
        have z : xs.length * k.toNat ≤ sizeLine := by
          rw [sizeLine_eq]
          have := Nat.mul_le_mul c3 (show k.toNat ≤ 1000 by omega)
          omega
        obtain ⟨W2, w2, ho2, r⟩ := ho.newT np (by rw [flat_len]; exact z) (ra.flat k.toNat)
        exact hq _ _ W2 w2 ho2 r
      · rw [if_neg c] at hg; cases hg
  | _ => cases hg

/-! ### == -/
def scD : D → D → Option Bool
  | .non, .non => some true
  | .non, .int _ => some false
  | .int _, .non => some false
  | .non, .bl _ => some false
  | .bl _, .non => some false
  | .non, .str _ => some false
  | .str _, .non => some false
  | .int i, .int j => some (decide (i = j))
  | .bl i, .bl j => some (decide (i = j))
  | .str i, .str j => some (decide (i = j))
  | .int _, .str _ => some false
  | .str _, .int _ => some false
  | .bl _, .str _ => some false
  | .str _, .bl _ => some false
  | _, _ => none
def oEqS : D → D → Store → Option (D × Store) := fun x y S => (scD x y).map fun b => (.bl b, S)
def oNeS : D → D → Store → Option (D × Store) := fun x y S => (scD x y).map fun b => (.bl (!b), S)
theorem scD_ok {K : PySem.W.Frag} {mg : Str → Option Value} {W : Wd} {x y : V} {d1 d2 : D} {b : Bool} (r1 : Rep K mg W d1 x) (r2 : Rep K mg W d2 y) (h : scD d1 d2 = some b) : scal x y = true ∧ decide (x = y) = b := by
  cases r1 <;> cases r2 <;> first
    | (cases h; done)
    | (cases h; exact And.intro rfl (by simp))
theorem op2_eqS : Op2 X rEq oEqS := by
  intro W H S x y d1 d2 Q d S' ho r1 r2 hg hq
  unfold oEqS at hg
  cases e : scD d1 d2 with
  | none => rw [e] at hg; cases hg
  | some b =>
    rw [e] at hg
    cases hg
    obtain ⟨h1, h2⟩ := scD_ok r1 r2 e
    exact ⟨h1, by rw [h2]; exact hq _ H W (Wle.refl W) ho .bl⟩
theorem op2_neS : Op2 X rNe oNeS := by
  intro W H S x y d1 d2 Q d S' ho r1 r2 hg hq
  unfold oNeS at hg
  cases e : scD d1 d2 with
  | none => rw [e] at hg; cases hg
  | some b =>
    rw [e] at hg
    cases hg
    obtain ⟨h1, h2⟩ := scD_ok r1 r2 e
    exact ⟨h1, by rw [h2]; exact hq _ H W (Wle.refl W) ho .bl⟩
mutual
def toPy0 : D → Option PyData
  | .non => some .none
  | .bl b => some (.bool b)
  | .int i => some (.int i)
  | .str s => some (.str s)
  | .tup ds => (toPyL ds).map .tuple
  | .wtup ds => (toPyL ds).map .tuple
  | .lst ds => (toPyL ds).map .list
  | .wlst _ => none
  | .box _ => none
  | .glb _ => none
def toPyL : List D → Option (List PyData)
  | [] => some []
  | d :: ds => match toPy0 d, toPyL ds with
    | some p, some ps => some (p :: ps)
    | _, _ => none
end
def toPy (S : Store) : D → Option PyData
  | .box i => ((S[i]?).bind cL).bind fun ds => (toPyL ds).map .list
  | d => toPy0 d
section
variable {K : PySem.W.Frag} {mg : Str → Option Value} {W : Wd} {S : Store} {H : Hp}
mutual
theorem toPy0_ok (ho : ∀ a o, W.Hf a = some o → H a = some o) : ∀ {d : D} {v : V} {p : PyData}, Rep K mg W d v → toPy0 d = some p → Dp K H v p
  | _, _, _, .non, h => by cases h; exact .non
  | _, _, _, .bl, h => by cases h; exact .bl _
  | _, _, _, .int, h => by cases h; exact .int _
  | _, _, _, .str z, h => by cases h; exact .str _
  | _, _, p, .tup (ds := ds) q z r, h => by
    have h : (toPyL ds).map PyData.tuple = some p := h
    cases e : toPyL ds with
    | none => rw [e] at h; cases h
    | some ps => rw [e] at h; cases h; exact .tup (SqT.of (ho _ _ q)) (toPyL_ok ho r e)
  | _, _, p, .wtup (ds := ds) q z r, h => by
    have h : (toPyL ds).map PyData.tuple = some p := h
    cases e : toPyL ds with
    | none => rw [e] at h; cases h
    | some ps => rw [e] at h; cases h; exact .tup (q H) (toPyL_ok ho r e)
  | _, _, p, .lst (ds := ds) q z r, h => by
    have h : (toPyL ds).map PyData.list = some p := h
    cases e : toPyL ds with
    | none => rw [e] at h; cases h
    | some ps => rw [e] at h; cases h; exact .lst (SqL.of (ho _ _ q)) (toPyL_ok ho r e)
  | _, _, _, .box _, h => by cases h
  | _, _, _, .glb _ _, h => by cases h
theorem toPyL_ok (ho : ∀ a o, W.Hf a = some o → H a = some o) : ∀ {ds : List D} {vs : List V} {ps : List PyData}, RepL K mg W ds vs → toPyL ds = some ps → DpAll K H vs ps
  | _, _, _, .nil, h => by cases h; exact .nil
  | _, _, ps, .cons (d := d) (ds := ds) q r, h => by
    have h : (match toPy0 d, toPyL ds with
    | some p, some ps => some (p :: ps)
    | _, _ => none) = some ps := h
    cases e1 : toPy0 d with
    | none => rw [e1] at h; cases h
    | some p =>
      cases e2 : toPyL ds with
      | none => rw [e1, e2] at h; cases h
      | some ps' =>
        rw [e1, e2] at h
        cases h
        exact .cons (toPy0_ok ho q e1) (toPyL_ok ho r e2)
end
theorem toPy_ok (ho : Hold K mg W S H) {d : D} {v : V} {p : PyData} (r : Rep K mg W d v) (h : toPy S d = some p) : Dp K H v p := by
  cases r with
  | @box i a q =>
    have h : ((S[i]?).bind cL).bind (fun ds => (toPyL ds).map PyData.list) = some p := h
    cases e : (S[i]?).bind cL with
    | none => rw [e] at h; cases h
    | some ds =>
      rw [e] at h
      have h : (toPyL ds).map PyData.list = some p := h
      obtain ⟨a', vs, e1, h1, h2, _⟩ := sqL_ok ho (.box q) (d := .box i) (ds := ds) e
      cases e1
      cases e2 : toPyL ds with
      | none => rw [e2] at h; cases h
      | some ps => rw [e2] at h; cases h; exact .lst h1 (toPyL_ok ho.ex h2 e2)
  | non => exact toPy0_ok ho.ex (mg := mg) .non h
  | bl => exact toPy0_ok ho.ex (mg := mg) .bl h
  | int => exact toPy0_ok ho.ex (mg := mg) .int h
  | str z => exact toPy0_ok ho.ex (mg := mg) (.str z) h
  | tup q z r => exact toPy0_ok ho.ex (mg := mg) (.tup q z r) h
  | wtup q z r => exact toPy0_ok ho.ex (mg := mg) (.wtup q z r) h
  | lst q z r => exact toPy0_ok ho.ex (mg := mg) (.lst q z r) h
  | wlst q z r => cases h
  | glb q r => cases h
end
def eqD (S : Store) (x y : D) : Option Bool := match toPy S x, toPy S y with
  | some p, some q => if SeqAt.shaped p = true ∧ SeqAt.shaped q = true then some (PyData.eqv p q) else none
  | _, _ => none
def oEqD : D → D → Store → Option (D × Store) := fun x y S => (eqD S x y).map fun b => (.bl b, S)
def oNeD : D → D → Store → Option (D × Store) := fun x y S => (eqD S x y).map fun b => (.bl (!b), S)
theorem eqD_ok {K : PySem.W.Frag} {mg : Str → Option Value} {W : Wd} {S : Store} {H : Hp} {x y : V} {d1 d2 : D} {b : Bool} (ho : Hold K mg W S H) (r1 : Rep K mg W d1 x) (r2 : Rep K mg W d2 y) (h : eqD S d1 d2 = some b) :
    ∃ p q, Dp K H x p ∧ Dp K H y q ∧ SeqAt.shaped p = true ∧ SeqAt.shaped q = true ∧ PyData.eqv p q = b := by
  unfold eqD at h
  cases e1 : toPy S d1 with
  | none => rw [e1] at h; cases h
  | some p =>
    cases e2 : toPy S d2 with
    | none => rw [e1, e2] at h; cases h
    | some q =>
      rw [e1, e2] at h
      have h : (if SeqAt.shaped p = true ∧ SeqAt.shaped q = true then some (PyData.eqv p q) else none) = some b := h
      by_cases c : SeqAt.shaped p = true ∧ SeqAt.shaped q = true
      · rw [if_pos c] at h
        cases h
        exact ⟨p, q, toPy_ok ho r1 e1, toPy_ok ho r2 e2, c.1, c.2, rfl⟩
      · rw [if_neg c] at h; cases h
theorem op2_eqD : Op2 X (rEqD X.K) oEqD := by
  intro W H S x y d1 d2 Q d S' ho r1 r2 hg hq
  unfold oEqD at hg
  cases e : eqD S d1 d2 with
  | none => rw [e] at hg; cases hg
  | some b =>
    rw [e] at hg
    cases hg
    obtain ⟨p, q, h1, h2, h3, h4, h5⟩ := eqD_ok ho r1 r2 e
    exact ⟨p, q, h1, h2, h3, h4, by rw [h5]; exact hq _ H W (Wle.refl W) ho .bl⟩
theorem op2_neD : Op2 X (rNeD X.K) oNeD := by
  intro W H S x y d1 d2 Q d S' ho r1 r2 hg hq
  unfold oNeD at hg
  cases e : eqD S d1 d2 with
  | none => rw [e] at hg; cases hg
  | some b =>
    rw [e] at hg
    cases hg
    obtain ⟨p, q, h1, h2, h3, h4, h5⟩ := eqD_ok ho r1 r2 e
    exact ⟨p, q, h1, h2, h3, h4, by rw [h5]; exact hq _ H W (Wle.refl W) ho .bl⟩
abbrev oEq := orO oEqS oEqD
abbrev oNe := orO oNeS oNeD
theorem opr_eq (hu : X.A.units + 64 < cLine) : OpR X (compareOp .Eq) (fun x y H Q => rEq x y H Q ∨ rEqD X.K x y H Q) := op_eq.or (op_eqD hu)
theorem opr_ne (hu : X.A.units + 64 < cLine) : OpR X (compareOp .NotEq) (fun x y H Q => rNe x y H Q ∨ rNeD X.K x y H Q) := op_ne.or (op_neD hu)
theorem op2_eq : Op2 X (fun x y H Q => rEq x y H Q ∨ rEqD X.K x y H Q) oEq := op2_eqS.or op2_eqD
theorem op2_ne : Op2 X (fun x y H Q => rNe x y H Q ∨ rNeD X.K x y H Q) oNe := op2_neS.or op2_neD

/-! ### is None -/
def isN : D → Option Bool
  | .non => some true
  | .glb _ => none
  | _ => some false
def oIsN : D → D → Store → Option (D × Store)
  | x, .non, S => (isN x).map fun b => (.bl b, S)
  | _, _, _ => none
def oNotN : D → D → Store → Option (D × Store)
  | x, .non, S => (isN x).map fun b => (.bl (!b), S)
  | _, _, _ => none
theorem isN_ok {K : PySem.W.Frag} {mg : Str → Option Value} {W : Wd} {x : V} {d1 : D} {b : Bool} (r1 : Rep K mg W d1 x) (h : isN d1 = some b) : decide (x = .non) = b := by
  cases r1 <;> cases h <;> simp
theorem op2_isN : Op2 X (fun x y H Q => y = .non ∧ Q (.bl (decide (x = .non))) H) oIsN := by
  intro W H S x y d1 d2 Q d S' ho r1 r2 hg hq
  cases r2 with
  | non =>
    have hg : (isN d1).map (fun b => (D.bl b, S)) = some (d, S') := hg
    cases e : isN d1 with
    | none => rw [e] at hg; cases hg
    | some b =>
      rw [e] at hg
      cases hg
      exact ⟨rfl, by rw [isN_ok r1 e]; exact hq _ H W (Wle.refl W) ho .bl⟩
  | _ => cases hg
theorem op2_notN : Op2 X (fun x y H Q => y = .non ∧ Q (.bl (!decide (x = .non))) H) oNotN := by
  intro W H S x y d1 d2 Q d S' ho r1 r2 hg hq
  cases r2 with
  | non =>
    have hg : (isN d1).map (fun b => (D.bl (!b), S)) = some (d, S') := hg
    cases e : isN d1 with
    | none => rw [e] at hg; cases hg
    | some b =>
      rw [e] at hg
      cases hg
      exact ⟨rfl, by rw [isN_ok r1 e]; exact hq _ H W (Wle.refl W) ho .bl⟩
  | _ => cases hg

/-! ### in -/
def flD : D → Option V
  | .non => some .non
  | .bl b => some (.bl b)
  | .int i => some (.int i)
  | .str s => some (.str s)
  | _ => none
def flL : List D → Option (List V)
  | [] => some []
  | d :: ds => match flD d, flL ds with
    | some p, some ps => some (p :: ps)
    | _, _ => none
theorem flD_ok {K : PySem.W.Frag} {mg : Str → Option Value} {W : Wd} {x u : V} {d1 : D} (r1 : Rep K mg W d1 x) (h : flD d1 = some u) : x = u ∧ flatV u = true := by
  cases r1 <;> cases h <;> exact ⟨rfl, rfl⟩
theorem flL_ok {K : PySem.W.Frag} {mg : Str → Option Value} {W : Wd} : ∀ {ds : List D} {vs us : List V}, RepL K mg W ds vs → flL ds = some us → vs = us ∧ us.all flatV = true
  | _, _, _, .nil, h => by cases h; exact ⟨rfl, rfl⟩
  | _, _, us, .cons (d := d) (ds := ds) q r, h => by
    have h : (match flD d, flL ds with
    | some p, some ps => some (p :: ps)
    | _, _ => none) = some us := h
    cases e1 : flD d with
    | none => rw [e1] at h; cases h
    | some p =>
      cases e2 : flL ds with
      | none => rw [e1, e2] at h; cases h
      | some ps' =>
        rw [e1, e2] at h
        cases h
        obtain ⟨h1, h2⟩ := flD_ok q e1
        obtain ⟨h3, h4⟩ := flL_ok r e2
        exact ⟨by rw [h1, h3], by rw [List.all_cons, h2, h4]; rfl⟩
/-- of lists and tuples alike -/
def sqA (S : Store) (d : D) : Option (List D) := match sqL S d with
  | some ds => some ds
  | none => sqT d
theorem sqA_ok {K : PySem.W.Frag} {mg : Str → Option Value} {W : Wd} {S : Store} {H : Hp} {d : D} {v : V} {ds : List D} (ho : Hold K mg W S H) (r : Rep K mg W d v) (h : sqA S d = some ds) :
    ∃ a vs, v = .ref a ∧ (SqL K H a vs ∨ SqT K H a vs) ∧ RepL K mg W ds vs ∧ ds.length ≤ sizeLine := by
  unfold sqA at h
  cases e : sqL S d with
  | some xs =>
    rw [e] at h; cases h
    obtain ⟨a, vs, h1, h2, h3, h4⟩ := sqL_ok ho r e
    exact ⟨a, vs, h1, .inl h2, h3, h4⟩
  | none =>
    rw [e] at h
    obtain ⟨a, vs, h1, h2, h3, h4⟩ := sqT_ok ho r h
    exact ⟨a, vs, h1, .inr h2, h3, h4⟩
def inD (S : Store) (x y : D) : Option Bool := match flD x, (sqA S y).bind flL with
  | some u, some us => some (inV u us)
  | _, _ => none
def oIn (neg : Bool) : D → D → Store → Option (D × Store) := fun x y S => (inD S x y).map fun b => (.bl (if neg = true then !b else b), S)
theorem op2_in (neg : Bool) : Op2 X (rIn X.K neg) (oIn neg) := by
  intro W H S x y d1 d2 Q d S' ho r1 r2 hg hq
  unfold oIn inD at hg
  cases e1 : flD d1 with
  | none => rw [e1] at hg; cases hg
  | some u =>
    cases e2 : sqA S d2 with
    | none => rw [e1, e2] at hg; cases hg
    | some ds =>
      cases e3 : flL ds with
      | none => rw [e1, e2] at hg; simp only [Option.bind_some, e3] at hg; cases hg
      | some us =>
        rw [e1, e2] at hg
        simp only [Option.bind_some, e3] at hg
        cases hg
        obtain ⟨h1, h2⟩ := flD_ok r1 e1
        obtain ⟨a, vs, rfl, h3, h4, _⟩ := sqA_ok ho r2 e2
        obtain ⟨h5, h6⟩ := flL_ok h4 e3
        subst h1 h5
        exact ⟨a, vs, rfl, h3, h2, h6, hq _ H W (Wle.refl W) ho .bl⟩
/-- a text in a text -/
def oInS : D → D → Store → Option (D × Store)
  | .str x, .str y, S => some (.bl (!(Builtin.Str.occurrences y x 0 y.length 1).isEmpty), S)
  | _, _, _ => none
def oNotInS : D → D → Store → Option (D × Store)
  | .str x, .str y, S => some (.bl (!(!(Builtin.Str.occurrences y x 0 y.length 1).isEmpty)), S)
  | _, _, _ => none
theorem op2_inS : Op2 X (fun x y H Q => ∃ i j, x = .str i ∧ y = .str j ∧ Q (.bl (!(Builtin.Str.occurrences j i 0 j.length 1).isEmpty)) H) oInS := by
  intro W H S x y d1 d2 Q d S' ho r1 r2 hg hq
  cases r1 <;> cases r2 <;> first
    | (cases hg; done)
    | (cases hg; exact ⟨_, _, rfl, rfl, hq _ H W (Wle.refl W) ho .bl⟩)
theorem op2_notInS : Op2 X (fun x y H Q => ∃ i j, x = .str i ∧ y = .str j ∧ Q (.bl (!(!(Builtin.Str.occurrences j i 0 j.length 1).isEmpty))) H) oNotInS := by
  intro W H S x y d1 d2 Q d S' ho r1 r2 hg hq
  cases r1 <;> cases r2 <;> first
    | (cases hg; done)
    | (cases hg; exact ⟨_, _, rfl, rfl, hq _ H W (Wle.refl W) ho .bl⟩)
end
end Dm
set_option linter.all false
set_option maxRecDepth 100000
set_option maxHeartbeats 2000000
namespace Dm
open PySem L2

/-! ### dicts -/
section
variable {κ : Type} [DecidableEq κ] (f : D → Option κ)
def findF (kvs : List (D × D)) (k : κ) : Option D := (kvs.find? fun p => decide (f p.1 = some k)).map (·.2)
def setF (kvs : List (D × D)) (key : D) (k : κ) (v : D) : List (D × D) :=
  if (kvs.any fun p => decide (f p.1 = some k)) = true then kvs.map (fun p => if f p.1 = some k then (p.1, v) else p) else kvs ++ [(key, v)]
variable {f} {R : D → V → Prop} {J : D → κ → Prop}
theorem find_ok {k : κ} : ∀ {kvs : List (D × D)} {kk : List (κ × V)}, Paired (fun (p : D × D) (q : κ × V) => (f p.1 = some q.1 ∧ J p.1 q.1) ∧ R p.2 q.2) kvs kk →
    (∀ d, findF f kvs k = some d → ∃ v, valV kk k = some v ∧ R d v) ∧ (findF f kvs k = none → valV kk k = none)
  | _, _, .nil => ⟨fun d h => by simp [findF] at h, fun _ => rfl⟩
  | _, _, .cons (a := p) (b := q) h t => by
    obtain ⟨⟨h1, h0⟩, h2⟩ := h
    by_cases e : q.1 = k
    · have e' : f p.1 = some k := by rw [h1, e]
      have ef : ∀ l, findF f (p :: l) k = some p.2 := fun l => by simp [findF, List.find?_cons, e']
      refine ⟨fun d hd => ?_, fun hn => ?_⟩
      · rw [ef] at hd; cases hd
        exact ⟨_, valV_pos e, h2⟩
      · rw [ef] at hn; cases hn
    · have e' : ¬ f p.1 = some k := by rw [h1]; exact fun z => e (Option.some.inj z)
      have ef : ∀ l, findF f (p :: l) k = findF f l k := fun l => by simp [findF, List.find?_cons, e']
      obtain ⟨i1, i2⟩ := find_ok (k := k) t
      refine ⟨fun d hd => ?_, fun hn => ?_⟩
      · rw [ef] at hd
        obtain ⟨v, a, b⟩ := i1 d hd
        exact ⟨v, by rw [valV_neg e]; exact a, b⟩
      · rw [ef] at hn
        rw [valV_neg e]; exact i2 hn
theorem any_ok {k : κ} : ∀ {kvs : List (D × D)} {kk : List (κ × V)}, Paired (fun (p : D × D) (q : κ × V) => (f p.1 = some q.1 ∧ J p.1 q.1) ∧ R p.2 q.2) kvs kk →
    (kvs.any fun p => decide (f p.1 = some k)) = kk.any fun kv => decide (kv.1 = k)
  | _, _, .nil => rfl
  | _, _, .cons (a := p) (b := q) h t => by
    rw [List.any_cons, List.any_cons, any_ok t]
    congr 1
    rw [h.1.1]
    simp
theorem map_ok {k : κ} {d : D} {v : V} (r : R d v) : ∀ {kvs : List (D × D)} {kk : List (κ × V)}, Paired (fun (p : D × D) (q : κ × V) => (f p.1 = some q.1 ∧ J p.1 q.1) ∧ R p.2 q.2) kvs kk →
    Paired (fun (p : D × D) (q : κ × V) => (f p.1 = some q.1 ∧ J p.1 q.1) ∧ R p.2 q.2) (kvs.map fun p => if f p.1 = some k then (p.1, d) else p) (kk.map fun kv => if kv.1 = k then (kv.1, v) else kv)
  | _, _, .nil => .nil
  | _, _, .cons (a := p) (b := q) h t => by
    refine .cons ?_ (map_ok r t)
    dsimp only
    by_cases e : q.1 = k
    · have e' : f p.1 = some k := by rw [h.1.1, e]
      rw [if_pos e, if_pos e']
      exact ⟨h.1, r⟩
    · have e' : ¬ f p.1 = some k := by rw [h.1.1]; exact fun z => e (Option.some.inj z)
      rw [if_neg e, if_neg e']
      exact h
theorem paired_append {α β : Type} {F : α → β → Prop} : ∀ {l m : List α} {l' m' : List β}, Paired F l l' → Paired F m m' → Paired F (l ++ m) (l' ++ m')
  | _, _, _, _, .nil, s => s
  | _, _, _, _, .cons r t, s => .cons r (paired_append t s)
theorem set_ok {k : κ} {key d : D} {v : V} {kvs : List (D × D)} {kk : List (κ × V)} (hp : Paired (fun (p : D × D) (q : κ × V) => (f p.1 = some q.1 ∧ J p.1 q.1) ∧ R p.2 q.2) kvs kk) (hk : f key = some k) (hj : J key k) (r : R d v) :
    Paired (fun (p : D × D) (q : κ × V) => (f p.1 = some q.1 ∧ J p.1 q.1) ∧ R p.2 q.2) (setF f kvs key k d) (putK kk k v) := by
  unfold setF putK
  rw [any_ok hp]
  by_cases e : (kk.any fun kv => decide (kv.1 = k)) = true
  · rw [if_pos e, if_pos e]
    exact map_ok r hp
  · rw [if_neg e, if_neg e]
    exact paired_append hp (.cons ⟨⟨hk, hj⟩, r⟩ .nil)
end
def dGetC : Cell → D → Option (Option D)
  | .dic kd _ kvs, key => if kd = 0 then (keyK key).map (findF keyK kvs) else if kd = 1 then (keyT key).map (findF keyT kvs) else none
  | _, _ => none
def dget (S : Store) : D → D → Option (Option D)
  | .box i, key => (S[i]?).bind fun c => dGetC c key
  | _, _ => none
section
variable {K : PySem.W.Frag} {mg : Str → Option Value} {W : Wd} {S : Store} {H : Hp}
theorem keyK_ok {d : D} {k : Key} {v : V} (r : Rep K mg W d v) (h : keyK d = some k) : v = kV k := by
  cases r <;> cases h <;> rfl
theorem keysK_ok : ∀ {ds : List D} {ks : List Key} {vs : List V}, RepL K mg W ds vs → keysK ds = some ks → vs = ks.map kV
  | _, _, _, .nil, h => by cases h; rfl
  | _, ks, _, .cons (d := d) (ds := ds) q r, h => by
    have h : (match keyK d, keysK ds with
    | some k, some ks => some (k :: ks)
    | _, _ => none) = some ks := h
    cases e1 : keyK d with
    | none => rw [e1] at h; cases h
    | some k =>
      cases e2 : keysK ds with
      | none => rw [e1, e2] at h; cases h
      | some ks' =>
        rw [e1, e2] at h
        cases h
        rw [keyK_ok q e1, keysK_ok r e2]; rfl
theorem keyT_ok (ho : ∀ a o, W.Hf a = some o → H a = some o) {d : D} {ks : List Key} {v : V} (r : Rep K mg W d v) (h : keyT d = some ks) : ∃ b, v = .ref b ∧ H b = some (.tup (ks.map kV)) := by
  cases r with
  | tup q z rr => exact ⟨_, rfl, by rw [← keysK_ok rr h]; exact ho _ _ q⟩
  | _ => cases h
theorem keyT_rk {d : D} {ks : List Key} {v : V} (r : Rep K mg W d v) (h : keyT d = some ks) : RK1 K mg W d ks := by
  cases r with
  | tup q z rr =>
    have e := keysK_ok rr h
    rw [e] at rr
    exact ⟨_, rfl, z, rr⟩
  | _ => cases h
theorem DicO.rd {a : Addr} {kd : Nat} {lk : Bool} {kvs : List (D × D)} (h : CellOk K mg W H a (.dic kd lk kvs)) : ∃ u, DicO K mg W kd kvs u ∧ Rd H a u := by
  cases lk with
  | false => obtain ⟨u, h1, h2⟩ := h; exact ⟨u, h1, .inl h2⟩
  | true => obtain ⟨o, u, h1, h2⟩ := h; exact ⟨u, h1, .inr ⟨o, h2⟩⟩
theorem dget_ok (ho : Hold K mg W S H) {x key : D} {v u : V} {o : Option D} (r1 : Rep K mg W x v) (r2 : Rep K mg W key u) (h : dget S x key = some o) :
    ∃ a ov, v = .ref a ∧ DGet H a u ov ∧ (∀ d, o = some d → ∃ w, ov = some w ∧ Rep K mg W d w) ∧ (o = none → ov = none) := by
  cases r1 with
  | @box i a q =>
    have h : (S[i]?).bind (fun c => dGetC c key) = some o := h
    cases e : S[i]? with
    | none => rw [e] at h; cases h
    | some c =>
      rw [e] at h
      have h : dGetC c key = some o := h
      cases c with
      | dic kd lk kvs =>
        have h : (if kd = 0 then (keyK key).map (findF keyK kvs) else if kd = 1 then (keyT key).map (findF keyT kvs) else none) = some o := h
        obtain ⟨u', h1, h2⟩ := DicO.rd (ho.cell q e)
        by_cases c0 : kd = 0
        · rw [if_pos c0] at h
          cases ek : keyK key with
          | none => rw [ek] at h; cases h
          | some k =>
            rw [ek] at h
            have h : some (findF keyK kvs k) = some o := h
            cases h
            rcases h1 with ⟨_, kk, e1, p⟩ | ⟨e0, _⟩
            · subst e1
              obtain ⟨f1, f2⟩ := find_ok (k := k) p
              exact ⟨a, _, rfl, .inl ⟨kk, k, h2, keyK_ok r2 ek, rfl⟩, fun d hd => f1 d hd, f2⟩
            · rw [c0] at e0; cases e0
        · rw [if_neg c0] at h
          by_cases c1 : kd = 1
          · rw [if_pos c1] at h
            cases ek : keyT key with
            | none => rw [ek] at h; cases h
            | some k =>
              rw [ek] at h
              have h : some (findF keyT kvs k) = some o := h
              cases h
              rcases h1 with ⟨e0, _⟩ | ⟨_, kk, e1, p⟩
              · exact absurd e0 c0
              · subst e1
                obtain ⟨f1, f2⟩ := find_ok (k := k) p
                obtain ⟨b, eb, hb⟩ := keyT_ok ho.ex r2 ek
                exact ⟨a, _, rfl, .inr ⟨kk, k, b, h2, eb, hb, rfl⟩, fun d hd => f1 d hd, f2⟩
          · rw [if_neg c1] at h; cases h
      | lst _ => cases h
      | ro _ => cases h
      | ins _ _ => cases h
      | dead => cases h
  | _ => cases h
end
def dSetC : Cell → D → D → Option Cell
  | .dic kd lk kvs, key, v => if lk = false ∧ kvs.length < sizeLine then
      (if kd = 0 then (keyK key).map (fun k => .dic kd lk (setF keyK kvs key k v)) else if kd = 1 then (keyT key).map (fun k => .dic kd lk (setF keyT kvs key k v)) else none) else none
  | _, _, _ => none
def dset (S : Store) : D → D → D → Option Store
  | .box i, key, v => (S[i]?).bind fun c => (dSetC c key v).map fun c' => S.set i c'
  | _, _, _ => none
section
variable {K : PySem.W.Frag} {mg : Str → Option Value} {W : Wd} {S S' : Store} {H : Hp}
theorem dset_ok (ho : Hold K mg W S H) {x key d : D} {v u w : V} (r1 : Rep K mg W x v) (r2 : Rep K mg W key u) (r3 : Rep K mg W d w) (h : dset S x key d = some S') :
    ∃ a H', v = .ref a ∧ DPut H a u w H' ∧ Hold K mg W S' H' := by
  cases r1 with
  | @box i a q =>
    have h : (S[i]?).bind (fun c => (dSetC c key d).map fun c' => S.set i c') = some S' := h
    cases e : S[i]? with
    | none => rw [e] at h; cases h
    | some c =>
      rw [e] at h
      have h : (dSetC c key d).map (fun c' => S.set i c') = some S' := h
      cases c with
      | dic kd lk kvs =>
        cases e2 : dSetC (.dic kd lk kvs) key d with
        | none => rw [e2] at h; cases h
        | some c' =>
          rw [e2] at h
          cases h
          have e2 : (if lk = false ∧ kvs.length < sizeLine then (if kd = 0 then (keyK key).map (fun k => Cell.dic kd lk (setF keyK kvs key k d)) else if kd = 1 then (keyT key).map (fun k => Cell.dic kd lk (setF keyT kvs key k d)) else none) else none) = some c' := e2
          by_cases cc : lk = false ∧ kvs.length < sizeLine
          · rw [if_pos cc] at e2
            obtain ⟨rfl, cl⟩ := cc
            obtain ⟨u', h1, h2⟩ := ho.cell q e
            by_cases c0 : kd = 0
            · rw [if_pos c0] at e2
              cases ek : keyK key with
              | none => rw [ek] at e2; cases e2
              | some k =>
                rw [ek] at e2
                cases e2
                rcases h1 with ⟨_, kk, e1, p⟩ | ⟨e0, _⟩
                · subst e1
                  refine ⟨a, _, rfl, .inl ⟨kk, k, h2, keyK_ok r2 ek, by rw [← Paired.length p]; exact cl, rfl⟩, ho.written q e (fun z => by cases z) ?_⟩
                  exact ⟨_, .inl ⟨c0, _, rfl, set_ok p ek (by rw [keyK_ok r2 ek] at r2; exact r2) r3⟩, upd_same⟩
                · rw [c0] at e0; cases e0
            · rw [if_neg c0] at e2
              by_cases c1 : kd = 1
              · rw [if_pos c1] at e2
                cases ek : keyT key with
                | none => rw [ek] at e2; cases e2
                | some k =>
                  rw [ek] at e2
                  cases e2
                  rcases h1 with ⟨e0, _⟩ | ⟨_, kk, e1, p⟩
                  · exact absurd e0 c0
                  · subst e1
                    obtain ⟨b, eb, hb⟩ := keyT_ok ho.ex r2 ek
                    refine ⟨a, _, rfl, .inr ⟨kk, k, b, h2, eb, hb, by rw [← Paired.length p]; exact cl, rfl⟩, ho.written q e (fun z => by cases z) ?_⟩
                    exact ⟨_, .inr ⟨c1, _, rfl, set_ok p ek (keyT_rk r2 ek) r3⟩, upd_same⟩
              · rw [if_neg c1] at e2; cases e2
          · rw [if_neg cc] at e2; cases e2
      | lst _ => cases h
      | ro _ => cases h
      | ins _ _ => cases h
      | dead => cases h
  | _ => cases h
end
section
variable {X : Cx}
/-! ### in, [] of dicts, by values -/
def rDIn : R2 := fun y x H Q => ∃ a o, x = .ref a ∧ DGet H a y o ∧ Q (.bl o.isSome) H
def rDNotIn : R2 := fun y x H Q => ∃ a o, x = .ref a ∧ DGet H a y o ∧ Q (.bl (!o.isSome)) H
theorem opr_din (hu : X.A.units + 1 < cLine) : OpR X (compareOp .In) rDIn := by
  intro pins s σ H x y v u Q I rx ry h
  obtain ⟨a, o, rfl, g, q⟩ := h
  obtain rfl : u = Value.ref a := ry
  exact d_in hu I g rx fun s3 I3 => ⟨.bl o.isSome, H, I3, rfl, q⟩
theorem opr_dnotin (hu : X.A.units + 1 < cLine) : OpR X (compareOp .NotIn) rDNotIn := by
  intro pins s σ H x y v u Q I rx ry h
  obtain ⟨a, o, rfl, g, q⟩ := h
  obtain rfl : u = Value.ref a := ry
  exact d_notIn hu I g rx fun s3 I3 => ⟨.bl (!o.isSome), H, I3, rfl, q⟩
def oDIn (neg : Bool) : D → D → Store → Option (D × Store) := fun y x S => (dget S x y).map fun o => (.bl (if neg = true then !o.isSome else o.isSome), S)
theorem isSome_eq {K : PySem.W.Frag} {mg : Str → Option Value} {W : Wd} {o : Option D} {ov : Option V} (f1 : ∀ d, o = some d → ∃ w, ov = some w ∧ Rep K mg W d w) (f2 : o = none → ov = none) : ov.isSome = o.isSome := by
  cases o with
  | none => rw [f2 rfl]; rfl
  | some d => obtain ⟨w, e, _⟩ := f1 d rfl; rw [e]; rfl
theorem op2_din : Op2 X rDIn (oDIn false) := by
  intro W H S x y d1 d2 Q d S' ho r1 r2 hg hq
  unfold oDIn at hg
  cases e : dget S d2 d1 with
  | none => rw [e] at hg; cases hg
  | some o =>
    rw [e] at hg
    cases hg
    obtain ⟨a, ov, rfl, g, f1, f2⟩ := dget_ok ho r2 r1 e
    exact ⟨a, ov, rfl, g, by rw [isSome_eq f1 f2]; exact hq _ H W (Wle.refl W) ho .bl⟩
theorem op2_dnotin : Op2 X rDNotIn (oDIn true) := by
  intro W H S x y d1 d2 Q d S' ho r1 r2 hg hq
  unfold oDIn at hg
  cases e : dget S d2 d1 with
  | none => rw [e] at hg; cases hg
  | some o =>
    rw [e] at hg
    cases hg
    obtain ⟨a, ov, rfl, g, f1, f2⟩ := dget_ok ho r2 r1 e
    exact ⟨a, ov, rfl, g, by rw [isSome_eq f1 f2]; exact hq _ H W (Wle.refl W) ho .bl⟩
/-- all the ways of in -/
abbrev rInA (K : PySem.W.Frag) : R2 := fun x y H Q => (rIn K false x y H Q ∨ (∃ i j, x = .str i ∧ y = .str j ∧ Q (.bl (!(Builtin.Str.occurrences j i 0 j.length 1).isEmpty)) H)) ∨ rDIn x y H Q
abbrev rNotInA (K : PySem.W.Frag) : R2 := fun x y H Q => (rIn K true x y H Q ∨ (∃ i j, x = .str i ∧ y = .str j ∧ Q (.bl (!(!(Builtin.Str.occurrences j i 0 j.length 1).isEmpty))) H)) ∨ rDNotIn x y H Q
theorem opr_in (hu : X.A.units + 1 < cLine) : OpR X (compareOp .In) (rInA X.K) := (op_in_seq.or op_in_str).or (opr_din hu)
theorem opr_notin (hu : X.A.units + 1 < cLine) : OpR X (compareOp .NotIn) (rNotInA X.K) := (op_notIn_seq.or op_notin_str).or (opr_dnotin hu)
abbrev oInA := orO (orO (oIn false) oInS) (oDIn false)
abbrev oNotInA := orO (orO (oIn true) oNotInS) (oDIn true)
theorem op2_inA : Op2 X (rInA X.K) oInA := ((op2_in false).or op2_inS).or op2_din
theorem op2_notinA : Op2 X (rNotInA X.K) oNotInA := ((op2_in true).or op2_notInS).or op2_dnotin

/-! ### subscripts -/
def rIxDc : R2 := fun x y H Q => ∃ a v, x = .ref a ∧ DGet H a y (some v) ∧ Q v H
theorem ix_dict (hu : X.A.units + 1 < cLine) : IxR X rIxDc := by
  intro value slice pins s σ H x y v u Q I rx ry h hs
  obtain ⟨a, w, rfl, g, q⟩ := h
  obtain rfl : v = Value.ref a := rx
  exact PyProof.Rows.tail_any (dict_typeIs I g) PySem.F.slot_dict_getitem.lookup (d_getItem hu I g ry fun w' s3 I3 rw' => ⟨w, H, I3, rw', q⟩) hs
abbrev rIxA (K : PySem.W.Frag) : R2 := fun x y H Q => rIx K x y H Q ∨ rIxDc x y H Q
theorem ix_any (hu : X.A.units + 1 < cLine) : IxR X (rIxA X.K) := ix_seq.or (ix_dict hu)
def oIxL : D → D → Store → Option (D × Store)
  | x, .int i, S => ((sqL S x).bind fun ds => atI ds i).map fun d => (d, S)
  | _, _, _ => none
def oIxT : D → D → Store → Option (D × Store)
  | x, .int i, S => ((sqT x).bind fun ds => atI ds i).map fun d => (d, S)
  | _, _, _ => none
def oIxS : D → D → Store → Option (D × Store)
  | .str z, .int i, S => (atI z.cps.toList i).map fun c => (.str ⟨#[c]⟩, S)
  | _, _, _ => none
def oIxD : D → D → Store → Option (D × Store) := fun x y S => match dget S x y with
  | some (some d) => some (d, S)
  | _ => none
abbrev oIx := orO (orO oIxL (orO oIxT oIxS)) oIxD
theorem RepL.atI {K : PySem.W.Frag} {mg : Str → Option Value} {W : Wd} {ds : List D} {vs : List V} (h : RepL K mg W ds vs) {i : Int} {d : D} (e : L2.atI ds i = some d) : ∃ v, L2.atI vs i = some v ∧ Rep K mg W d v := by
  unfold L2.atI at e ⊢
  rw [← h.length]
  cases q : ixN ds.length i with
  | none => rw [q] at e; cases e
  | some j =>
    rw [q] at e
    obtain ⟨v, h1, h2⟩ := h.get (i := j) (d := d) e
    exact ⟨v, h1, h2⟩
theorem op2_ixL : Op2 X (rIxL X.K) oIxL := by
  intro W H S x y d1 d2 Q d S' ho r1 r2 hg hq
  cases r2 with
  | int =>
    rename_i i
    have hg : ((sqL S d1).bind fun ds => atI ds i).map (fun d => (d, S)) = some (d, S') := hg
    cases e : sqL S d1 with
    | none => rw [e] at hg; cases hg
    | some ds =>
      rw [e] at hg
      have hg : (atI ds i).map (fun d => (d, S)) = some (d, S') := hg
      cases e2 : atI ds i with
      | none => rw [e2] at hg; cases hg
      | some z =>
        rw [e2] at hg
        cases hg
        obtain ⟨a, vs, rfl, h1, h2, _⟩ := sqL_ok ho r1 e
        obtain ⟨v, h3, h4⟩ := h2.atI e2
        exact ⟨a, vs, i, v, rfl, rfl, h1, h3, hq _ H W (Wle.refl W) ho h4⟩
  | _ => cases hg
theorem op2_ixT : Op2 X (rIxT X.K) oIxT := by
  intro W H S x y d1 d2 Q d S' ho r1 r2 hg hq
  cases r2 with
  | int =>
    rename_i i
    have hg : ((sqT d1).bind fun ds => atI ds i).map (fun d => (d, S)) = some (d, S') := hg
    cases e : sqT d1 with
    | none => rw [e] at hg; cases hg
    | some ds =>
      rw [e] at hg
      have hg : (atI ds i).map (fun d => (d, S)) = some (d, S') := hg
      cases e2 : atI ds i with
      | none => rw [e2] at hg; cases hg
      | some z =>
        rw [e2] at hg
        cases hg
        obtain ⟨a, vs, rfl, h1, h2, _⟩ := sqT_ok ho r1 e
        obtain ⟨v, h3, h4⟩ := h2.atI e2
        exact ⟨a, vs, i, v, rfl, rfl, h1, h3, hq _ H W (Wle.refl W) ho h4⟩
  | _ => cases hg
theorem op2_ixS : Op2 X rIxS oIxS := by
  intro W H S x y d1 d2 Q d S' ho r1 r2 hg hq
  cases r1 with
  | @str z z1 =>
    cases r2 with
    | @int i =>
      have hg : (atI z.cps.toList i).map (fun c => (D.str ⟨#[c]⟩, S)) = some (d, S') := hg
      cases e2 : atI z.cps.toList i with
      | none => rw [e2] at hg; cases hg
      | some c =>
        rw [e2] at hg
        cases hg
        exact ⟨z, i, c, rfl, rfl, z1, e2, hq _ H W (Wle.refl W) ho (.str (by show 1 ≤ sizeLine; rw [sizeLine_eq]; decide))⟩
    | _ => cases hg
  | _ => cases hg
theorem op2_ixD : Op2 X rIxDc oIxD := by
  intro W H S x y d1 d2 Q d S' ho r1 r2 hg hq
  unfold oIxD at hg
  cases e : dget S d1 d2 with
  | none => rw [e] at hg; cases hg
  | some o =>
    cases o with
    | none => rw [e] at hg; cases hg
    | some z =>
      rw [e] at hg
      cases hg
      obtain ⟨a, ov, rfl, g, f1, f2⟩ := dget_ok ho r1 r2 e
      obtain ⟨w, e1, e2⟩ := f1 _ rfl
      subst e1
      exact ⟨a, w, rfl, g, hq _ H W (Wle.refl W) ho e2⟩
theorem op2_ix : Op2 X (rIxA X.K) oIx := (op2_ixL.or (op2_ixT.or op2_ixS)).or op2_ixD
variable {EX : WX} {a b e : Expr} {ga gb g : EM} {pos p2 : Pos} {lo hi : Option Expr}
theorem de_ix (hu : X.A.units + 1 < cLine) (ha : DE X EX a ga) (hb : DE X EX b gb) (hs : PlainIx b := by exact fun _ _ => rfl) : DE X EX (.Subscript a b pos) (g2 oIx ga gb) := by
  obtain ⟨ta, pa, ea⟩ := ha.ev
  obtain ⟨tb, pb, eb⟩ := hb.ev
  exact ⟨_, pe_ix (ix_any hu) pa pb hs, ev_op2 op2_ix ea eb⟩

/-! ### slices -/
def pNo : Env → M (Option Int) := fun _ S => some (.ok none, S)
def pSo (g : EM) : Env → M (Option Int) := fun ρ S => bd (g ρ S) fun x S1 => match x with
  | .int i => some (.ok (some i), S1)
  | _ => none
theorem do_no : DO X EX none pNo := by
  refine ⟨_, po_none, ⟨fun W σ H S ρ Q r' S' fr ho hg hp => ?_⟩⟩
  cases hg
  exact hp none H W (Wle.refl W) ho rfl
theorem do_so (ha : DE X EX a ga) : DO X EX (some a) (pSo ga) := by
  obtain ⟨ta, pa, ea⟩ := ha.ev
  refine ⟨_, po_some pa, ⟨fun W σ H S ρ Q r' S' fr ho hg hp => ?_⟩⟩
  refine ea.bd fr ho hg hp.exn fun x v S1 H1 W1 w1 ho1 rx hg1 => ?_
  cases rx with
  | int => cases hg1; exact ⟨_, rfl, hp _ H1 W1 w1 ho1 rfl⟩
  | _ => cases hg1
def cutD (xs : List D) (lo hi : Option Int) : List D := (xs.drop (HT.sIx xs.length 0 lo)).take (HT.sIx xs.length xs.length hi - HT.sIx xs.length 0 lo)
theorem RepL.cut {K : PySem.W.Frag} {mg : Str → Option Value} {W : Wd} {ds : List D} {vs : List V} (h : RepL K mg W ds vs) (lo hi : Option Int) : RepL K mg W (cutD ds lo hi) (cutV vs lo hi) := by
  unfold cutD cutV
  rw [← h.length]
  exact (h.drop _).take _
theorem cutD_len (ds : List D) (lo hi : Option Int) : (cutD ds lo hi).length ≤ ds.length := by
  unfold cutD
  rw [List.length_take, List.length_drop]
  omega
def oSl (bx : Bool) (x : D) (lo hi : Option Int) (S : Store) : Option (D × Store) := match x with
  | .str z => some (.str (cutS z lo hi), S)
  | _ => match sqL S x with
    | some ds => some (mkL bx (cutD ds lo hi) S)
    | none => match sqT x with
      | some ds => some (if HT.sIx ds.length 0 lo = 0 ∧ HT.sIx ds.length ds.length hi = ds.length then x else .tup (cutD ds lo hi), S)
      | none => none
def gSl (bx : Bool) (g : EM) (pl ph : Env → M (Option Int)) : EM := fun ρ S => bd (g ρ S) fun x S1 => bd (pl ρ S1) fun l S2 => bd (ph ρ S2) fun h S3 => okM (oSl bx x l h S3)
abbrev rSlAny (K : PySem.W.Frag) : V → Option Int → Option Int → Hp → VK → Prop := fun x lo hi H Q => rSlL K x lo hi H Q ∨ (rSlA K x lo hi H Q ∨ rSlS x lo hi H Q)
theorem sl_any : SlR X (rSlAny X.K) := sl_list.or (sl_tupA.or sl_str)
theorem cutS_len (z : Str) (lo hi : Option Int) : (cutS z lo hi).length ≤ z.length := by
  unfold cutS
  show (List.toArray _).size ≤ z.cps.size
  rw [List.size_toArray, List.length_take, List.length_drop]
  rw [Array.length_toList]
  omega
theorem de_sl (bx : Bool) {pl ph : Env → M (Option Int)} (ha : DE X EX a ga) (hl : DO X EX lo pl) (hh : DO X EX hi ph) : DE X EX (.Subscript a (.Slice lo hi none p2) pos) (gSl bx ga pl ph) := by
  obtain ⟨ta, pa, ea⟩ := ha.ev
  obtain ⟨tl, pl', el⟩ := hl.ev
  obtain ⟨th, ph', eh⟩ := hh.ev
  refine ⟨_, pe_slice sl_any pa pl' ph', ⟨fun W σ H S ρ Q r' S' fr ho hg hp => ?_⟩⟩
  refine ea.bd fr ho hg hp.exn fun x v S1 H1 W1 w1 ho1 rx hg1 => ?_
  refine el.bd (fr.mono w1) ho1 hg1 (hp.mono w1).exn fun l l' S2 H2 W2 w2 ho2 rl hg2 => ?_
  cases rl
  refine eh.bd ((fr.mono w1).mono w2) ho2 hg2 (hp.mono (w1.trans w2)).exn fun h h' S3 H3 W3 w3 ho3 rh hg3 => ?_
  cases rh
  have w := (w1.trans w2).trans w3
  have rx3 := rx.mono (w2.trans w3)
  cases e : oSl bx x l h S3 with
  | none => rw [e] at hg3; cases hg3
  | some p =>
    obtain ⟨d, S4⟩ := p
    rw [e] at hg3
    cases hg3
    unfold oSl at e
    split at e
    · rename_i z
      cases e
      cases rx3 with
      | str zz => exact .inr (.inr ⟨_, rfl, zz, hp _ H3 W3 w ho3 (.str (Nat.le_trans (cutS_len _ _ _) zz))⟩)
    · cases e1 : sqL S3 x with
      | some ds =>
        rw [e1] at e
        obtain ⟨a, vs, rfl, h1, h2, h3⟩ := sqL_ok ho3 rx3 e1
        refine .inl ⟨a, vs, rfl, h1, fun p np => ?_⟩
        obtain ⟨W4, w4, ho4, r4⟩ := ho3.newL np (Nat.le_trans (cutD_len ds l h) h3) (h2.cut l h) bx
        have e' : mkL bx (cutD ds l h) S3 = (d, S') := Option.some.inj e
        rw [e'] at ho4 r4
        exact hp _ _ W4 (w.trans w4) ho4 r4
      | none =>
        rw [e1] at e
        cases e2 : sqT x with
        | none => rw [e2] at e; cases e
        | some ds =>
          rw [e2] at e
          cases e
          obtain ⟨a, vs, rfl, h1, h2, h3⟩ := sqT_ok ho3 rx3 e2
          refine .inr (.inl ⟨a, vs, rfl, h1, fun hw => ?_, fun hw p np => ?_⟩)
          · rw [← h2.length] at hw
            rw [if_pos hw] at hp
            exact hp _ H3 W3 w ho3 rx3
          · rw [← h2.length] at hw
            rw [if_neg hw] at hp
            obtain ⟨W4, w4, ho4, r4⟩ := ho3.newT np (Nat.le_trans (cutD_len ds l h) h3) (h2.cut l h)
            exact hp _ _ W4 (w.trans w4) ho4 r4
end
end Dm
set_option linter.all false
set_option maxRecDepth 100000
set_option maxHeartbeats 2000000
namespace Dm
open PySem L2

/-! ### built-in functions, by values -/
def CallO (X : Cx) (r : List V → Hp → VK → Prop) (op : List D → Store → Option (D × Store)) : Prop :=
  ∀ W H S vs ds Q d S', Hold X.K X.mg W S H → RepL X.K X.mg W ds vs → op ds S = some (d, S') →
    (∀ v H' W', Wle W W' → Hold X.K X.mg W' S' H' → Rep X.K X.mg W' d v → Q v H') → r vs H Q
def orC (o1 o2 : List D → Store → Option (D × Store)) : List D → Store → Option (D × Store) := fun x S => match o1 x S with
  | some p => some p
  | none => o2 x S
def gCB (op : List D → Store → Option (D × Store)) (h : AM) : EM := fun ρ S => bd (h ρ S) fun xs S1 => okM (op xs S1)
section
variable {X : Cx} {EX : WX} {x : Str} {p pos : Pos} {e o : Expr} {es : List Expr} {h : AM} {go : EM} {bi T : String}
theorem CallO.or {r r' : List V → Hp → VK → Prop} {o o' : List D → Store → Option (D × Store)} (h : CallO X r o) (h' : CallO X r' o') : CallO X (fun x H Q => r x H Q ∨ r' x H Q) (orC o o') := by
  intro W H S vs ds Q d S' ho r1 hg hq
  unfold orC at hg
  cases e : o ds S with
  | some p =>
    rw [e] at hg
    cases hg
    exact .inl (h W H S vs ds Q d S' ho r1 e hq)
  | none =>
    rw [e] at hg
    exact .inr (h' W H S vs ds Q d S' ho r1 hg hq)
theorem ev_cb {t : TA} {r : List V → Hp → VK → Prop} {op : List D → Store → Option (D × Store)} (hop : CallO X r op) (ha : Ev X.K X.mg EX (RL X) t h) : Ev X.K X.mg EX (RD X) (tCB r t) (gCB op h) := by
  refine ⟨fun W σ H S ρ Q r' S' fr ho hg hp => ?_⟩
  refine ha.bd fr ho hg hp.exn fun xs vs S1 H1 W1 w1 ho1 rx hg1 => ?_
  cases e : op xs S1 with
  | none => rw [e] at hg1; cases hg1
  | some q =>
    obtain ⟨d, S3⟩ := q
    rw [e] at hg1
    cases hg1
    exact hop W1 H1 S1 vs xs _ d _ ho1 rx e fun z H' W' w' h' rz => hp z H' W' (w1.trans w') h' rz
theorem de_callB {r : List V → Hp → VK → Prop} {op : List D → Store → Option (D × Store)} (hc : CallR X (.builtin bi) r) (hop : CallO X r op) (hm : X.mg x = none) (ha : DA X EX (e :: es) h) (hg : Gl X x := by rfl) (hv : bootBuiltins x = some (.builtin bi) := by decide +kernel) (hn : x ≠ "__name__" := by decide) (hdb : (x == ("__debug__" : Str)) = false := by decide)
    (he : starEach (e :: es) X.env = (false, eval e X.env) :: starEach es X.env := by rfl) (hpl : (backTo pos (starEach es X.env)).any (·.1) = false := by rfl) : DE X EX (.Call (.Name x p) (e :: es) [] pos) (gCB op h) := by
  obtain ⟨t, pa, ea⟩ := ha.ev
  exact ⟨_, pe_callB hc hg hm hv pa hn hdb he hpl, ev_cb hop ea⟩
theorem de_callTy {r : List V → Hp → VK → Prop} {op : List D → Store → Option (D × Store)} (hc : CallR X (.type T) r) (hop : CallO X r op) (hm : X.mg x = none) (ha : DA X EX (e :: es) h) (hg : Gl X x := by rfl) (hv : bootBuiltins x = some (.type T) := by decide +kernel) (hn : x ≠ "__name__" := by decide) (hdb : (x == ("__debug__" : Str)) = false := by decide)
    (he : starEach (e :: es) X.env = (false, eval e X.env) :: starEach es X.env := by rfl) (hpl : (backTo pos (starEach es X.env)).any (·.1) = false := by rfl) : DE X EX (.Call (.Name x p) (e :: es) [] pos) (gCB op h) := by
  obtain ⟨t, pa, ea⟩ := ha.ev
  exact ⟨_, pe_callTy hc hg hm hv pa hn hdb he hpl, ev_cb hop ea⟩
/-- one place -/
theorem repL1 {K : PySem.W.Frag} {mg : Str → Option Value} {W : Wd} {d : D} {vs : List V} (r : RepL K mg W [d] vs) : ∃ v, vs = [v] ∧ Rep K mg W d v := by
  cases r with
  | cons h t => cases t; exact ⟨_, rfl, h⟩
theorem repL2 {K : PySem.W.Frag} {mg : Str → Option Value} {W : Wd} {d e : D} {vs : List V} (r : RepL K mg W [d, e] vs) : ∃ v u, vs = [v, u] ∧ Rep K mg W d v ∧ Rep K mg W e u := by
  cases r with
  | cons h t =>
    obtain ⟨u, rfl, h2⟩ := repL1 t
    exact ⟨_, u, rfl, h, h2⟩

/-! ### len, abs, min, max, int, str -/
def oLen : List D → Store → Option (D × Store)
  | [.str z], S => some (.int z.length, S)
  | [x], S => (sqA S x).map fun ds => (.int ds.length, S)
  | _, _ => none
theorem callO_len : CallO X (fun xs H Q => ∃ x n, xs = [x] ∧ LenV X.K x H n ∧ Q (.int n) H) oLen := by
  intro W H S vs ds Q d S' ho r1 hg hq
  unfold oLen at hg
  split at hg
  · cases hg
    obtain ⟨v, rfl, r⟩ := repL1 r1
    cases r with
    | str z => exact ⟨_, _, rfl, ⟨z, rfl⟩, hq _ H W (Wle.refl W) ho .int⟩
  · rename_i x _
    cases e : sqA S x with
    | none => rw [e] at hg; cases hg
    | some xs =>
      rw [e] at hg
      cases hg
      obtain ⟨v, rfl, r⟩ := repL1 r1
      obtain ⟨a, us, rfl, h1, h2, _⟩ := sqA_ok ho r e
      refine ⟨_, us.length, rfl, ?_, by rw [← h2.length]; exact hq _ H W (Wle.refl W) ho .int⟩
      rcases h1 with h1 | h1
      · exact .inl ⟨us, h1, rfl⟩
      · exact .inr ⟨us, h1, rfl⟩
  · cases hg
def oAbs : List D → Store → Option (D × Store)
  | [.int i], S => some (.int (if i < 0 then -i else i), S)
  | _, _ => none
theorem callO_abs : CallO X (fun xs H Q => ∃ i, xs = [.int i] ∧ Q (.int (if i < 0 then -i else i)) H) oAbs := by
  intro W H S vs ds Q d S' ho r1 hg hq
  unfold oAbs at hg
  split at hg
  · cases hg
    obtain ⟨v, rfl, r⟩ := repL1 r1
    cases r
    exact ⟨_, rfl, hq _ H W (Wle.refl W) ho .int⟩
  · cases hg
def oI2 (f : Int → Int → Int) : List D → Store → Option (D × Store)
  | [.int i, .int j], S => some (.int (f i j), S)
  | _, _ => none
theorem callO_I2 {f : Int → Int → Int} : CallO X (fun xs H Q => ∃ i j, xs = [.int i, .int j] ∧ Q (.int (f i j)) H) (oI2 f) := by
  intro W H S vs ds Q d S' ho r1 hg hq
  unfold oI2 at hg
  split at hg
  · cases hg
    obtain ⟨v, u, rfl, r, r'⟩ := repL2 r1
    cases r
    cases r'
    exact ⟨_, _, rfl, hq _ H W (Wle.refl W) ho .int⟩
  · cases hg
def oInt : List D → Store → Option (D × Store)
  | [.int i], S => some (.int i, S)
  | [.bl k], S => some (.int (if k then 1 else 0), S)
  | _, _ => none
theorem callO_int : CallO X (fun xs H Q => (∃ i, xs = [.int i] ∧ Q (.int i) H) ∨ ∃ k, xs = [.bl k] ∧ Q (.int (if k then 1 else 0)) H) oInt := by
  intro W H S vs ds Q d S' ho r1 hg hq
  unfold oInt at hg
  split at hg
  · cases hg
    obtain ⟨v, rfl, r⟩ := repL1 r1
    cases r
    exact .inl ⟨_, rfl, hq _ H W (Wle.refl W) ho .int⟩
  · cases hg
    obtain ⟨v, rfl, r⟩ := repL1 r1
    cases r
    exact .inr ⟨_, rfl, hq _ H W (Wle.refl W) ho .int⟩
  · cases hg
def strI (i : Int) : Str := Str.ofString (toString i)
def oStr : List D → Store → Option (D × Store)
  | [.int i], S => if i.natAbs.log2 < 1920 ∧ (strI i).length ≤ sizeLine then some (.str (strI i), S) else none
  | _, _ => none
theorem callO_str : CallO X (fun xs H Q => ∃ i, xs = [.int i] ∧ i.natAbs.log2 < 1920 ∧ Q (.str (toString i)) H) oStr := by
  intro W H S vs ds Q d S' ho r1 hg hq
  unfold oStr at hg
  split at hg
  · rename_i i
    by_cases c : i.natAbs.log2 < 1920 ∧ (strI i).length ≤ sizeLine
    · rw [if_pos c] at hg
      cases hg
      obtain ⟨v, rfl, r⟩ := repL1 r1
      cases r
      exact ⟨_, rfl, c.1, hq _ H W (Wle.refl W) ho (.str c.2)⟩
    · rw [if_neg c] at hg; cases hg
  · cases hg

/-! ### lists of one kind -/
def asI : List D → Option (List Int)
  | [] => some []
  | .int i :: r => (asI r).map (i :: ·)
  | _ :: _ => none
def asB : List D → Option (List Bool)
  | [] => some []
  | .bl i :: r => (asB r).map (i :: ·)
  | _ :: _ => none
def asS : List D → Option (List Str)
  | [] => some []
  | .str i :: r => (asS r).map (i :: ·)
  | _ :: _ => none
theorem asI_ok {K : PySem.W.Frag} {mg : Str → Option Value} {W : Wd} : ∀ {ds : List D} {vs : List V} {ns : List Int}, RepL K mg W ds vs → asI ds = some ns → vs = ns.map V.int
  | _, _, _, .nil, h => by cases h; rfl
  | _, _, ns, .cons (d := d) (ds := ds) q r, h => by
    cases q with
    | @int i =>
      have h : (asI ds).map (i :: ·) = some ns := h
      cases e : asI ds with
      | none => rw [e] at h; cases h
      | some ms => rw [e] at h; cases h; rw [asI_ok r e]; rfl
    | _ => cases h
theorem asB_ok {K : PySem.W.Frag} {mg : Str → Option Value} {W : Wd} : ∀ {ds : List D} {vs : List V} {ns : List Bool}, RepL K mg W ds vs → asB ds = some ns → vs = ns.map V.bl
  | _, _, _, .nil, h => by cases h; rfl
  | _, _, ns, .cons (d := d) (ds := ds) q r, h => by
    cases q with
    | @bl i =>
      have h : (asB ds).map (i :: ·) = some ns := h
      cases e : asB ds with
      | none => rw [e] at h; cases h
      | some ms => rw [e] at h; cases h; rw [asB_ok r e]; rfl
    | _ => cases h
theorem asS_ok {K : PySem.W.Frag} {mg : Str → Option Value} {W : Wd} : ∀ {ds : List D} {vs : List V} {ns : List Str}, RepL K mg W ds vs → asS ds = some ns → vs = ns.map V.str
  | _, _, _, .nil, h => by cases h; rfl
  | _, _, ns, .cons (d := d) (ds := ds) q r, h => by
    cases q with
    | @str i z =>
      have h : (asS ds).map (i :: ·) = some ns := h
      cases e : asS ds with
      | none => rw [e] at h; cases h
      | some ms => rw [e] at h; cases h; rw [asS_ok r e]; rfl
    | _ => cases h
def oL1 {α : Type} (as : List D → Option α) (f : α → Option D) : List D → Store → Option (D × Store)
  | [x], S => ((sqL S x).bind as).bind fun ns => (f ns).map fun d => (d, S)
  | _, _ => none
theorem oL1_some {α : Type} {as : List D → Option α} {f : α → Option D} {ds : List D} {S S' : Store} {d : D} (h : oL1 as f ds S = some (d, S')) : ∃ x xs ns, ds = [x] ∧ sqL S x = some xs ∧ as xs = some ns ∧ f ns = some d ∧ S' = S := by
  unfold oL1 at h
  split at h
  · rename_i x
    cases e1 : sqL S x with
    | none => rw [e1] at h; cases h
    | some xs =>
      rw [e1] at h
      cases e2 : as xs with
      | none => simp only [Option.bind_some, e2] at h; cases h
      | some ns =>
        simp only [Option.bind_some, e2] at h
        cases e3 : f ns with
        | none => rw [e3] at h; cases h
        | some z => rw [e3] at h; cases h; exact ⟨x, xs, ns, rfl, e1, e2, e3, rfl⟩
  · cases h
def oSum := oL1 asI fun ns => some (.int ns.sum)
def oAny := oL1 asB fun bs => some (.bl (bs.any id))
def oAll := oL1 asB fun bs => some (.bl (bs.all id))
def maxL : List Int → Option Int
  | [] => none
  | x :: r => some (r.foldl max x)
def minL : List Int → Option Int
  | [] => none
  | x :: r => some (r.foldl min x)
def oMaxL := oL1 asI fun ns => (maxL ns).map D.int
def oMinL := oL1 asI fun ns => (minL ns).map D.int
theorem callO_sum : CallO X (rSum X.K) oSum := by
  intro W H S vs ds Q d S' ho r1 hg hq
  obtain ⟨x, xs, ns, rfl, e1, e2, e3, rfl⟩ := oL1_some hg
  cases e3
  obtain ⟨v, rfl, r⟩ := repL1 r1
  obtain ⟨a, us, rfl, h1, h2, _⟩ := sqL_ok ho r e1
  rw [asI_ok h2 e2] at h1
  exact ⟨a, ns, rfl, h1, hq _ H W (Wle.refl W) ho .int⟩
theorem callO_any : CallO X (rAny X.K) oAny := by
  intro W H S vs ds Q d S' ho r1 hg hq
  obtain ⟨x, xs, ns, rfl, e1, e2, e3, rfl⟩ := oL1_some hg
  cases e3
  obtain ⟨v, rfl, r⟩ := repL1 r1
  obtain ⟨a, us, rfl, h1, h2, _⟩ := sqL_ok ho r e1
  rw [asB_ok h2 e2] at h1
  exact ⟨a, ns, rfl, h1, hq _ H W (Wle.refl W) ho .bl⟩
theorem callO_all : CallO X (rAll X.K) oAll := by
  intro W H S vs ds Q d S' ho r1 hg hq
  obtain ⟨x, xs, ns, rfl, e1, e2, e3, rfl⟩ := oL1_some hg
  cases e3
  obtain ⟨v, rfl, r⟩ := repL1 r1
  obtain ⟨a, us, rfl, h1, h2, _⟩ := sqL_ok ho r e1
  rw [asB_ok h2 e2] at h1
  exact ⟨a, ns, rfl, h1, hq _ H W (Wle.refl W) ho .bl⟩
theorem maxL_spec : ∀ (r : List Int) (x : Int), (r.foldl max x = x ∨ r.foldl max x ∈ r) ∧ x ≤ r.foldl max x ∧ ∀ y ∈ r, y ≤ r.foldl max x
  | [], x => ⟨.inl rfl, Int.le_refl _, fun y h => nomatch h⟩
  | z :: r, x => by
    obtain ⟨h1, h2, h3⟩ := maxL_spec r (max x z)
    rw [List.foldl_cons]
    refine ⟨?_, by omega, fun y hy => ?_⟩
    · rcases h1 with h1 | h1
      · rw [h1]
        by_cases c : x ≤ z
        · right; rw [show max x z = z by omega]; exact List.mem_cons_self
        · left; omega
      · exact .inr (List.mem_cons_of_mem _ h1)
    · rcases List.mem_cons.mp hy with e | e
      · subst e; omega
      · exact h3 y e
theorem minL_spec : ∀ (r : List Int) (x : Int), (r.foldl min x = x ∨ r.foldl min x ∈ r) ∧ r.foldl min x ≤ x ∧ ∀ y ∈ r, r.foldl min x ≤ y
  | [], x => ⟨.inl rfl, Int.le_refl _, fun y h => nomatch h⟩
  | z :: r, x => by
    obtain ⟨h1, h2, h3⟩ := minL_spec r (min x z)
    rw [List.foldl_cons]
    refine ⟨?_, by omega, fun y hy => ?_⟩
    · rcases h1 with h1 | h1
      · rw [h1]
        by_cases c : z ≤ x
        · right; rw [show min x z = z by omega]; exact List.mem_cons_self
        · left; omega
      · exact .inr (List.mem_cons_of_mem _ h1)
    · rcases List.mem_cons.mp hy with e | e
      · subst e; omega
      · exact h3 y e
theorem callO_maxL : CallO X (rMax X.K) oMaxL := by
  intro W H S vs ds Q d S' ho r1 hg hq
  obtain ⟨x, xs, ns, rfl, e1, e2, e3, rfl⟩ := oL1_some hg
  obtain ⟨v, rfl, r⟩ := repL1 r1
  obtain ⟨a, us, rfl, h1, h2, _⟩ := sqL_ok ho r e1
  rw [asI_ok h2 e2] at h1
  cases ns with
  | nil => cases e3
  | cons n ns =>
    cases e3
    obtain ⟨s1, s2, s3⟩ := maxL_spec ns n
    refine ⟨a, n :: ns, rfl, h1, by simp, fun m hm hle => ?_⟩
    have e : m = ns.foldl max n := by
      have a1 : m ≤ ns.foldl max n := by
        rcases List.mem_cons.mp hm with z | z
        · rw [z]; exact s2
        · exact s3 m z
      have a2 : ns.foldl max n ≤ m := hle _ (by
        rcases s1 with z | z
        · rw [z]; exact List.mem_cons_self
        · exact List.mem_cons_of_mem _ z)
      omega
    rw [e]
    exact hq _ H W (Wle.refl W) ho .int
theorem callO_minL : CallO X (rMin X.K) oMinL := by
  intro W H S vs ds Q d S' ho r1 hg hq
  obtain ⟨x, xs, ns, rfl, e1, e2, e3, rfl⟩ := oL1_some hg
  obtain ⟨v, rfl, r⟩ := repL1 r1
  obtain ⟨a, us, rfl, h1, h2, _⟩ := sqL_ok ho r e1
  rw [asI_ok h2 e2] at h1
  cases ns with
  | nil => cases e3
  | cons n ns =>
    cases e3
    obtain ⟨s1, s2, s3⟩ := minL_spec ns n
    refine ⟨a, n :: ns, rfl, h1, by simp, fun m hm hle => ?_⟩
    have e : m = ns.foldl min n := by
      have a1 : ns.foldl min n ≤ m := by
        rcases List.mem_cons.mp hm with z | z
        · rw [z]; exact s2
        · exact s3 m z
      have a2 : m ≤ ns.foldl min n := hle _ (by
        rcases s1 with z | z
        · rw [z]; exact List.mem_cons_self
        · exact List.mem_cons_of_mem _ z)
      omega
    rw [e]
    exact hq _ H W (Wle.refl W) ho .int

/-! ### list(..), tuple(..), dict(..) -/
def oList (bx : Bool) : List D → Store → Option (D × Store)
  | [x], S => (sqA S x).map fun ds => mkL bx ds S
  | _, _ => none
theorem callO_list (bx : Bool) : CallO X (fun xs H Q => ∃ p ys, xs = [.ref p] ∧ (SqL X.K H p ys ∨ SqT X.K H p ys) ∧ ∀ l, H l = none → Q (.ref l) (upd H l (.lst ys))) (oList bx) := by
  intro W H S vs ds Q d S' ho r1 hg hq
  unfold oList at hg
  split at hg
  · rename_i x
    cases e : sqA S x with
    | none => rw [e] at hg; cases hg
    | some xs =>
      rw [e] at hg
      obtain ⟨v, rfl, r⟩ := repL1 r1
      obtain ⟨a, us, rfl, h1, h2, h3⟩ := sqA_ok ho r e
      refine ⟨a, us, rfl, h1, fun p np => ?_⟩
      obtain ⟨W2, w2, ho2, r2⟩ := ho.newL np h3 h2 bx
      have e' : mkL bx xs S = (d, S') := Option.some.inj hg
      rw [e'] at ho2 r2
      exact hq _ _ W2 w2 ho2 r2
  · cases hg
def oTuple : List D → Store → Option (D × Store)
  | [x], S => match sqT x with
    | some _ => some (x, S)
    | none => (sqL S x).map fun ds => (.tup ds, S)
  | _, _ => none
theorem callO_tuple : CallO X (fun xs H Q => ∃ p ys, xs = [.ref p] ∧ ((SqL X.K H p ys ∧ ∀ l, H l = none → Q (.ref l) (upd H l (.tup ys))) ∨ (SqT X.K H p ys ∧ Q (.ref p) H))) oTuple := by
  intro W H S vs ds Q d S' ho r1 hg hq
  unfold oTuple at hg
  split at hg
  · rename_i x
    obtain ⟨v, rfl, r⟩ := repL1 r1
    cases e : sqT x with
    | some xs =>
      rw [e] at hg
      cases hg
      obtain ⟨a, us, rfl, h1, h2, h3⟩ := sqT_ok ho r e
      exact ⟨a, us, rfl, .inr ⟨h1, hq _ H W (Wle.refl W) ho r⟩⟩
    | none =>
      rw [e] at hg
      cases e2 : sqL S x with
      | none => rw [e2] at hg; cases hg
      | some xs =>
        rw [e2] at hg
        cases hg
        obtain ⟨a, us, rfl, h1, h2, h3⟩ := sqL_ok ho r e2
        refine ⟨a, us, rfl, .inl ⟨h1, fun p np => ?_⟩⟩
        obtain ⟨W2, w2, ho2, r2⟩ := ho.newT np h3 h2
        exact hq _ _ W2 w2 ho2 r2
  · cases hg
/-- a dict with int and text keys, its entries -/
def cDK (S : Store) : D → Option (List (D × D))
  | .box i => match S[i]? with
    | some (.dic 0 _ kvs) => some kvs
    | _ => none
  | _ => none
theorem cDK_ok {K : PySem.W.Frag} {mg : Str → Option Value} {W : Wd} {S : Store} {H : Hp} {d : D} {v : V} {kvs : List (D × D)} (ho : Hold K mg W S H) (r : Rep K mg W d v) (h : cDK S d = some kvs) :
    ∃ a kk, v = .ref a ∧ Rd H a (.dK kk) ∧ Paired (fun (p : D × D) (q : Key × V) => (keyK p.1 = some q.1 ∧ RK0 K mg W p.1 q.1) ∧ Rep K mg W p.2 q.2) kvs kk := by
  cases r with
  | @box i a q =>
    unfold cDK at h
    dsimp only at h
    split at h
    · rename_i lk k2 e
      cases h
      obtain ⟨u, h1, h2⟩ := DicO.rd (ho.cell q e)
      rcases h1 with ⟨_, kk, e1, p⟩ | ⟨e0, _⟩
      · subst e1; exact ⟨a, kk, rfl, h2, p⟩
      · cases e0
    · cases h
  | _ => cases h
def mkD (kd : Nat) (kvs : List (D × D)) (S : Store) : D × Store := (.box S.length, S ++ [.dic kd false kvs])
theorem Hold.newB {K : PySem.W.Frag} {mg : Str → Option Value} {W : Wd} {S : Store} {H : Hp} {p : Addr} {o : HO} {c : Cell} (ho : Hold K mg W S H) (np : H p = none) (hc : ∀ W', Wle W W' → CellOk K mg W' (upd H p o) p c) :
    ∃ W', Wle W W' ∧ Hold K mg W' (S ++ [c]) (upd H p o) ∧ Rep K mg W' (.box S.length) (.ref p) := by
  obtain ⟨w, h⟩ := ho.boxed np hc
  refine ⟨_, w, h, .box ?_⟩
  show (W.eta ++ [p])[S.length]? = some p
  rw [← ho.len, List.getElem?_append_right (Nat.le_refl _), Nat.sub_self]; rfl
def oDict : List D → Store → Option (D × Store)
  | [x], S => (cDK S x).map fun kvs => mkD 0 kvs S
  | _, _ => none
theorem callO_dict : CallO X (fun xs H Q => ∃ (a : Addr) (kvs : List (Key × V)), xs = [.ref a] ∧ Rd H a (.dK kvs) ∧ ∀ p, H p = none → Q (.ref p) (upd H p (.dK kvs))) oDict := by
  intro W H S vs ds Q d S' ho r1 hg hq
  unfold oDict at hg
  split at hg
  · rename_i x
    cases e : cDK S x with
    | none => rw [e] at hg; cases hg
    | some kvs =>
      rw [e] at hg
      cases hg
      obtain ⟨v, rfl, r⟩ := repL1 r1
      obtain ⟨a, kk, rfl, h1, h2⟩ := cDK_ok ho r e
      refine ⟨a, kk, rfl, h1, fun p np => ?_⟩
      obtain ⟨W2, w2, ho2, r2⟩ := ho.newB (c := .dic 0 false kvs) (o := .dK kk) np fun W' w' => ⟨_, .inl ⟨rfl, kk, rfl, Paired.mapP h2 fun _ _ q => ⟨⟨q.1.1, q.1.2.mono w'⟩, q.2.mono w'⟩⟩, upd_same⟩
      exact hq _ _ W2 w2 ho2 r2
  · cases hg
/-- list(d): its keys -/
def oListD (bx : Bool) : List D → Store → Option (D × Store)
  | [x], S => (cDK S x).bind fun kvs => if kvs.length ≤ sizeLine then some (mkL bx (kvs.map (·.1)) S) else none
  | _, _ => none
theorem keysRep {K : PySem.W.Frag} {mg : Str → Option Value} {W : Wd} : ∀ {kvs : List (D × D)} {kk : List (Key × V)}, Paired (fun (p : D × D) (q : Key × V) => (keyK p.1 = some q.1 ∧ RK0 K mg W p.1 q.1) ∧ Rep K mg W p.2 q.2) kvs kk →
    RepL K mg W (kvs.map (·.1)) (kk.map fun kv => kV kv.1)
  | _, _, .nil => .nil
  | _, _, .cons h t => .cons h.1.2 (keysRep t)
theorem callO_listD (bx : Bool) : CallO X (fun xs H Q => ∃ (a : Addr) (kvs : List (Key × V)), xs = [.ref a] ∧ Rd H a (.dK kvs) ∧ ∀ p, H p = none → Q (.ref p) (upd H p (.lst (kvs.map fun kv => kV kv.1)))) (oListD bx) := by
  intro W H S vs ds Q d S' ho r1 hg hq
  unfold oListD at hg
  split at hg
  · rename_i x
    cases e : cDK S x with
    | none => rw [e] at hg; cases hg
    | some kvs =>
      rw [e] at hg
      have hg : (if kvs.length ≤ sizeLine then some (mkL bx (kvs.map (·.1)) S) else none) = some (d, S') := hg
      by_cases c : kvs.length ≤ sizeLine
      · rw [if_pos c] at hg
        obtain ⟨v, rfl, r⟩ := repL1 r1
        obtain ⟨a, kk, rfl, h1, h2⟩ := cDK_ok ho r e
        refine ⟨a, kk, rfl, h1, fun p np => ?_⟩
        obtain ⟨W2, w2, ho2, r2⟩ := ho.newL np (by rw [List.length_map]; exact c) (keysRep h2) bx
        have e' : mkL bx (kvs.map (·.1)) S = (d, S') := Option.some.inj hg
        rw [e'] at ho2 r2
        exact hq _ _ W2 w2 ho2 r2
      · rw [if_neg c] at hg; cases hg
  · cases hg

/-! ### methods of built-in types, by values -/
def MtO (X : Cx) (r : V → List V → Hp → VK → Prop) (op : D → List D → Store → Option (D × Store)) : Prop :=
  ∀ W H S v vs x ds Q d S', Hold X.K X.mg W S H → Rep X.K X.mg W x v → RepL X.K X.mg W ds vs → op x ds S = some (d, S') →
    (∀ v H' W', Wle W W' → Hold X.K X.mg W' S' H' → Rep X.K X.mg W' d v → Q v H') → r v vs H Q
inductive Ty where
  | str | list | dict
def Ty.nm : Ty → String
  | .str => "str"
  | .list => "list"
  | .dict => "dict"
def tyC : Ty → Cell → Bool
  | .list, .lst _ => true
  | .list, .ro _ => true
  | .dict, .dic _ false _ => true
  | _, _ => false
def tyD (S : Store) : Ty → D → Bool
  | .str, .str _ => true
  | .list, .lst _ => true
  | t, .box i => match S[i]? with
    | some c => tyC t c
    | none => false
  | _, _ => false
theorem tyD_ok {K : PySem.W.Frag} {mg : Str → Option Value} {W : Wd} {S : Store} {H : Hp} {t : Ty} {x : D} {v : V} (ho : Hold K mg W S H) (r : Rep K mg W x v) (h : tyD S t x = true) : tyV K t.nm v H := by
  cases r with
  | str z => cases t <;> first | rfl | (exact absurd h Bool.false_ne_true)
  | lst q z r => cases t <;> first | (exact .inl ⟨rfl, _, SqL.of (ho.ex _ _ q)⟩) | (exact absurd h Bool.false_ne_true)
  | @box i a q =>
    cases e : S[i]? with
    | none =>
      have h : (match S[i]? with
        | some c => tyC t c
        | none => false) = true := by cases t <;> exact h
      rw [e] at h
      exact absurd h Bool.false_ne_true
    | some c =>
      have h : (match S[i]? with
        | some c => tyC t c
        | none => false) = true := by cases t <;> exact h
      rw [e] at h
      have h : tyC t c = true := h
      cases t with
      | str => cases c <;> exact absurd h Bool.false_ne_true
      | list =>
        cases c with
        | lst ds => obtain ⟨z, vs, h1, h2⟩ := ho.cell q e; exact .inl ⟨rfl, _, SqL.of h1⟩
        | ro ds => obtain ⟨z, o, vs, h1, h2⟩ := ho.cell q e; exact .inl ⟨rfl, vs, .inl (.inr ⟨o, h1⟩)⟩
        | _ => exact absurd h Bool.false_ne_true
      | dict =>
        cases c with
        | dic kd lk kvs =>
          cases lk with
          | false =>
            obtain ⟨u, h1, h2⟩ := ho.cell q e
            rcases h1 with ⟨_, kk, e1, p⟩ | ⟨_, kk, e1, p⟩
            · subst e1; exact .inr (.inr (.inl ⟨rfl, .inl ⟨kk, h2⟩⟩))
            · subst e1; exact .inr (.inr (.inl ⟨rfl, .inr ⟨kk, h2⟩⟩))
          | true => exact absurd h Bool.false_ne_true
        | _ => exact absurd h Bool.false_ne_true
  | _ => cases t <;> exact absurd h Bool.false_ne_true
def gMt (t : Ty) (op : D → List D → Store → Option (D × Store)) (go : EM) (h : AM) : EM := fun ρ S => bd (go ρ S) fun x S1 => if tyD S1 t x = true then bd (h ρ S1) fun xs S2 => okM (op x xs S2) else none
variable {name : Str} {apos cpos : Pos}
theorem de_bm {ty : Ty} {r : V → List V → Hp → VK → Prop} {op : D → List D → Store → Option (D × Store)} (pa : PlainAttrs ty.nm) (slot : Slot ty.nm name bi) (hty : typeOf (.builtin bi) = pure (.type "method_descriptor")) (hm : MtR X bi r) (hop : MtO X r op)
    (ho : DE X EX o go) (ha : DA X EX (e :: es) h)
    (hbase : attributeBase o name X.env (eval o X.env) = eval o X.env := by rfl)
    (hfew : ((backTo cpos (starEach (e :: es) X.env)).all (fun x => !x.1) && (backToKw cpos (keywordEach [] X.env)).all (fun x => x.1.isSome)
      && decide ((e :: es).length + ([] : List Keyword).length + (if ([] : List Keyword).isEmpty then 0 else 1) < 30)) = true := by rfl)
    (hline : (apos.endLine == cpos.line) = true := by rfl) (hs : starEach (e :: es) X.env = (false, eval e X.env) :: starEach es X.env := by rfl) (hplain : (backTo cpos (starEach es X.env)).any (·.1) = false := by rfl) :
    DE X EX (.Call (.Attribute o name apos) (e :: es) [] cpos) (gMt ty op go h) := by
  obtain ⟨to, po, eo⟩ := ho.ev
  obtain ⟨ta, pa', ea⟩ := ha.ev
  refine ⟨_, pe_bm pa slot hty hm po pa' hbase hfew hline hs hplain, ⟨fun W σ H S ρ Q r' S' fr ho hg hp => ?_⟩⟩
  refine eo.bd fr ho hg hp.exn fun x v S1 H1 W1 w1 ho1 rx hg1 => ?_
  by_cases c : tyD S1 ty x = true
  · rw [if_pos c] at hg1
    refine ⟨tyD_ok ho1 rx c, ea.bd (fr.mono w1) ho1 hg1 (hp.mono w1).exn fun xs vs S2 H2 W2 w2 ho2 rxs hg2 => ?_⟩
    cases e : op x xs S2 with
    | none => rw [e] at hg2; cases hg2
    | some q =>
      obtain ⟨d, S3⟩ := q
      rw [e] at hg2
      cases hg2
      exact hop W2 H2 S2 v vs x xs _ d _ ho2 (rx.mono w2) rxs e fun z H' W' w' h' rz => hp z H' W' ((w1.trans w2).trans w') h' rz
  · rw [if_neg c] at hg1; cases hg1
theorem de_bm0 {ty : Ty} {r : V → List V → Hp → VK → Prop} {op : D → List D → Store → Option (D × Store)} (pa : PlainAttrs ty.nm) (slot : Slot ty.nm name bi) (hty : typeOf (.builtin bi) = pure (.type "method_descriptor")) (hm : MtR X bi r) (hop : MtO X r op)
    (ho : DE X EX o go) (hbase : attributeBase o name X.env (eval o X.env) = eval o X.env := by rfl) (hline : (apos.endLine == cpos.line) = true := by rfl) :
    DE X EX (.Call (.Attribute o name apos) [] [] cpos) (gMt ty op go aNil) := by
  obtain ⟨to, po, eo⟩ := ho.ev
  refine ⟨_, pe_bm0 pa slot hty hm po hbase hline, ⟨fun W σ H S ρ Q r' S' fr ho hg hp => ?_⟩⟩
  refine eo.bd fr ho hg hp.exn fun x v S1 H1 W1 w1 ho1 rx hg1 => ?_
  by_cases c : tyD S1 ty x = true
  · rw [if_pos c] at hg1
    refine ⟨tyD_ok ho1 rx c, ?_⟩
    have hg2 : okM (op x [] S1) = some (r', S') := hg1
    cases e : op x [] S1 with
    | none => rw [e] at hg2; cases hg2
    | some q =>
      obtain ⟨d, S3⟩ := q
      rw [e] at hg2
      cases hg2
      exact hop W1 H1 S1 v [] x [] _ d _ ho1 rx .nil e fun z H' W' w' h' rz => hp z H' W' (w1.trans w') h' rz
  · rw [if_neg c] at hg1; cases hg1

/-! ### list methods -/
def onL (f : List D → Option (D × List D)) : D → Store → Option (D × Store)
  | .box i, S => match S[i]? with
    | some (.lst xs) => (f xs).map fun p => (p.1, S.set i (.lst p.2))
    | _ => none
  | _, _ => none
theorem onL_some {f : List D → Option (D × List D)} {x d : D} {S S' : Store} (h : onL f x S = some (d, S')) : ∃ i xs ys, x = .box i ∧ S[i]? = some (.lst xs) ∧ f xs = some (d, ys) ∧ S' = S.set i (.lst ys) := by
  cases x with
  | box i =>
    have h : (match S[i]? with
    | some (.lst xs) => (f xs).map fun p => (p.1, S.set i (.lst p.2))
    | _ => none) = some (d, S') := h
    split at h
    · rename_i xs e
      cases e2 : f xs with
      | none => rw [e2] at h; cases h
      | some p => obtain ⟨d', ys⟩ := p; rw [e2] at h; cases h; exact ⟨i, xs, ys, rfl, e, e2, rfl⟩
    · cases h
  | _ => cases h
def oAppend : D → List D → Store → Option (D × Store)
  | x, [y], S => onL (fun xs => if xs.length < sizeLine then some (.non, xs ++ [y]) else none) x S
  | _, _, _ => none
theorem mtO_append : MtO X rAppend oAppend := by
  intro W H S v vs x ds Q d S' ho r1 r2 hg hq
  unfold oAppend at hg
  split at hg
  · rename_i y
    obtain ⟨i, xs, ys, rfl, e, e2, rfl⟩ := onL_some hg
    by_cases c : xs.length < sizeLine
    · rw [if_pos c] at e2
      cases e2
      obtain ⟨u, rfl, ry⟩ := repL1 r2
      cases r1 with
      | @box _ a q =>
        obtain ⟨z, us, h1, h2⟩ := ho.cell q e
        refine ⟨a, us, u, rfl, rfl, h1, by rw [← h2.length]; exact c, hq _ _ W (Wle.refl W) (ho.written q e (fun z => by cases z) ⟨by rw [List.length_append]; exact c, _, upd_same, h2.append (.one ry)⟩) .non⟩
    · rw [if_neg c] at e2; cases e2
  · cases hg
def oExtend : D → List D → Store → Option (D × Store)
  | x, [y], S => (sqW S y).bind fun zs => onL (fun xs => if xs.length + zs.length ≤ sizeLine then some (.non, xs ++ zs) else none) x S
  | _, _, _ => none
theorem mtO_extend : MtO X rExtend oExtend := by
  intro W H S v vs x ds Q d S' ho r1 r2 hg hq
  unfold oExtend at hg
  split at hg
  · rename_i y
    cases ey : sqW S y with
    | none => rw [ey] at hg; cases hg
    | some zs =>
      rw [ey] at hg
      obtain ⟨i, xs, ys, rfl, e, e2, rfl⟩ := onL_some hg
      by_cases c : xs.length + zs.length ≤ sizeLine
      · rw [if_pos c] at e2
        cases e2
        obtain ⟨u, rfl, ry⟩ := repL1 r2
        obtain ⟨b, us', rfl, hb, hb2, _⟩ := sqW_ok ho ry ey
        cases r1 with
        | @box _ a q =>
          obtain ⟨z, us, h1, h2⟩ := ho.cell q e
          refine ⟨a, b, us, us', rfl, rfl, h1, hb, by rw [← h2.length, ← hb2.length]; exact c, hq _ _ W (Wle.refl W) (ho.written q e (fun z => by cases z) ⟨by rw [List.length_append]; exact c, _, upd_same, h2.append hb2⟩) .non⟩
      · rw [if_neg c] at e2; cases e2
  · cases hg
def oPop : D → List D → Store → Option (D × Store)
  | x, [], S => onL (fun xs => (xs[xs.length - 1]?).map fun y => (y, xs.dropLast)) x S
  | _, _, _ => none
theorem mtO_pop : MtO X rPop oPop := by
  intro W H S v vs x ds Q d S' ho r1 r2 hg hq
  unfold oPop at hg
  split at hg
  · obtain ⟨i, xs, ys, rfl, e, e2, rfl⟩ := onL_some hg
    cases e3 : xs[xs.length - 1]? with
    | none => rw [e3] at e2; cases e2
    | some y =>
      rw [e3] at e2
      cases e2
      cases r2
      cases r1 with
      | @box _ a q =>
        obtain ⟨z, us, h1, h2⟩ := ho.cell q e
        obtain ⟨w, h3, h4⟩ := h2.get e3
        refine ⟨a, us, w, rfl, rfl, h1, by rw [← h2.length]; exact h3, hq _ _ W (Wle.refl W) (ho.written q e (fun z => by cases z) ⟨by rw [List.length_dropLast]; omega, _, upd_same, h2.dropLast⟩) h4⟩
  · cases hg
def oPopAt : D → List D → Store → Option (D × Store)
  | x, [.int i], S => if -(2 ^ 63) ≤ i ∧ i < 2 ^ 63 then onL (fun xs => (seqIndex? i xs.length).bind fun k => (xs[k]?).map fun y => (y, xs.eraseIdx k)) x S else none
  | _, _, _ => none
theorem mtO_popAt : MtO X rPopAt oPopAt := by
  intro W H S v vs x ds Q d S' ho r1 r2 hg hq
  unfold oPopAt at hg
  split at hg
  · rename_i j
    by_cases c : -(2 ^ 63) ≤ j ∧ j < 2 ^ 63
    · rw [if_pos c] at hg
      obtain ⟨i, xs, ys, rfl, e, e2, rfl⟩ := onL_some hg
      cases ek : seqIndex? j xs.length with
      | none => rw [ek] at e2; cases e2
      | some k =>
        rw [ek] at e2
        have e2 : (xs[k]?).map (fun y => (y, xs.eraseIdx k)) = some (d, ys) := e2
        cases e3 : xs[k]? with
        | none => rw [e3] at e2; cases e2
        | some y =>
          rw [e3] at e2
          cases e2
          obtain ⟨u, rfl, ry⟩ := repL1 r2
          cases ry
          cases r1 with
          | @box _ a q =>
            obtain ⟨z, us, h1, h2⟩ := ho.cell q e
            obtain ⟨w, h3, h4⟩ := h2.get e3
            refine ⟨a, us, j, k, w, rfl, rfl, h1, c.1, c.2, by rw [← h2.length]; exact ek, h3, hq _ _ W (Wle.refl W) (ho.written q e (fun z => by cases z) ⟨by have := len_erase xs k; omega, _, upd_same, h2.eraseIdx k⟩) h4⟩
    · rw [if_neg c] at hg; cases hg
  · cases hg
def oClear : D → List D → Store → Option (D × Store)
  | x, [], S => onL (fun _ => some (.non, [])) x S
  | _, _, _ => none
theorem mtO_clear : MtO X rClear oClear := by
  intro W H S v vs x ds Q d S' ho r1 r2 hg hq
  unfold oClear at hg
  split at hg
  · obtain ⟨i, xs, ys, rfl, e, e2, rfl⟩ := onL_some hg
    cases e2
    cases r2
    cases r1 with
    | @box _ a q =>
      obtain ⟨z, us, h1, h2⟩ := ho.cell q e
      exact ⟨a, us, rfl, rfl, h1, hq _ _ W (Wle.refl W) (ho.written q e (fun z => by cases z) ⟨Nat.zero_le _, _, upd_same, .nil⟩) .non⟩
  · cases hg
/-- where both are asked by their arguments -/
def orM (o1 o2 : D → List D → Store → Option (D × Store)) : D → List D → Store → Option (D × Store) := fun x xs S => match o1 x xs S with
  | some p => some p
  | none => o2 x xs S
theorem MtO.or {r r' : V → List V → Hp → VK → Prop} {o o' : D → List D → Store → Option (D × Store)} (h : MtO X r o) (h' : MtO X r' o') : MtO X (fun v x H Q => r v x H Q ∨ r' v x H Q) (orM o o') := by
  intro W H S v vs x ds Q d S' ho r1 r2 hg hq
  unfold orM at hg
  cases e : o x ds S with
  | some p =>
    rw [e] at hg
    cases hg
    exact .inl (h W H S v vs x ds Q d S' ho r1 r2 e hq)
  | none =>
    rw [e] at hg
    exact .inr (h' W H S v vs x ds Q d S' ho r1 r2 hg hq)
/-! ### texts -/
def oJoin : D → List D → Store → Option (D × Store)
  | .str a, [y], S => ((sqA S y).bind asS).bind fun ys => if (ys.map (·.length)).sum + ys.length * a.length ≤ 16777216 ∧ (Txt.join a ys).length ≤ sizeLine then some (.str (Txt.join a ys), S) else none
  | _, _, _ => none
theorem mtO_join : MtO X (fun x xs H Q => ∃ a p, ∃ ys : List Str, x = .str a ∧ xs = [.ref p] ∧ (SqL X.K H p (ys.map V.str) ∨ SqT X.K H p (ys.map V.str)) ∧
    (ys.map (·.length)).sum + ys.length * a.length ≤ 16777216 ∧ Q (.str (Txt.join a ys)) H) oJoin := by
  intro W H S v vs x ds Q d S' ho r1 r2 hg hq
  unfold oJoin at hg
  split at hg
  · rename_i a y
    cases e1 : sqA S y with
    | none => rw [e1] at hg; cases hg
    | some zs =>
      rw [e1] at hg
      cases e2 : asS zs with
      | none => simp only [Option.bind_some, e2] at hg; cases hg
      | some ys =>
        simp only [Option.bind_some, e2] at hg
        by_cases c : (ys.map (·.length)).sum + ys.length * a.length ≤ 16777216 ∧ (Txt.join a ys).length ≤ sizeLine
        · rw [if_pos c] at hg
          cases hg
          obtain ⟨u, rfl, ry⟩ := repL1 r2
          obtain ⟨p, us, rfl, h1, h2, _⟩ := sqA_ok ho ry e1
          rw [asS_ok h2 e2] at h1
          cases r1
          exact ⟨a, p, ys, rfl, rfl, h1, c.1, hq _ H W (Wle.refl W) ho (.str c.2)⟩
        · rw [if_neg c] at hg; cases hg
  · cases hg
def oSplit (bx : Bool) : D → List D → Store → Option (D × Store)
  | .str a, [.str b], S => if (b.length == 0) = false ∧ a.length + 2 ≤ sizeLine ∧ (∀ z ∈ Txt.split a b, z.length ≤ sizeLine) ∧ (Txt.split a b).length ≤ sizeLine then some (mkL bx ((Txt.split a b).map D.str) S) else none
  | _, _, _ => none
theorem repL_strs {K : PySem.W.Frag} {mg : Str → Option Value} {W : Wd} : ∀ (zs : List Str), (∀ z ∈ zs, z.length ≤ sizeLine) → RepL K mg W (zs.map D.str) (zs.map V.str)
  | [], _ => .nil
  | z :: zs, h => .cons (.str (h z List.mem_cons_self)) (repL_strs zs fun y hy => h y (List.mem_cons_of_mem _ hy))
theorem mtO_split (bx : Bool) : MtO X (fun x xs H Q => ∃ a b, x = .str a ∧ xs = [.str b] ∧ (b.length == 0) = false ∧ a.length + 2 ≤ sizeLine ∧ rNewStrs (Txt.split a b) H Q) (oSplit bx) := by
  intro W H S v vs x ds Q d S' ho r1 r2 hg hq
  unfold oSplit at hg
  split at hg
  · rename_i a b
    by_cases c : (b.length == 0) = false ∧ a.length + 2 ≤ sizeLine ∧ (∀ z ∈ Txt.split a b, z.length ≤ sizeLine) ∧ (Txt.split a b).length ≤ sizeLine
    · rw [if_pos c] at hg
      obtain ⟨c1, c2, c3, c4⟩ := c
      obtain ⟨u, rfl, ry⟩ := repL1 r2
      cases ry
      cases r1
      refine ⟨a, b, rfl, rfl, c1, c2, fun p np => ?_⟩
      obtain ⟨W2, w2, ho2, r3⟩ := ho.newL np (by rw [List.length_map]; exact c4) (repL_strs _ c3) bx
      have e' : mkL bx ((Txt.split a b).map D.str) S = (d, S') := Option.some.inj hg
      rw [e'] at ho2 r3
      exact hq _ _ W2 w2 ho2 r3
    · rw [if_neg c] at hg; cases hg
  · cases hg
/-! ### dict.get -/
def rGet1 : V → List V → Hp → VK → Prop := fun x xs H Q => ∃ a y o, x = .ref a ∧ xs = [y] ∧ DGet H a y o ∧ Q (o.getD .non) H
def rGet2 : V → List V → Hp → VK → Prop := fun x xs H Q => ∃ a y z o, x = .ref a ∧ xs = [y, z] ∧ DGet H a y o ∧ Q (o.getD z) H
theorem mt_get (hu : X.A.units + 1 < cLine) : MtR X "dict.get" (fun v xs H Q => rGet1 v xs H Q ∨ rGet2 v xs H Q) := by
  intro pins s σ H x xs v us Q I rx rs h
  rcases h with ⟨a, y, o, rfl, rfl, g, q⟩ | ⟨a, y, z, o, rfl, rfl, g, q⟩
  · obtain rfl : v = Value.ref a := rx
    obtain ⟨u, rfl, ry⟩ := Vals.one rs
    exact d_get1 hu I g ry fun w' s3 I3 rw' => ⟨_, H, I3, rw', q⟩
  · obtain rfl : v = Value.ref a := rx
    obtain ⟨u, u', rfl, ry, rz⟩ := Vals.two rs
    exact d_get2 hu I g ry rz fun w' s3 I3 rw' => ⟨_, H, I3, rw', q⟩
def oGet : D → List D → Store → Option (D × Store)
  | x, [y], S => (dget S x y).map fun o => (o.getD .non, S)
  | x, [y, z], S => (dget S x y).map fun o => (o.getD z, S)
  | _, _, _ => none
theorem mtO_get : MtO X (fun v xs H Q => rGet1 v xs H Q ∨ rGet2 v xs H Q) oGet := by
  intro W H S v vs x ds Q d S' ho r1 r2 hg hq
  unfold oGet at hg
  split at hg
  · rename_i y
    cases e : dget S x y with
    | none => rw [e] at hg; cases hg
    | some o =>
      rw [e] at hg
      cases hg
      obtain ⟨u, rfl, ry⟩ := repL1 r2
      obtain ⟨a, ov, rfl, g, f1, f2⟩ := dget_ok ho r1 ry e
      refine .inl ⟨a, u, ov, rfl, rfl, g, ?_⟩
      cases o with
      | none => rw [f2 rfl]; exact hq _ H W (Wle.refl W) ho .non
      | some z => obtain ⟨w, e1, e2⟩ := f1 z rfl; rw [e1]; exact hq _ H W (Wle.refl W) ho e2
  · rename_i y z
    cases e : dget S x y with
    | none => rw [e] at hg; cases hg
    | some o =>
      rw [e] at hg
      cases hg
      obtain ⟨u, u', rfl, ry, rz⟩ := repL2 r2
      obtain ⟨a, ov, rfl, g, f1, f2⟩ := dget_ok ho r1 ry e
      refine .inr ⟨a, u, u', ov, rfl, rfl, g, ?_⟩
      cases o with
      | none => rw [f2 rfl]; exact hq _ H W (Wle.refl W) ho rz
      | some z => obtain ⟨w, e1, e2⟩ := f1 z rfl; rw [e1]; exact hq _ H W (Wle.refl W) ho e2
  · cases hg
end
end Dm
set_option linter.all false
set_option maxRecDepth 100000
set_option maxHeartbeats 2000000
namespace Dm
open PySem L2 PySem.W PyProof.Rows PySem.Calls

/-! ### a, *b, c = a list or a tuple -/
section
variable {prog : Program} {w : World} {A : Around} {E : Value → Shared → Prop} {s : Shared}
theorem star_L {l : Addr} {items : Array Value} {n i : Nat} {Q : List Value → Shared → Prop} (hl : s.heap.IsList l items) (hh : A.handled = none) (hi : i < n) (hn : n ≤ items.size + 1) (hz : items.size ≤ sizeLine)
    (h : ∀ (h' : Heap) (tk : Nat), (∀ b o, s.heap.get? b = some o → h'.get? b = some o) →
      Q (items.toList.take i ++ [.ref h'.objs.size] ++ (items.toList.drop i).drop (items.size + 1 - n)) { s with heap := h'.push { cls := .type "list", data := .seq ((items.toList.drop i).take (items.size + 1 - n)).toArray }, toks := tk }) : wpAny (model prog w) A (unpackItems (.ref l) n (some i)) Q E s := by
  have hlt : l ≠ s.heap.objs.size := by obtain ⟨o, ho, _⟩ := hl; exact Nat.ne_of_lt (Heap.lt_size ho)
  have hll : l < s.heap.objs.size := by obtain ⟨o, ho, _⟩ := hl; exact Heap.lt_size ho
  unfold unpackItems
  refine wpAny_bind ?_
  unfold notIterableAtAll
  refine wpAny_bind (wpAny_specialOf hl.typeIs slot_list_iter.lookup ?_)
  refine wpAny_pure ?_
  simp only [Bool.false_eq_true, if_false]
  refine wpAny_bind (wpAny_holding (wpAny_pyIter_list hl ?_))
  refine wpAny_bind (wpAny_holding (kun_draw hlt i 0 _ _ ⟨_, Heap.get?_push_size _ rfl, rfl, rfl⟩ (hl.push _) (by omega) fun h₁ hit₁ hs₁ => ?_))
  have hl₁ : h₁.IsList l items := (hl.push _).extBut hs₁.extBut hlt
  rw [Nat.zero_add] at hit₁
  have hit₁' := hit₁
  obtain ⟨oi, hoi, _⟩ := hit₁'
  have hl₁' := hl₁
  obtain ⟨ol, hol, _⟩ := hl₁'
  rw [List.drop_zero]
  have hfl : (items.toList.take i).length = i := by rw [List.length_take, Array.length_toList]; omega
  rw [if_neg (show ¬ ((items.toList.take i).length < i) by rw [hfl]; omega)]
  refine wpAny_bind (wpAny_holding (kun_collect (s := { s with heap := h₁ }) (T := "list_iterator") (.inr (.inr (.inl rfl))) (Walks.list (A := A.in1) hh s.heap.objs.size l hlt items) (fun j u st => st.1.typeIs) (k := i) (by omega) ⟨hit₁, hl₁⟩ (Heap.lt_size hoi) (Heap.lt_size hol) (fun h₂ tk hk => ?_) hz))
  have hrl : (items.toList.drop i).length = items.size - i := by rw [List.length_drop, Array.length_toList]
  have hmid : (items.toList.drop i).length - (n - 1 - i) = items.size + 1 - n := by rw [hrl]; omega
  show wpAny _ _ (if (items.toList.drop i).length < n - 1 - i then _ else _) _ _ _
  rw [if_neg (by rw [hrl]; omega)]
  show wpAny _ _ (newList ((items.toList.drop i).take ((items.toList.drop i).length - (n - 1 - i))) >>= fun d => pure (items.toList.take i ++ [d] ++ (items.toList.drop i).drop ((items.toList.drop i).length - (n - 1 - i)))) _ _ _
  rw [hmid]
  have he : ∀ b o, s.heap.get? b = some o → h₂.get? b = some o := fun b o e => hk b o (Nat.ne_of_lt (Heap.lt_size e)) (hs₁.extBut b o (Nat.ne_of_lt (Heap.lt_size e)) (Heap.get?_push_of_some _ e))
  refine wpAny_bind (wpAny_newList (wpAny_pure (h h₂ tk he)) ?_)
  rw [List.length_take, hrl]; omega
theorem star_T {l : Addr} {items : Array Value} {n i : Nat} {Q : List Value → Shared → Prop} (hl : IsTup s.heap l items) (hh : A.handled = none) (hi : i < n) (hn : n ≤ items.size + 1) (hz : items.size ≤ sizeLine)
    (h : ∀ (h' : Heap) (tk : Nat), (∀ b o, s.heap.get? b = some o → h'.get? b = some o) →
      Q (items.toList.take i ++ [.ref h'.objs.size] ++ (items.toList.drop i).drop (items.size + 1 - n)) { s with heap := h'.push { cls := .type "list", data := .seq ((items.toList.drop i).take (items.size + 1 - n)).toArray }, toks := tk }) : wpAny (model prog w) A (unpackItems (.ref l) n (some i)) Q E s := by
  have hlt : l ≠ s.heap.objs.size := by obtain ⟨o, ho, _⟩ := hl; exact Nat.ne_of_lt (Heap.lt_size ho)
  have hll : l < s.heap.objs.size := by obtain ⟨o, ho, _⟩ := hl; exact Heap.lt_size ho
  unfold unpackItems
  refine wpAny_bind ?_
  unfold notIterableAtAll
  refine wpAny_bind (wpAny_specialOf hl.typeIs slot_tuple_iter.lookup ?_)
  refine wpAny_pure ?_
  simp only [Bool.false_eq_true, if_false]
  refine wpAny_bind (wpAny_holding (iter_tuple hl ?_))
  refine wpAny_bind (wpAny_holding (draw_tuple hlt i 0 _ _ ⟨_, Heap.get?_push_size _ rfl, rfl, rfl⟩ (hl.push _) (by omega) fun h₁ hit₁ hs₁ => ?_))
  have hl₁ : IsTup h₁ l items := (hl.push _).extBut hs₁.extBut hlt
  rw [Nat.zero_add] at hit₁
  have hit₁' := hit₁
  obtain ⟨oi, hoi, _⟩ := hit₁'
  have hl₁' := hl₁
  obtain ⟨ol, hol, _⟩ := hl₁'
  rw [List.drop_zero]
  have hfl : (items.toList.take i).length = i := by rw [List.length_take, Array.length_toList]; omega
  rw [if_neg (show ¬ ((items.toList.take i).length < i) by rw [hfl]; omega)]
  refine wpAny_bind (wpAny_holding (kun_collect (s := { s with heap := h₁ }) (T := "tuple_iterator") (.inr (.inr (.inr rfl))) (Walks.tuple (A := A.in1) hh s.heap.objs.size l hlt items) (fun j u st => st.1.typeIs) (k := i) (by omega) ⟨hit₁, hl₁⟩ (Heap.lt_size hoi) (Heap.lt_size hol) (fun h₂ tk hk => ?_) hz))
  have hrl : (items.toList.drop i).length = items.size - i := by rw [List.length_drop, Array.length_toList]
  have hmid : (items.toList.drop i).length - (n - 1 - i) = items.size + 1 - n := by rw [hrl]; omega
  show wpAny _ _ (if (items.toList.drop i).length < n - 1 - i then _ else _) _ _ _
  rw [if_neg (by rw [hrl]; omega)]
  show wpAny _ _ (newList ((items.toList.drop i).take ((items.toList.drop i).length - (n - 1 - i))) >>= fun d => pure (items.toList.take i ++ [d] ++ (items.toList.drop i).drop ((items.toList.drop i).length - (n - 1 - i)))) _ _ _
  rw [hmid]
  have he : ∀ b o, s.heap.get? b = some o → h₂.get? b = some o := fun b o e => hk b o (Nat.ne_of_lt (Heap.lt_size e)) (hs₁.extBut b o (Nat.ne_of_lt (Heap.lt_size e)) (Heap.get?_push_of_some _ e))
  refine wpAny_bind (wpAny_newList (wpAny_pure (h h₂ tk he)) ?_)
  rw [List.length_take, hrl]; omega
end
section
variable {X : Cx} {pos p2 : Pos}
theorem pgs_star {e : Expr} {es : List Expr} {t : TG} {u : TGs} (h1 : PG X e t) (h2 : PGs X es u)
    (hs : (assignEach (.Starred e p2 :: es) X.env).map (·.2) = assign e X.env :: (assignEach es X.env).map (·.2) := by rfl) : PGs X (.Starred e p2 :: es) (gCons t u) := by
  refine ⟨fun pins s σ H vs us Q I r h => ?_⟩
  obtain ⟨v, vr, e1, h⟩ := h
  subst e1
  cases r with
  | cons r rr =>
    rw [hs]
    refine assignInOrder_cons (thn (h1.run pins s σ H _ _ _ I r h) fun _ s1 ⟨σ1, H1, I1, q1⟩ => ?_)
    exact h2.run pins s1 σ1 H1 _ _ Q I1 rr q1
def gStar (K : PySem.W.Frag) (n i : Nat) (t : TGs) : TG := fun v σ H Q => ∃ a xs, v = .ref a ∧ (SqL K H a xs ∨ SqT K H a xs) ∧ n ≤ xs.length + 1 ∧
  ∀ p, H p = none → t (xs.take i ++ [.ref p] ++ (xs.drop i).drop (xs.length + 1 - n)) σ (upd H p (.lst ((xs.drop i).take (xs.length + 1 - n)))) Q
theorem pg_star {es : List Expr} {k : Nat} {t : TGs} {n i : Nat} (hc : X.calm = true) (h : PGs X es t) (hi : i < n)
    (hn : (assignEach es X.env).length = n := by rfl) (hst : (assignEach es X.env).findIdx? (·.1) = some i := by rfl) : PG X (.Tuple es k pos) (gStar X.K n i t) := by
  refine ⟨fun pins s σ H v u Q I r hw => ?_⟩
  obtain ⟨a, xs, e1, hq, hl, hw⟩ := hw
  subst e1
  cases r
  rw [assign_Tuple]
  refine wpAny_bind (wpAny_standAt ?_)
  unfold unpack
  rw [hn, hst]
  have fin : ∀ (its : List Value), Vals xs its → xs.length ≤ sizeLine → ∀ (h' : Heap) (tk : Nat), (∀ b o, s.heap.get? b = some o → h'.get? b = some o) →
      wpAny (model X.prog X.w) X.A (assignInOrder ((assignEach es X.env).map (·.2)) (its.toArray.toList.take i ++ [.ref h'.objs.size] ++ (its.toArray.toList.drop i).drop (its.toArray.size + 1 - n))) (fun _ s' => ∃ σ' H', Inv X pins σ' H' s' ∧ Q σ' H') X.xe
        { s with heap := h'.push { cls := .type "list", data := .seq ((its.toArray.toList.drop i).take (its.toArray.size + 1 - n)).toArray }, toks := tk } := fun its rv hz h' tk hk => by
    have hlen : its.toArray.size = xs.length := by rw [List.size_toArray]; exact rv.length.symm
    have I1 : Inv X pins σ H { s with heap := h', toks := tk } := I.kept (t' := tk) hk
    have np : H h'.objs.size = none := I1.hok.fresh (Nat.le_refl _)
    have I2 : Inv X pins σ (upd H h'.objs.size (.lst ((xs.drop i).take (xs.length + 1 - n)))) { s with heap := h'.push { cls := .type "list", data := .seq ((its.toArray.toList.drop i).take (its.toArray.size + 1 - n)).toArray }, toks := tk } :=
      I1.laid (t' := tk) (fun b o e => Heap.get?_push_of_some _ e) (Nat.le_refl _) ⟨by rw [List.length_take, List.length_drop]; omega, (its.drop i).take (xs.length + 1 - n), 0, (rv.drop i).take _, by rw [hlen]; exact Heap.get?_push_size _ rfl⟩
    refine h.run pins _ σ _ _ _ Q I2 ?_ (hw _ np)
    rw [hlen]
    have h0 : Vals [V.ref h'.objs.size] [Value.ref h'.objs.size] := .cons (show RelV (.ref _) (.ref _) from rfl) .nil
    exact ((rv.take i).append h0).append ((rv.drop i).drop _)
  rcases hq with hq | hq
  · obtain ⟨its, rv, pl, hz⟩ := I.list hq
    have hl' : s.heap.IsList a its.toArray := by
      obtain ⟨o, m, e, c, d, q⟩ := pl
      exact ⟨o, e, c, m, q⟩
    have hlen : its.toArray.size = xs.length := by rw [List.size_toArray]; exact rv.length.symm
    exact wpAny_bind (wpAny_holding (star_L hl' (I.ok.hd hc) hi (by rw [hlen]; exact hl) (by rw [hlen]; exact hz) (fin its rv hz)))
  · obtain ⟨its, rv, pl, hz⟩ := I.tuple hq
    have hlen : its.toArray.size = xs.length := by rw [List.size_toArray]; exact rv.length.symm
    exact wpAny_bind (wpAny_holding (star_T pl (I.ok.hd hc) hi (by rw [hlen]; exact hl) (by rw [hlen]; exact hz) (fin its rv hz)))
end
end Dm
set_option linter.all false
set_option maxRecDepth 100000
set_option maxHeartbeats 2000000
namespace Dm
open PySem L2 PySem.W PyProof.Rows PySem.Calls

/-! ### statements -/
def PostS (K : PySem.W.Frag) (mg : Str → Option Value) (EX : WX) (W : Wd) (D : L2.Ends) : Fl → Store → Prop
  | .nx ρ, S' => ∀ σ H' W', Wle W W' → Hold K mg W' S' H' → Fr K mg W' ρ σ → D.nx σ H'
  | .bk ρ, S' => ∀ σ H' W', Wle W W' → Hold K mg W' S' H' → Fr K mg W' ρ σ → D.bk σ H'
  | .ct ρ, S' => ∀ σ H' W', Wle W W' → Hold K mg W' S' H' → Fr K mg W' ρ σ → D.ct σ H'
  | .rt d, S' => ∀ v H' W', Wle W W' → Hold K mg W' S' H' → Rep K mg W' d v → D.rt v H'
  | .ex e ρ, S' => ∀ cls dd σ H' W', Wle W W' → Hold K mg W' S' H' → Fr K mg W' ρ σ → ExRep K mg W' e cls dd → EX cls dd σ H'
section
variable {K : PySem.W.Frag} {mg : Str → Option Value} {EX : WX} {W W1 : Wd} {D : L2.Ends}
theorem PostS.mono (w : Wle W W1) : ∀ {f : Fl} {S' : Store}, PostS K mg EX W D f S' → PostS K mg EX W1 D f S'
  | .nx _, _, h => fun a b c w' => h a b c (w.trans w')
  | .bk _, _, h => fun a b c w' => h a b c (w.trans w')
  | .ct _, _, h => fun a b c w' => h a b c (w.trans w')
  | .rt _, _, h => fun a b c w' => h a b c (w.trans w')
  | .ex _ _, _, h => fun x y a b c w' => h x y a b c (w.trans w')
end
structure EvS (K : PySem.W.Frag) (mg : Str → Option Value) (EX : WX) (t : TS) (f : SM) : Prop where
  run : ∀ W σ H S ρ D fl S', Fr K mg W ρ σ → Hold K mg W S H → f ρ S = some (fl, S') → PostS K mg EX W D fl S' → t D σ H
structure DS (X : Cx) (EX : WX) (st : Stmt) (f : SM) : Prop where
  ev : ∃ t, PS X st t ∧ EvS X.K X.mg EX t f
structure DSs (X : Cx) (EX : WX) (st : List Stmt) (f : SM) : Prop where
  ev : ∃ t, PSs X st t ∧ EvS X.K X.mg EX t f

def sbd {α : Type} (m : Option (Rs α × Store)) (ρ : Env) (k : α → Store → Option (Fl × Store)) : Option (Fl × Store) :=
  match m with
  | none => none
  | some (.ok a, S) => k a S
  | some (.ex e, S) => some (.ex e ρ, S)
theorem sbd_none {α : Type} (ρ : Env) (k : α → Store → Option (Fl × Store)) : sbd none ρ k = none := rfl
theorem sbd_ok {α : Type} (a : α) (S : Store) (ρ : Env) (k : α → Store → Option (Fl × Store)) : sbd (some (.ok a, S)) ρ k = k a S := rfl
theorem sbd_ex {α : Type} (e : Exn) (S : Store) (ρ : Env) (k : α → Store → Option (Fl × Store)) : sbd (some (.ex e, S)) ρ k = some (.ex e ρ, S) := rfl
theorem Ev.sbd {α β : Type} {K : PySem.W.Frag} {mg : Str → Option Value} {EX : WX} {R : Wd → α → β → Prop} {t : L2.St → Hp → (β → Hp → Prop) → Prop} {g : Env → M α} (h : Ev K mg EX R t g) {W : Wd} {σ : L2.St} {H : Hp} {S : Store} {ρ : Env} {k : α → Store → Option (Fl × Store)} {fl : Fl} {S' : Store} {D : L2.Ends} {Q : β → Hp → Prop}
    (fr : Fr K mg W ρ σ) (ho : Hold K mg W S H) (hg : Dm.sbd (g ρ S) ρ k = some (fl, S'))
    (hp : PostS K mg EX W D fl S')
    (hk : ∀ a b S1 H1 W1, Wle W W1 → Hold K mg W1 S1 H1 → R W1 a b → k a S1 = some (fl, S') → Q b H1) : t σ H Q := by
  cases e : g ρ S with
  | none => rw [e, sbd_none] at hg; cases hg
  | some p =>
    obtain ⟨r1, S1⟩ := p
    cases r1 with
    | ex x =>
      rw [e, sbd_ex] at hg
      cases hg
      exact h.run W σ H S ρ Q _ _ fr ho e fun cls dd H' W' w' ho' xr => hp cls dd σ H' W' w' ho' (fr.mono w') xr
    | ok a =>
      rw [e, sbd_ok] at hg
      exact h.run W σ H S ρ Q _ _ fr ho e fun b H1 W1 w1 ho1 r1 => hk a b S1 H1 W1 w1 ho1 r1 hg

section
variable {X : Cx} {EX : WX} {st : Stmt} {rest p q : List Stmt} {f f' : SM} {e c : Expr} {g : EM} {t : TM} {pos : Pos}
def fNext : SM := fun ρ S => some (.nx ρ, S)
def fSeq (f f' : SM) : SM := fun ρ S => match f ρ S with
  | none => none
  | some (.nx ρ1, S1) => f' ρ1 S1
  | some (.rt d, S1) => some (.rt d, S1)
  | some (.bk ρ1, S1) => some (.bk ρ1, S1)
  | some (.ct ρ1, S1) => some (.ct ρ1, S1)
  | some (.ex e ρ1, S1) => some (.ex e ρ1, S1)
theorem dss_nil : DSs X EX [] fNext := ⟨_, pss_nil, ⟨fun W σ H S ρ D fl S' fr ho hf hp => by
  cases hf
  exact hp σ H W (Wle.refl W) ho fr⟩⟩
theorem dss_one (h : DS X EX st f) : DSs X EX [st] f := let ⟨t, pt, et⟩ := h.ev; ⟨t, pss_one pt, et⟩
theorem dss_cons (h : DS X EX st f) (h' : DSs X EX rest f') : DSs X EX (st :: rest) (fSeq f f') := by
  obtain ⟨t, pt, et⟩ := h.ev
  obtain ⟨u, pu, eu⟩ := h'.ev
  refine ⟨_, pss_cons pt pu, ⟨fun W σ H S ρ D fl S' fr ho hf hp => ?_⟩⟩
  unfold fSeq at hf
  cases ef : f ρ S with
  | none => rw [ef] at hf; cases hf
  | some r =>
    obtain ⟨fl1, S1⟩ := r
    rw [ef] at hf
    cases fl1 with
    | nx ρ1 => exact et.run W σ H S ρ { D with nx := u D } _ _ fr ho ef fun σ1 H1 W1 w1 ho1 fr1 => eu.run W1 σ1 H1 S1 ρ1 D fl S' fr1 ho1 hf (hp.mono w1)
    | rt d => cases hf; exact et.run W σ H S ρ { D with nx := u D } _ _ fr ho ef hp
    | bk ρ1 => cases hf; exact et.run W σ H S ρ { D with nx := u D } _ _ fr ho ef hp
    | ct ρ1 => cases hf; exact et.run W σ H S ρ { D with nx := u D } _ _ fr ho ef hp
    | ex x ρ1 => cases hf; exact et.run W σ H S ρ { D with nx := u D } _ _ fr ho ef hp
theorem ds_pass : DS X EX (.Pass pos) fNext := ⟨_, ps_pass, ⟨fun W σ H S ρ D fl S' fr ho hf hp => by
  cases hf
  exact hp σ H W (Wle.refl W) ho fr⟩⟩
def fBreak : SM := fun ρ S => some (.bk ρ, S)
def fCont : SM := fun ρ S => some (.ct ρ, S)
theorem ds_break : DS X EX (.Break pos) fBreak := ⟨_, ps_break, ⟨fun W σ H S ρ D fl S' fr ho hf hp => by
  cases hf
  exact hp σ H W (Wle.refl W) ho fr⟩⟩
theorem ds_continue : DS X EX (.Continue pos) fCont := ⟨_, ps_continue, ⟨fun W σ H S ρ D fl S' fr ho hf hp => by
  cases hf
  exact hp σ H W (Wle.refl W) ho fr⟩⟩
def fNever : SM := fun _ _ => none
theorem ds_never : DS X EX st fNever := ⟨_, ps_never, ⟨fun W σ H S ρ D fl S' fr ho hf hp => by cases hf⟩⟩
theorem ds_doc {x j pos'} : DS X EX (.Expr (.Constant (.str x) j pos) pos') fNext := ⟨_, ps_doc, ⟨fun W σ H S ρ D fl S' fr ho hf hp => by
  cases hf
  exact hp σ H W (Wle.refl W) ho fr⟩⟩
def fDrop (g : EM) : SM := fun ρ S => sbd (g ρ S) ρ fun _ S1 => some (.nx ρ, S1)
theorem ds_expr (h : DE X EX e g) (hs : swapsWith e none pos.line X.env = pure false := by rfl) : DS X EX (.Expr e pos) (fDrop g) := by
  obtain ⟨te, pe, ee⟩ := h.ev
  refine ⟨_, ps_expr pe hs, ⟨fun W σ H S ρ D fl S' fr ho hf hp => ?_⟩⟩
  refine ee.sbd fr ho hf hp fun a b S1 H1 W1 w1 ho1 r1 hk => ?_
  cases hk
  exact hp σ H1 W1 w1 ho1 (fr.mono w1)
def fRet (g : EM) : SM := fun ρ S => sbd (g ρ S) ρ fun d S1 => some (.rt d, S1)
theorem ds_ret (h : DE X EX e g) : DS X EX (.Return (some e) pos) (fRet g) := by
  obtain ⟨te, pe, ee⟩ := h.ev
  refine ⟨_, ps_ret pe, ⟨fun W σ H S ρ D fl S' fr ho hf hp => ?_⟩⟩
  refine ee.sbd fr ho hf hp fun a b S1 H1 W1 w1 ho1 r1 hk => ?_
  cases hk
  exact hp b H1 W1 w1 ho1 r1
/-- return of a list's cell that nobody changes any more -/
def frz (d : D) (S : Store) : D × Store := match d with
  | .box i => (match S[i]? with
    | some (.lst ds) => (.lst ds, S.set i .dead)
    | _ => (d, S))
  | _ => (d, S)
theorem frz_ok {K : PySem.W.Frag} {mg : Str → Option Value} {W : Wd} {S : Store} {H : Hp} {d : D} {v : V} (ho : Hold K mg W S H) (r : Rep K mg W d v) : ∃ W', Wle W W' ∧ Hold K mg W' (frz d S).2 H ∧ Rep K mg W' (frz d S).1 v := by
  cases r with
  | @box i a h =>
    cases e : S[i]? with
    | none =>
      have q : frz (.box i) S = (.box i, S) := by unfold frz; simp only [e]
      rw [q]
      exact ⟨W, Wle.refl W, ho, .box h⟩
    | some c =>
      cases c with
      | lst ds =>
        have q : frz (.box i) S = (.lst ds, S.set i .dead) := by unfold frz; simp only [e]
        rw [q]
        exact ho.given h e
      | ro ds =>
        have q : frz (.box i) S = (.box i, S) := by unfold frz; simp only [e]
        rw [q]
        exact ⟨W, Wle.refl W, ho, .box h⟩
      | dic kd lk kvs =>
        have q : frz (.box i) S = (.box i, S) := by unfold frz; simp only [e]
        rw [q]
        exact ⟨W, Wle.refl W, ho, .box h⟩
      | ins c fs =>
        have q : frz (.box i) S = (.box i, S) := by unfold frz; simp only [e]
        rw [q]
        exact ⟨W, Wle.refl W, ho, .box h⟩
      | dead =>
        have q : frz (.box i) S = (.box i, S) := by unfold frz; simp only [e]
        rw [q]
        exact ⟨W, Wle.refl W, ho, .box h⟩
  | non => exact ⟨W, Wle.refl W, ho, .non⟩
  | bl => exact ⟨W, Wle.refl W, ho, .bl⟩
  | int => exact ⟨W, Wle.refl W, ho, .int⟩
  | str z => exact ⟨W, Wle.refl W, ho, .str z⟩
  | tup h z r => exact ⟨W, Wle.refl W, ho, .tup h z r⟩
  | wtup h z r => exact ⟨W, Wle.refl W, ho, .wtup h z r⟩
  | lst h z r => exact ⟨W, Wle.refl W, ho, .lst h z r⟩
  | wlst h z r => exact ⟨W, Wle.refl W, ho, .wlst h z r⟩
  | glb h r => exact ⟨W, Wle.refl W, ho, .glb h r⟩
def gFrz (g : EM) : EM := fun ρ S => bd (g ρ S) fun d S1 => some (.ok (frz d S1).1, (frz d S1).2)
theorem de_frz (h : DE X EX e g) : DE X EX e (gFrz g) := by
  obtain ⟨te, pe, ee⟩ := h.ev
  refine ⟨te, pe, ⟨fun W σ H S ρ Q r S' fr ho hf hp => ?_⟩⟩
  refine ee.bd fr ho hf hp.exn fun a b S1 H1 W1 w1 ho1 r1 hk => ?_
  cases hk
  obtain ⟨W2, w2, ho2, r2⟩ := frz_ok ho1 r1
  exact hp b H1 W2 (w1.trans w2) ho2 r2
def fRetN : SM := fun _ S => some (.rt .non, S)
theorem ds_retN : DS X EX (.Return none pos) fRetN := ⟨_, ps_retN, ⟨fun W σ H S ρ D fl S' fr ho hf hp => by
  cases hf
  exact hp _ H W (Wle.refl W) ho .non⟩⟩
def fIf (t : TM) (f f' : SM) : SM := fun ρ S => sbd (t ρ S) ρ fun b S1 => if b = true then f ρ S1 else f' ρ S1
theorem ds_if (hc : DT X EX c t) (ha : DSs X EX p f) (hb : DSs X EX q f') : DS X EX (.If c p q pos) (fIf t f f') := by
  obtain ⟨tc, pc, ec⟩ := hc.ev
  obtain ⟨ta, pa, ea⟩ := ha.ev
  obtain ⟨tb, pb, eb⟩ := hb.ev
  refine ⟨_, ps_if pc pa pb, ⟨fun W σ H S ρ D fl S' fr ho hf hp => ?_⟩⟩
  refine ec.sbd fr ho hf hp fun a b S1 H1 W1 w1 ho1 r1 hk => ?_
  cases r1
  cases a with
  | true => exact ea.run W1 σ H1 S1 ρ D fl S' (fr.mono w1) ho1 hk (hp.mono w1)
  | false => exact eb.run W1 σ H1 S1 ρ D fl S' (fr.mono w1) ho1 hk (hp.mono w1)
end

/-! ### the limit of a loop by its turns -/
noncomputable def lim {α : Type} (F : Nat → Option α) : Option α := by
  classical
  exact if h : ∃ n a, F n = some a then F (Classical.choose h) else none
theorem lim_some {α : Type} {F : Nat → Option α} {a : α} (h : lim F = some a) : ∃ n, F n = some a := by
  unfold lim at h
  split at h
  · exact ⟨_, h⟩
  · cases h
theorem lim_of {α : Type} {F : Nat → Option α} (mono : ∀ n a, F n = some a → F (n + 1) = some a) {n : Nat} {a : α} (h : F n = some a) : lim F = some a := by
  have up : ∀ n k a, F n = some a → F (n + k) = some a := fun n k a h => by
    induction k with
    | zero => exact h
    | succ k ih => exact mono _ _ ih
  have ex : ∃ n a, F n = some a := ⟨n, a, h⟩
  unfold lim
  rw [dif_pos ex]
  obtain ⟨b, hb⟩ := Classical.choose_spec ex
  have h1 := up _ (Classical.choose ex) a h
  have h2 := up _ n b hb
  rw [Nat.add_comm] at h2
  rw [h1] at h2
  rw [hb, Option.some.inj h2]

/-! ### while -/
def fWhileN (t : TM) (f : SM) : Nat → SM
  | 0 => fun _ _ => none
  | n + 1 => fun ρ S => sbd (t ρ S) ρ fun b S1 => if b = true then
      (match f ρ S1 with
      | none => none
      | some (.nx ρ2, S2) => fWhileN t f n ρ2 S2
      | some (.ct ρ2, S2) => fWhileN t f n ρ2 S2
      | some (.bk ρ2, S2) => some (.nx ρ2, S2)
      | some (.rt d, S2) => some (.rt d, S2)
      | some (.ex e ρ2, S2) => some (.ex e ρ2, S2))
    else some (.nx ρ, S1)
noncomputable def fWhile (t : TM) (f : SM) : SM := fun ρ S => lim fun n => fWhileN t f n ρ S
section
variable {X : Cx} {EX : WX} {body : List Stmt} {f : SM} {e c : Expr} {g : EM} {t : TM} {pos : Pos}
theorem ds_while (hp0 : PassesOwn (model X.prog X.w) X.A X.env X.xe) (hc : DT X EX c t) (hb : DSs X EX body f) : DS X EX (.While c body [] pos) (fWhile t f) := by
  obtain ⟨tc, pc, ec⟩ := hc.ev
  obtain ⟨tb, pb, eb⟩ := hb.ev
  refine ⟨_, ps_while hp0 pc pb, ⟨fun W σ H S ρ D fl S' fr ho hf hp => ?_⟩⟩
  obtain ⟨n, hn⟩ := lim_some hf
  refine ⟨fun m σ H => ∃ W1 ρ S, Wle W W1 ∧ Fr X.K X.mg W1 ρ σ ∧ Hold X.K X.mg W1 S H ∧ fWhileN t f m ρ S = some (fl, S'), ⟨n, W, ρ, S, Wle.refl W, fr, ho, hn⟩, ?_⟩
  rintro m σ H ⟨W1, ρ, S, w1, fr, ho, hn⟩
  cases m with
  | zero => cases hn
  | succ m =>
    refine ec.sbd (D := D) fr ho hn (hp.mono w1) fun a b S2 H2 W2 w2 ho2 r2 hk => ?_
    cases r2
    cases a with
    | false =>
      rw [if_neg (by decide)] at hk ⊢
      cases hk
      exact hp σ H2 W2 (w1.trans w2) ho2 (fr.mono w2)
    | true =>
      rw [if_pos rfl] at hk ⊢
      have hk : (match f ρ S2 with
        | none => none
        | some (.nx ρ2, S2) => fWhileN t f m ρ2 S2
        | some (.ct ρ2, S2) => fWhileN t f m ρ2 S2
        | some (.bk ρ2, S2) => some (.nx ρ2, S2)
        | some (.rt d, S2) => some (.rt d, S2)
        | some (.ex e ρ2, S2) => some (.ex e ρ2, S2)) = some (fl, S') := hk
      refine ⟨fun σ' H' => ∃ W1 ρ S, Wle W W1 ∧ Fr X.K X.mg W1 ρ σ' ∧ Hold X.K X.mg W1 S H' ∧ fWhileN t f m ρ S = some (fl, S'), fun σ' H' h => ⟨m, Nat.lt_succ_self m, h⟩, ?_⟩
      have w12 := w1.trans w2
      cases ef : f ρ S2 with
      | none => rw [ef] at hk; cases hk
      | some r =>
        obtain ⟨fl3, S3⟩ := r
        rw [ef] at hk
        refine eb.run W2 σ H2 S2 ρ _ fl3 S3 (fr.mono w2) ho2 ef ?_
        cases fl3 with
        | nx ρ3 => exact fun σ' H' W' w' ho' fr' => ⟨W', ρ3, S3, w12.trans w', fr', ho', hk⟩
        | ct ρ3 => exact fun σ' H' W' w' ho' fr' => ⟨W', ρ3, S3, w12.trans w', fr', ho', hk⟩
        | bk ρ3 => cases hk; exact fun σ' H' W' w' ho' fr' => hp σ' H' W' (w12.trans w') ho' fr'
        | rt d => cases hk; exact fun v H' W' w' ho' r' => hp v H' W' (w12.trans w') ho' r'
        | ex x ρ3 => cases hk; exact fun cls dd σ' H' W' w' ho' fr' xr => hp cls dd σ' H' W' (w12.trans w') ho' fr' xr
end
theorem fWhileN_mono (t : TM) (f : SM) : ∀ n ρ S a, fWhileN t f n ρ S = some a → fWhileN t f (n + 1) ρ S = some a
  | 0, _, _, _, h => by cases h
  | n + 1, ρ, S, a, h => by
    unfold fWhileN at h ⊢
    cases e : t ρ S with
    | none => rw [e] at h; cases h
    | some p =>
      obtain ⟨r, S1⟩ := p
      cases r with
      | ex x => rw [e] at h; exact h
      | ok b =>
        rw [e, sbd_ok] at h
        rw [sbd_ok]
        cases b with
        | false => exact h
        | true =>
          rw [if_pos rfl] at h ⊢
          cases ef : f ρ S1 with
          | none => rw [ef] at h; cases h
          | some r =>
            obtain ⟨fl3, S3⟩ := r
            rw [ef] at h
            cases fl3 with
            | nx ρ3 => exact fWhileN_mono t f n _ _ _ h
            | ct ρ3 => exact fWhileN_mono t f n _ _ _ h
            | bk ρ3 => exact h
            | rt d => exact h
            | ex x ρ3 => exact h
theorem fWhile_of {t : TM} {f : SM} {n : Nat} {ρ : Env} {S : Store} {a : Fl × Store} (h : fWhileN t f n ρ S = some a) : fWhile t f ρ S = some a := lim_of (fun n a => fWhileN_mono t f n ρ S a) h
/-- a turn of a while -/
theorem fWhile_step {t : TM} {f : SM} {ρ ρ2 : Env} {S S1 S2 : Store} (h1 : t ρ S = some (.ok true, S1)) (h2 : f ρ S1 = some (.nx ρ2, S2)) : fWhile t f ρ S = fWhile t f ρ2 S2 := by
  have e : ∀ n, fWhileN t f (n + 1) ρ S = fWhileN t f n ρ2 S2 := fun n => by
    show sbd (t ρ S) ρ _ = _
    rw [h1, sbd_ok, if_pos rfl, h2]
  cases q : fWhile t f ρ2 S2 with
  | some a =>
    obtain ⟨n, hn⟩ := lim_some q
    exact fWhile_of (n := n + 1) ((e n).trans hn)
  | none =>
    cases q' : fWhile t f ρ S with
    | none => rfl
    | some a =>
      obtain ⟨n, hn⟩ := lim_some q'
      have h3 := fWhileN_mono t f n _ _ _ hn
      rw [e] at h3
      rw [fWhile_of h3] at q
      cases q
theorem fWhile_end {t : TM} {f : SM} {ρ : Env} {S S1 : Store} (h1 : t ρ S = some (.ok false, S1)) : fWhile t f ρ S = some (.nx ρ, S1) := by
  refine fWhile_of (n := 1) ?_
  show sbd (t ρ S) ρ _ = _
  rw [h1, sbd_ok, if_neg (by decide)]
theorem fWhile_ret {t : TM} {f : SM} {ρ : Env} {S S1 S2 : Store} {d : D} (h1 : t ρ S = some (.ok true, S1)) (h2 : f ρ S1 = some (.rt d, S2)) : fWhile t f ρ S = some (.rt d, S2) := by
  refine fWhile_of (n := 1) ?_
  show sbd (t ρ S) ρ _ = _
  rw [h1, sbd_ok, if_pos rfl, h2]
end Dm
set_option linter.all false
set_option maxRecDepth 100000
set_option maxHeartbeats 2000000
namespace Dm
open PySem L2 PySem.W PyProof.Rows PySem.Calls

/-! ### targets that are names, tuples of names, with a star -/
def setA {α : Type} : List (Option α) → List Nat → List α → List (Option α)
  | σ, [], _ => σ
  | σ, _ :: _, [] => σ
  | σ, n :: ns, v :: vs => setA (σ.set n (some v)) ns vs
theorem setA_app {α : Type} : ∀ {ns ms : List Nat} {vs us : List α} {σ : List (Option α)}, vs.length = ns.length → setA σ (ns ++ ms) (vs ++ us) = setA (setA σ ns vs) ms us
  | [], ms, [], us, σ, _ => by cases ms <;> cases us <;> rfl
  | n :: ns, ms, v :: vs, us, σ, h => setA_app (ns := ns) (vs := vs) (σ := σ.set n (some v)) (Nat.succ.inj h)
theorem Fr.setA {K : PySem.W.Frag} {mg : Str → Option Value} {W : Wd} : ∀ {ns : List Nat} {ds : List D} {vs : List V} {ρ : Env} {σ : L2.St}, Fr K mg W ρ σ → RepL K mg W ds vs → Fr K mg W (Dm.setA ρ ns ds) (Dm.setA σ ns vs)
  | [], _, _, _, _, h, _ => h
  | _ :: _, _, _, _, _, h, .nil => h
  | n :: ns, _, _, ρ, σ, h, .cons (d := d) (v := v) r rr => Fr.setA (ns := ns) (ρ := ρ.set n (some d)) (σ := σ.set n (some v)) (h.set r) rr
structure DGn (X : Cx) (tg : Expr) (ns : List Nat) (f : D → Store → Option (List D × Store)) : Prop where
  ev : ∃ t, PG X tg t ∧ ∀ W σ H S d v ds S' Q, Hold X.K X.mg W S H → Rep X.K X.mg W d v → f d S = some (ds, S') →
    (∀ vs H' W', Wle W W' → Hold X.K X.mg W' S' H' → RepL X.K X.mg W' ds vs → Q (setA σ ns vs) H') → t v σ H Q
  len : ∀ d S ds S', f d S = some (ds, S') → ds.length = ns.length
structure DGns (X : Cx) (tgs : List Expr) (ns : List Nat) (f : List D → Store → Option (List D × Store)) : Prop where
  ev : ∃ t, PGs X tgs t ∧ ∀ W σ H S d v ds S' Q, Hold X.K X.mg W S H → RepL X.K X.mg W d v → f d S = some (ds, S') →
    (∀ vs H' W', Wle W W' → Hold X.K X.mg W' S' H' → RepL X.K X.mg W' ds vs → Q (setA σ ns vs) H') → t v σ H Q
  len : ∀ d S ds S', f d S = some (ds, S') → ds.length = ns.length
section
variable {X : Cx} {pos p2 : Pos} {tg : Expr} {es : List Expr} {ns ms : List Nat} {f : D → Store → Option (List D × Store)} {g : List D → Store → Option (List D × Store)}
def tgN : D → Store → Option (List D × Store) := fun d S => some ([d], S)
theorem dgn_name (i : Nat) {x : Str} (hN : X.N.Nodup) (hi : X.N[i]? = some x := by rfl) (hx : Loc X.env.scope x := by first | exact Or.inl rfl | exact Or.inr rfl) (hf : X.fn x = true ∨ X.env.scope.names.lookup x = some .local := by first | exact .inl rfl | exact .inr rfl) : DGn X (.Name x pos) [i] tgN := by
  refine ⟨⟨_, pg_name hN hi hx hf, fun W σ H S d v ds S' Q ho r hf hq => ?_⟩, fun d S ds S' h => ?_⟩
  · cases hf
    exact hq [v] H W (Wle.refl W) ho (.one r)
  · cases h; rfl
def tgNil : List D → Store → Option (List D × Store) := fun ds S => if ds.isEmpty = true then some ([], S) else none
theorem dgns_nil : DGns X [] [] tgNil := by
  refine ⟨⟨_, pgs_nil, fun W σ H S d v ds S' Q ho r hf hq => ?_⟩, fun d S ds S' h => ?_⟩
  · unfold tgNil at hf
    split at hf
    · rename_i e
      cases hf
      cases r with
      | nil => exact ⟨rfl, hq [] H W (Wle.refl W) ho .nil⟩
      | cons _ _ => cases e
    · cases hf
  · unfold tgNil at h
    split at h
    · cases h; rfl
    · cases h
def tgCons (f : D → Store → Option (List D × Store)) (g : List D → Store → Option (List D × Store)) : List D → Store → Option (List D × Store)
  | d :: r, S => (match f d S with
    | none => none
    | some (ds, S1) => match g r S1 with
      | none => none
      | some (es, S2) => some (ds ++ es, S2))
  | [], _ => none
theorem tgCons_ok {f : D → Store → Option (List D × Store)} {g : List D → Store → Option (List D × Store)} {dd : List D} {S S' : Store} {ds : List D} (h : tgCons f g dd S = some (ds, S')) :
    ∃ d r d1 S1 d2, dd = d :: r ∧ f d S = some (d1, S1) ∧ g r S1 = some (d2, S') ∧ ds = d1 ++ d2 := by
  cases dd with
  | nil => cases h
  | cons d r =>
    have h : (match f d S with
      | none => none
      | some (ds, S1) => match g r S1 with
        | none => none
        | some (es, S2) => some (ds ++ es, S2)) = some (ds, S') := h
    cases e1 : f d S with
    | none => rw [e1] at h; cases h
    | some p =>
      obtain ⟨d1, S1⟩ := p
      rw [e1] at h
      have h : (match g r S1 with
        | none => none
        | some (es, S2) => some (d1 ++ es, S2)) = some (ds, S') := h
      cases e2 : g r S1 with
      | none => rw [e2] at h; cases h
      | some p =>
        obtain ⟨d2, S2⟩ := p
        rw [e2] at h
        cases h
        exact ⟨d, r, d1, S1, d2, rfl, e1, e2, rfl⟩
theorem cons_run {t : TG} {u : TGs} {K : PySem.W.Frag} {mg : Str → Option Value} {ns ms : List Nat} (hl : ∀ d S ds S', f d S = some (ds, S') → ds.length = ns.length)
    (ht : ∀ W σ H S d v ds S' Q, Hold K mg W S H → Rep K mg W d v → f d S = some (ds, S') → (∀ vs H' W', Wle W W' → Hold K mg W' S' H' → RepL K mg W' ds vs → Q (setA σ ns vs) H') → t v σ H Q)
    (hu : ∀ W σ H S d v ds S' Q, Hold K mg W S H → RepL K mg W d v → g d S = some (ds, S') → (∀ vs H' W', Wle W W' → Hold K mg W' S' H' → RepL K mg W' ds vs → Q (setA σ ms vs) H') → u v σ H Q) :
    ∀ W σ H S d v ds S' Q, Hold K mg W S H → RepL K mg W d v → tgCons f g d S = some (ds, S') → (∀ vs H' W', Wle W W' → Hold K mg W' S' H' → RepL K mg W' ds vs → Q (setA σ (ns ++ ms) vs) H') → gCons t u v σ H Q := by
  intro W σ H S d v ds S' Q ho r hf hq
  obtain ⟨d0, dr, d1, S1, d2, e, e1, e2, e3⟩ := tgCons_ok hf
  subst e
  subst e3
  cases r with
  | @cons _ _ v0 vr r rr =>
    refine ⟨v0, vr, rfl, ht W σ H S d0 v0 d1 S1 _ ho r e1 fun vs1 H1 W1 w1 ho1 r1 => ?_⟩
    refine hu W1 _ H1 S1 dr vr d2 S' _ ho1 (rr.mono w1) e2 fun vs2 H2 W2 w2 ho2 r2 => ?_
    rw [← setA_app (by rw [← r1.length]; exact hl _ _ _ _ e1)]
    exact hq _ H2 W2 (w1.trans w2) ho2 ((r1.mono w2).append r2)
theorem cons_len (hl : ∀ d S ds S', f d S = some (ds, S') → ds.length = ns.length) (hr : ∀ d S ds S', g d S = some (ds, S') → ds.length = ms.length) : ∀ d S ds S', tgCons f g d S = some (ds, S') → ds.length = (ns ++ ms).length := by
  intro d S ds S' h
  obtain ⟨d0, dr, d1, S1, d2, e, e1, e2, e3⟩ := tgCons_ok h
  subst e3
  rw [List.length_append, List.length_append, hl _ _ _ _ e1, hr _ _ _ _ e2]
theorem dgns_cons (h : DGn X tg ns f) (hr : DGns X es ms g) (hs : (assignEach (tg :: es) X.env).map (·.2) = assign tg X.env :: (assignEach es X.env).map (·.2) := by rfl) : DGns X (tg :: es) (ns ++ ms) (tgCons f g) := by
  obtain ⟨t, pt, et⟩ := h.ev
  obtain ⟨u, pu, eu⟩ := hr.ev
  exact ⟨⟨_, pgs_cons pt pu hs, cons_run h.len et eu⟩, cons_len h.len hr.len⟩
theorem dgns_star (h : DGn X tg ns f) (hr : DGns X es ms g) (hs : (assignEach (.Starred tg p2 :: es) X.env).map (·.2) = assign tg X.env :: (assignEach es X.env).map (·.2) := by rfl) : DGns X (.Starred tg p2 :: es) (ns ++ ms) (tgCons f g) := by
  obtain ⟨t, pt, et⟩ := h.ev
  obtain ⟨u, pu, eu⟩ := hr.ev
  exact ⟨⟨_, pgs_star pt pu hs, cons_run h.len et eu⟩, cons_len h.len hr.len⟩
/-- (a, b) = a list or a tuple -/
def tgTup (n : Nat) (g : List D → Store → Option (List D × Store)) : D → Store → Option (List D × Store) := fun d S => match sqA S d with
  | some xs => if xs.length = n then g xs S else none
  | none => none
theorem pg_or {t t' : TG} (h : PG X tg t) (h' : PG X tg t') : PG X tg (fun v σ H Q => t v σ H Q ∨ t' v σ H Q) := ⟨fun pins s σ H v u Q I r hw => hw.elim (h.run pins s σ H v u Q I r) (h'.run pins s σ H v u Q I r)⟩
theorem dgn_tup {k : Nat} (n : Nat) (hc : X.calm = true) (h : DGns X es ns g) (hn : (assignEach es X.env).length = n := by rfl) (hst : (assignEach es X.env).findIdx? (·.1) = none := by rfl) : DGn X (.Tuple es k pos) ns (tgTup n g) := by
  obtain ⟨t, pt, et⟩ := h.ev
  refine ⟨⟨_, pg_or (pg_unl hc pt hn hst) (pg_tup hc pt hn hst), fun W σ H S d v ds S' Q ho r hf hq => ?_⟩, fun d S ds S' hf => ?_⟩
  · unfold tgTup at hf
    cases e : sqA S d with
    | none => rw [e] at hf; cases hf
    | some xs =>
      rw [e] at hf
      have hf : (if xs.length = n then g xs S else none) = some (ds, S') := hf
      split at hf
      · rename_i hl
        obtain ⟨a, vs, ev, hs, rl, hz⟩ := sqA_ok ho r e
        rcases hs with hs | hs
        · exact .inl ⟨a, vs, ev, hs, by rw [← rl.length]; exact hl, et W σ H S xs vs ds S' Q ho rl hf hq⟩
        · exact .inr ⟨a, vs, ev, hs, by rw [← rl.length]; exact hl, et W σ H S xs vs ds S' Q ho rl hf hq⟩
      · cases hf
  · unfold tgTup at hf
    cases e : sqA S d with
    | none => rw [e] at hf; cases hf
    | some xs =>
      rw [e] at hf
      have hf : (if xs.length = n then g xs S else none) = some (ds, S') := hf
      split at hf
      · exact h.len _ _ _ _ hf
      · cases hf
/-- a, *b = .. -/
def tgStar (bx : Bool) (n i : Nat) (g : List D → Store → Option (List D × Store)) : D → Store → Option (List D × Store) := fun d S => match sqA S d with
  | some xs => if n ≤ xs.length + 1 then g (xs.take i ++ [(mkL bx ((xs.drop i).take (xs.length + 1 - n)) S).1] ++ (xs.drop i).drop (xs.length + 1 - n)) (mkL bx ((xs.drop i).take (xs.length + 1 - n)) S).2 else none
  | none => none
theorem dgn_star (bx : Bool) {k : Nat} (n i : Nat) (hc : X.calm = true) (h : DGns X es ns g) (hi : i < n := by decide) (hn : (assignEach es X.env).length = n := by rfl) (hst : (assignEach es X.env).findIdx? (·.1) = some i := by rfl) : DGn X (.Tuple es k pos) ns (tgStar bx n i g) := by
  obtain ⟨t, pt, et⟩ := h.ev
  refine ⟨⟨_, pg_star hc pt hi hn hst, fun W σ H S d v ds S' Q ho r hf hq => ?_⟩, fun d S ds S' hf => ?_⟩
  · unfold tgStar at hf
    cases e : sqA S d with
    | none => rw [e] at hf; cases hf
    | some xs =>
      rw [e] at hf
      simp only at hf
      split at hf
      · rename_i hl
        obtain ⟨a, vs, ev, hs, rl, hz⟩ := sqA_ok ho r e
        have hlen := rl.length
        refine ⟨a, vs, ev, hs, by rw [← hlen]; exact hl, fun p np => ?_⟩
        have rm : RepL X.K X.mg W ((xs.drop i).take (xs.length + 1 - n)) ((vs.drop i).take (vs.length + 1 - n)) := by rw [← hlen]; exact (rl.drop i).take _
        obtain ⟨W1, w1, ho1, r1⟩ := ho.newL np (by rw [List.length_take, List.length_drop]; omega) rm bx
        refine et W1 σ _ _ _ _ ds S' Q ho1 ?_ hf fun vs' H' W' w' ho' r' => hq vs' H' W' (w1.trans w') ho' r'
        have rl' := rl.mono w1
        rw [← hlen]
        exact ((rl'.take i).append (.one r1)).append ((rl'.drop i).drop _)
      · cases hf
  · unfold tgStar at hf
    cases e : sqA S d with
    | none => rw [e] at hf; cases hf
    | some xs =>
      rw [e] at hf
      simp only at hf
      split at hf
      · exact h.len _ _ _ _ hf
      · cases hf
end

/-! ### any target -/
abbrev TGM := D → Env → M Env
abbrev RFr (X : Cx) : Wd → Env → L2.St → Prop := Fr X.K X.mg
structure DG (X : Cx) (EX : WX) (tg : Expr) (f : TGM) : Prop where
  ev : ∃ t, PG X tg t ∧ ∀ W σ H S ρ d v Q r S', Fr X.K X.mg W ρ σ → Hold X.K X.mg W S H → Rep X.K X.mg W d v → f d ρ S = some (r, S') → Post X.K X.mg EX (RFr X) W σ Q r S' → t v σ H Q
section
variable {X : Cx} {EX : WX} {pos p2 : Pos} {tg o i e : Expr} {ns ms : List Nat} {f : D → Store → Option (List D × Store)} {go gi g : EM}
def gPat (ns : List Nat) (f : D → Store → Option (List D × Store)) : TGM := fun d ρ S => match f d S with
  | some (ds, S') => some (.ok (setA ρ ns ds), S')
  | none => none
theorem dg_pat (h : DGn X tg ns f) : DG X EX tg (gPat ns f) := by
  obtain ⟨t, pt, et⟩ := h.ev
  refine ⟨t, pt, fun W σ H S ρ d v Q r S' fr ho rd hf hp => ?_⟩
  unfold gPat at hf
  cases e : f d S with
  | none => rw [e] at hf; cases hf
  | some p =>
    obtain ⟨ds, S1⟩ := p
    rw [e] at hf
    cases hf
    exact et W σ H S d v ds _ Q ho rd e fun vs H' W' w' ho' rl => hp _ H' W' w' ho' ((fr.mono w').setA rl)
/-- o[i] = v -/
def oSet (S : Store) (o i v : D) : Option Store := match o, i with
  | .box j, .int k => (match S[j]? with
    | some (.lst xs) => (match ixN xs.length k with
      | some n => some (S.set j (.lst (xs.set n v)))
      | none => none)
    | _ => dset S o i v)
  | _, _ => dset S o i v
def rSet (X : Cx) : TSet := fun o i v H Q => rSetL o i v H Q ∨ rSetD o i v H Q
theorem pset_any (hu : X.A.units + 1 < cLine) : PSet X (rSet X) := fun pins s σ H o i v ov iv u Q I ro ri rv h => h.elim (set_list pins s σ H o i v ov iv u Q I ro ri rv) (set_dict hu pins s σ H o i v ov iv u Q I ro ri rv)
theorem oSet_ok {K : PySem.W.Frag} {mg : Str → Option Value} {W : Wd} {S S' : Store} {H : Hp} {o i v : D} {vo vi vv : V} {Q : Hp → Prop} (ho : Hold K mg W S H) (r1 : Rep K mg W o vo) (r2 : Rep K mg W i vi) (r3 : Rep K mg W v vv) (h : oSet S o i v = some S')
    (hq : ∀ H' W', Wle W W' → Hold K mg W' S' H' → Q H') : rSetL vo vi vv H Q ∨ rSetD vo vi vv H Q := by
  have dic : dset S o i v = some S' → rSetL vo vi vv H Q ∨ rSetD vo vi vv H Q := fun h => by
    obtain ⟨a, H', e1, e2, e3⟩ := dset_ok ho r1 r2 r3 h
    exact .inr ⟨a, H', e1, e2, hq H' W (Wle.refl W) e3⟩
  unfold oSet at h
  split at h
  · rename_i j k
    cases hc : S[j]? with
    | none => rw [hc] at h; exact dic h
    | some c =>
      rw [hc] at h
      cases c with
      | lst xs =>
        simp only at h
        cases hn : ixN xs.length k with
        | none => rw [hn] at h; cases h
        | some n =>
          rw [hn] at h
          cases h
          cases r1 with
          | box ha =>
            cases r2
            obtain ⟨z, vs, hh, rl⟩ := ho.cell ha hc
            have hl := rl.length
            refine .inl ⟨_, vs, k, n, rfl, rfl, hh, by rw [← hl]; exact hn, hq _ W (Wle.refl W) (ho.written ha hc (by intro z; cases z) ⟨by rw [List.length_set]; exact z, _, upd_same, rl.set r3 n⟩)⟩
      | ro xs => exact dic h
      | dic kd lk kvs => exact dic h
      | ins c fs => exact dic h
      | dead => exact dic h
  · exact dic h
def gSub (go gi : EM) : TGM := fun v ρ S => bd (go ρ S) fun o S1 => bd (gi ρ S1) fun i S2 => match oSet S2 o i v with
  | some S3 => some (.ok ρ, S3)
  | none => none
theorem dg_sub (hu : X.A.units + 1 < cLine) (ho : DE X EX o go) (hi : DE X EX i gi)
    (ha : ∀ v, assign (.Subscript o i pos) X.env v = (do
      let ov ← holding [v] (eval o X.env)
      let iv ← holding [v, ov] (eval i X.env)
      standAt pos
      holding [v, ov, iv] (setItem ov iv v)
      release [v, ov, iv] []) := by intro _; rfl) : DG X EX (.Subscript o i pos) (gSub go gi) := by
  obtain ⟨ta, pa, ea⟩ := ho.ev
  obtain ⟨tb, pb, eb⟩ := hi.ev
  refine ⟨_, pg_sub pa pb (pset_any hu) ha, fun W σ H S ρ d v Q r S' fr hh rd hf hp => ?_⟩
  refine ea.bd fr hh hf hp.exn fun x vx S1 H1 W1 w1 ho1 rx hg1 => ?_
  refine eb.bd (fr.mono w1) ho1 hg1 (hp.mono w1).exn fun y vy S2 H2 W2 w2 ho2 ry hg2 => ?_
  have hg2 : (match oSet S2 x y d with
    | some S3 => some (Rs.ok ρ, S3)
    | none => none) = some (r, S') := hg2
  cases e : oSet S2 x y d with
  | none => rw [e] at hg2; cases hg2
  | some S3 =>
    rw [e] at hg2
    cases hg2
    exact oSet_ok ho2 (rx.mono w2) ry (rd.mono (w1.trans w2)) e fun H' W' w' ho' => hp σ H' W' ((w1.trans w2).trans w') ho' (fr.mono ((w1.trans w2).trans w'))
/-- t = e -/
def fAsg (g : EM) (f : TGM) : SM := fun ρ S => sbd (g ρ S) ρ fun d S1 => sbd (f d ρ S1) ρ fun ρ' S2 => some (.nx ρ', S2)
theorem asg_run {te : TE} {tt : TG} {f : TGM} (ee : Ev X.K X.mg EX (RD X) te g) (et : ∀ W σ H S ρ d v Q r S', Fr X.K X.mg W ρ σ → Hold X.K X.mg W S H → Rep X.K X.mg W d v → f d ρ S = some (r, S') → Post X.K X.mg EX (RFr X) W σ Q r S' → tt v σ H Q) :
    EvS X.K X.mg EX (tAsg te tt) (fAsg g f) := by
  refine ⟨fun W σ H S ρ D fl S' fr ho hf hp => ?_⟩
  refine ee.sbd fr ho hf hp fun d v S1 H1 W1 w1 ho1 rd hk => ?_
  cases ef : f d ρ S1 with
  | none => rw [ef] at hk; cases hk
  | some p =>
    obtain ⟨r, S2⟩ := p
    rw [ef] at hk
    refine et W1 σ H1 S1 ρ d v D.nx r S2 (fr.mono w1) ho1 rd ef ?_
    cases r with
    | ok ρ2 =>
      cases hk
      exact fun σ' H' W' w' ho' fr' => hp σ' H' W' (w1.trans w') ho' fr'
    | ex x =>
      cases hk
      exact fun cls dd H' W' w' ho' xr => hp cls dd σ H' W' (w1.trans w') ho' (fr.mono (w1.trans w')) xr
theorem ds_asg {f : TGM} (he : DE X EX e g) (hg : DG X EX tg f) (hs : swapsWithSole [tg] e pos.line X.env = pure false := by rfl) (hw : swappedStores [tg] e X.env = pure none := by rfl)
    (h1 : (assignEach [tg] X.env).map (·.2) = [assign tg X.env] := by rfl) : DS X EX (.Assign [tg] e pos) (fAsg g f) := by
  obtain ⟨te, pe, ee⟩ := he.ev
  obtain ⟨tt, pt, et⟩ := hg.ev
  exact ⟨_, ps_asg pe pt hs hw h1, asg_run ee et⟩
/-- name = e -/
def fSet (i : Nat) (g : EM) : SM := fun ρ S => sbd (g ρ S) ρ fun d S1 => some (.nx (ρ.set i (some d)), S1)
theorem ds_set (i : Nat) {x : Str} {pos' : Pos} (hN : X.N.Nodup) (he : DE X EX e g) (hi : X.N[i]? = some x := by rfl) (hx : Loc X.env.scope x := by first | exact Or.inl rfl | exact Or.inr rfl) (hs : swapsWith e (some (.Name x pos')) pos.line X.env = pure false := by rfl)
    (hf : X.fn x = true ∨ X.env.scope.names.lookup x = some .local := by first | exact .inl rfl | exact .inr rfl) : DS X EX (.Assign [.Name x pos'] e pos) (fSet i g) := by
  obtain ⟨te, pe, ee⟩ := he.ev
  refine ⟨_, ps_set hN hi hx pe hs hf, ⟨fun W σ H S ρ D fl S' fr ho hf hp => ?_⟩⟩
  refine ee.sbd fr ho hf hp fun d v S1 H1 W1 w1 ho1 rd hk => ?_
  cases hk
  exact hp _ H1 W1 w1 ho1 ((fr.mono w1).set rd)
/-- a, b = x, y of two locals -/
def fPar (i j : Nat) (h : AM) : SM := fun ρ S => sbd (h ρ S) ρ fun ds S1 => match ds with
  | [x, y] => some (.nx ((ρ.set i (some x)).set j (some y)), S1)
  | _ => none
theorem ds_par (i j : Nat) {x y : Str} {a b : Expr} {h : AM} {px py pt : Pos} {kt k2 pt2} (hc : X.calm = true) (hN : X.N.Nodup) (ha : DA X EX [a, b] h)
    (hw : swappedStores [.Tuple [.Name x px, .Name y py] kt pt] (.Tuple [a, b] k2 pt2) X.env = pure (some [x, y])) (hi : X.N[i]? = some x := by rfl) (hj : X.N[j]? = some y := by rfl) (hij : i ≠ j := by decide)
    (hx : X.env.scope.names.lookup x = some .local := by rfl) (hy : X.env.scope.names.lookup y = some .local := by rfl)
    (hs : swapsWithSole [.Tuple [.Name x px, .Name y py] kt pt] (.Tuple [a, b] k2 pt2) pos.line X.env = pure false := by rfl) :
    DS X EX (.Assign [.Tuple [.Name x px, .Name y py] kt pt] (.Tuple [a, b] k2 pt2) pos) (fPar i j h) := by
  obtain ⟨ta, pa, ea⟩ := ha.ev
  refine ⟨_, ps_par hc hN hi hj hij hx hy pa hw hs, ⟨fun W σ H S ρ D fl S' fr ho hf hp => ?_⟩⟩
  refine ea.sbd fr ho hf hp fun ds vs S1 H1 W1 w1 ho1 rl hk => ?_
  cases rl with
  | nil => cases hk
  | cons r1 rl =>
    cases rl with
    | nil => cases hk
    | cons r2 rl =>
      cases rl with
      | nil =>
        cases hk
        exact ⟨_, _, rfl, hp _ H1 W1 w1 ho1 (((fr.mono w1).set r1).set r2)⟩
      | cons _ _ => cases hk
/-- name op= e -/
def ipS : D → D → Store → Option (D × Store) := fun _ _ _ => none
def fAug (i : Nat) (op : D → D → Store → Option (D × Store)) (g : EM) : SM := fun ρ S => match ρ[i]? with
  | some (some x) => sbd (g ρ S) ρ fun y S1 => (match op x y S1 with
    | some (z, S2) => some (.nx (ρ.set i (some z)), S2)
    | none => none)
  | _ => none
/-- an augmented operator on values does what op says -/
def IpO (X : Cx) (t : TIp) (op : D → D → Store → Option (D × Store)) : Prop := Op2 X t op
theorem ipo_add : IpO X (ipI fun i j => i + j) (oI0 fun i j => i + j) := by
  intro W H S x y d1 d2 Q d S' ho r1 r2 hg hq
  cases d1 with
  | int i =>
    cases d2 with
    | int j =>
      cases hg
      cases r1
      cases r2
      exact ⟨i, j, rfl, rfl, hq _ H W (Wle.refl W) ho .int⟩
    | _ => cases hg
  | _ => cases hg
theorem ipo_sub : IpO X (ipI fun i j => i - j) (oI0 fun i j => i - j) := by
  intro W H S x y d1 d2 Q d S' ho r1 r2 hg hq
  cases d1 with
  | int i =>
    cases d2 with
    | int j =>
      cases hg
      cases r1
      cases r2
      exact ⟨i, j, rfl, rfl, hq _ H W (Wle.refl W) ho .int⟩
    | _ => cases hg
  | _ => cases hg
theorem ds_aug (i : Nat) {x : Str} {op : Operator} {ti : TIp} {oo : D → D → Store → Option (D × Store)} {pos' : Pos} (hN : X.N.Nodup) (he : DE X EX e g) (hp0 : PIp X op ti) (hop : IpO X ti oo) (hi : X.N[i]? = some x := by rfl) (hx : Loc X.env.scope x := by first | exact Or.inl rfl | exact Or.inr rfl)
    (hf : X.fn x = true ∨ X.env.scope.names.lookup x = some .local := by first | exact .inl rfl | exact .inr rfl) : DS X EX (.AugAssign (.Name x pos') op e pos) (fAug i oo g) := by
  obtain ⟨te, pe, ee⟩ := he.ev
  refine ⟨_, ps_aug hN hi hx pe hp0 hf, ⟨fun W σ H S ρ D fl S' fr ho hf hp => ?_⟩⟩
  unfold fAug at hf
  cases q : ρ[i]? with
  | none => rw [q] at hf; cases hf
  | some o =>
    cases o with
    | none => rw [q] at hf; cases hf
    | some d =>
      rw [q] at hf
      obtain ⟨v, h1, h2⟩ := fr.2 i d q
      refine ⟨v, h1, ee.sbd fr ho hf hp fun y u S1 H1 W1 w1 ho1 ry hk => ?_⟩
      have hk : (match oo d y S1 with
        | some (z, S2) => some (Fl.nx (ρ.set i (some z)), S2)
        | none => none) = some (fl, S') := hk
      cases eo : oo d y S1 with
      | none => rw [eo] at hk; cases hk
      | some p =>
        obtain ⟨z, S2⟩ := p
        rw [eo] at hk
        cases hk
        exact hop W1 H1 S1 v u d y _ z _ ho1 (h2.mono w1) ry eo fun zv H2 W2 w2 ho2 rz => hp _ H2 W2 (w1.trans w2) ho2 ((fr.mono (w1.trans w2)).set rz)
end
end Dm
set_option linter.all false
set_option maxRecDepth 100000
set_option maxHeartbeats 2000000
namespace Dm
open PySem L2 PySem.W PyProof.Rows PySem.Calls

/-! ### what is walked -/
abbrev Wk := Nat → Store → Option (Option D)
/-- the walk wk says what the iterator J yields -/
def Srv (K : PySem.W.Frag) (mg : Str → Option Value) (W : Wd) (wk : Wk) (J : It) : Prop :=
  ∀ i S H W1, Wsub W W1 → Hold K mg W1 S H → (wk i S = some none → J.stop i H) ∧
    ∀ d, wk i S = some (some d) → J.go i H ∧ ∀ x H', J.yld i H x H' → ∃ W2, Wle W1 W2 ∧ Hold K mg W2 S H' ∧ Rep K mg W2 d x
abbrev RW (X : Cx) : Wd → Wk → It → Prop := Srv X.K X.mg
structure DI (X : Cx) (EX : WX) (tg iter : Expr) (g : Env → M Wk) : Prop where
  ev : ∃ wi, PI X tg iter wi ∧ Ev X.K X.mg EX (RW X) wi g
/-- items of a list or tuple, as they stand -/
def wkQ (d : D) : Wk := fun i S => (sqA S d).map fun xs => xs[i]?
def wkC (xs : List D) : Wk := fun i _ => some xs[i]?
section
variable {X : Cx} {EX : WX} {tg e : Expr} {g : EM} {h : AM} {pos p : Pos}
theorem pi_or {wi wi' : TI} (h : PI X tg e wi) (h' : PI X tg e wi') : PI X tg e (fun σ H R => wi σ H R ∨ wi' σ H R) := ⟨fun pins s σ H R I hw => hw.elim (h.run pins s σ H R I) (h'.run pins s σ H R I)⟩
def strWk (x : Str) : List D := x.cps.toList.map fun c => D.str ⟨#[c]⟩
/-- over a list, a tuple, a text -/
def gIt (g : EM) : Env → M Wk := fun ρ S => bd (g ρ S) fun d S1 => match d with
  | .str x => some (.ok (wkC (strWk x)), S1)
  | _ => (match sqA S1 d with
    | some _ => some (.ok (wkQ d), S1)
    | none => none)
theorem srv_l {K : PySem.W.Frag} {mg : Str → Option Value} {W : Wd} {d : D} {a : Addr} (r : Rep K mg W d (.ref a)) (hs : sqT d = none) : Srv K mg W (wkQ d) (Itl K a) := by
  have key : ∀ S H W1, Wsub W W1 → Hold K mg W1 S H → ∀ xs, sqA S d = some xs → ∃ vs, SqL K H a vs ∧ RepL K mg W1 xs vs := fun S H W1 w1 ho xs hx => by
    have hx' : sqL S d = some xs := by
      unfold sqA at hx
      cases q : sqL S d with
      | some ys => rw [q] at hx; exact hx
      | none => rw [q] at hx; simp only [hs] at hx; cases hx
    obtain ⟨b, vs, e1, e2, e3, _⟩ := sqL_ok ho (r.monoS w1) hx'
    cases e1
    exact ⟨vs, e2, e3⟩
  refine fun i S H W1 w1 ho => ⟨fun hn => ?_, fun x hx => ?_⟩
  · unfold wkQ at hn
    cases q : sqA S d with
    | none => rw [q] at hn; cases hn
    | some xs =>
      rw [q] at hn
      obtain ⟨vs, e1, e2⟩ := key S H W1 w1 ho xs q
      have hn : some xs[i]? = some none := hn
      have hn := Option.some.inj hn
      exact ⟨vs, e1, by rw [← e2.length]; exact List.getElem?_eq_none_iff.mp hn⟩
  · unfold wkQ at hx
    cases q : sqA S d with
    | none => rw [q] at hx; cases hx
    | some xs =>
      rw [q] at hx
      obtain ⟨vs, e1, e2⟩ := key S H W1 w1 ho xs q
      have hx : some xs[i]? = some (some x) := hx
      have hx := Option.some.inj hx
      obtain ⟨v, e3, e4⟩ := e2.get hx
      refine ⟨⟨vs, v, e1, e3⟩, fun y H' hy => ?_⟩
      obtain ⟨e5, e6⟩ := hy
      subst e5
      have e7 := e6 vs e1
      rw [e3] at e7
      cases e7
      exact ⟨W1, Wle.refl W1, ho, e4⟩
theorem srv_t {K : PySem.W.Frag} {mg : Str → Option Value} {W : Wd} {d : D} {a : Addr} (r : Rep K mg W d (.ref a)) {zs : List D} (hs : sqT d = some zs) : Srv K mg W (wkQ d) (Itt K a) := by
  have hA : ∀ S, sqA S d = some zs := fun S => by
    cases d with
    | tup xs => exact hs
    | wtup xs => exact hs
    | _ => cases hs
  have key : ∀ S H W1, Wsub W W1 → Hold K mg W1 S H → ∃ vs, SqT K H a vs ∧ RepL K mg W1 zs vs := fun S H W1 w1 ho => by
    obtain ⟨b, vs, e1, e2, e3, _⟩ := sqT_ok ho (r.monoS w1) hs
    cases e1
    exact ⟨vs, e2, e3⟩
  refine fun i S H W1 w1 ho => ⟨fun hn => ?_, fun x hx => ?_⟩
  · unfold wkQ at hn
    rw [hA] at hn
    obtain ⟨vs, e1, e2⟩ := key S H W1 w1 ho
    have hn : some zs[i]? = some none := hn
    have hn := Option.some.inj hn
    exact ⟨vs, e1, by rw [← e2.length]; exact List.getElem?_eq_none_iff.mp hn⟩
  · unfold wkQ at hx
    rw [hA] at hx
    obtain ⟨vs, e1, e2⟩ := key S H W1 w1 ho
    have hx : some zs[i]? = some (some x) := hx
    have hx := Option.some.inj hx
    obtain ⟨v, e3, e4⟩ := e2.get hx
    refine ⟨⟨vs, v, e1, e3⟩, fun y H' hy => ?_⟩
    obtain ⟨e5, e6⟩ := hy
    subst e5
    have e7 := e6 vs e1
    rw [e3] at e7
    cases e7
    exact ⟨W1, Wle.refl W1, ho, e4⟩
theorem srv_s {K : PySem.W.Frag} {mg : Str → Option Value} {W : Wd} {x : Str} : Srv K mg W (wkC (strWk x)) (Its x) := by
  refine fun i S H W1 w1 ho => ⟨fun hn => ?_, fun y hy => ?_⟩
  · have hn : some (strWk x)[i]? = some none := hn
    have hn := Option.some.inj hn
    have h := List.getElem?_eq_none_iff.mp hn
    unfold strWk at h
    rw [List.length_map, Array.length_toList] at h
    exact h
  · have hy : some (strWk x)[i]? = some (some y) := hy
    have hy := Option.some.inj hy
    unfold strWk at hy
    rw [List.getElem?_map] at hy
    have hlt : i < x.cps.size := by
      cases q : x.cps.toList[i]? with
      | none => rw [q] at hy; cases hy
      | some c =>
        have := (List.getElem?_eq_some_iff.mp q).1
        simpa using this
    refine ⟨hlt, fun v H' hv => ?_⟩
    obtain ⟨e1, c, e2, e3⟩ := hv
    subst e1
    subst e3
    rw [Array.getElem?_toList, e2] at hy
    cases hy
    exact ⟨W1, Wle.refl W1, ho, .str (by show 1 ≤ sizeLine; decide)⟩
theorem di_seq (he : DE X EX e g) : DI X EX tg e (gIt g) := by
  obtain ⟨te, pe, ee⟩ := he.ev
  refine ⟨_, pi_or (pi_or (pi_list pe) (pi_tup pe)) (pi_str pe), ⟨fun W σ H S ρ Q r S' fr ho hf hp => ?_⟩⟩
  cases eg : g ρ S with
  | none => unfold gIt at hf; rw [eg, bd_none] at hf; cases hf
  | some p =>
    obtain ⟨r1, S1⟩ := p
    cases r1 with
    | ex x =>
      unfold gIt at hf
      rw [eg, bd_ex] at hf
      cases hf
      exact .inl (.inl (ee.run W σ H S ρ _ _ _ fr ho eg (hp.exn x rfl)))
    | ok d =>
      unfold gIt at hf
      rw [eg, bd_ok] at hf
      have seq : ∀ xs, sqA S1 d = some xs → r = .ok (wkQ d) → S' = S1 → (iList X.K te σ H Q ∨ iTup X.K te σ H Q) ∨ iStr te σ H Q := fun xs hx er eS => by
        subst er
        subst eS
        cases ht : sqT d with
        | none =>
          refine .inl (.inl (ee.run W σ H S ρ _ _ _ fr ho eg fun v H1 W1 w1 ho1 rv => ?_))
          obtain ⟨a, vs, e1, e2, e3, _⟩ := sqA_ok ho1 rv hx
          subst e1
          have hl : ∃ xs, SqL X.K H1 a xs := by
            have hx' : sqL S' d = some xs := by
              unfold sqA at hx
              cases q : sqL S' d with
              | some ys => rw [q] at hx; exact hx
              | none => rw [q] at hx; simp only [ht] at hx; cases hx
            obtain ⟨b, us, f1, f2, _⟩ := sqL_ok ho1 rv hx'
            cases f1
            exact ⟨us, f2⟩
          exact ⟨a, rfl, hl, hp (Itl X.K a) H1 W1 w1 ho1 (srv_l rv ht)⟩
        | some zs =>
          refine .inl (.inr (ee.run W σ H S ρ _ _ _ fr ho eg fun v H1 W1 w1 ho1 rv => ?_))
          obtain ⟨a, us, f1, f2, _⟩ := sqT_ok ho1 rv ht
          subst f1
          exact ⟨a, rfl, ⟨us, f2⟩, hp (Itt X.K a) H1 W1 w1 ho1 (srv_t rv ht)⟩
      have gen : (match sqA S1 d with
          | some _ => some (Rs.ok (wkQ d), S1)
          | none => none) = some (r, S') → (iList X.K te σ H Q ∨ iTup X.K te σ H Q) ∨ iStr te σ H Q := fun hf => by
        cases hx : sqA S1 d with
        | none => rw [hx] at hf; cases hf
        | some xs =>
          rw [hx] at hf
          cases hf
          exact seq xs hx rfl rfl
      cases d with
      | str x =>
        cases hf
        refine .inr (ee.run W σ H S ρ _ _ _ fr ho eg fun v H1 W1 w1 ho1 rv => ?_)
        cases rv
        exact ⟨x, rfl, hp (Its x) H1 W1 w1 ho1 srv_s⟩
      | _ => exact gen hf
/-- range -/
def wkR (lo : Int) (n : Nat) : Wk := fun i _ => some (if i < n then some (.int (lo + i)) else none)
theorem srv_r {K : PySem.W.Frag} {mg : Str → Option Value} {W : Wd} {lo : Int} {n : Nat} : Srv K mg W (wkR lo n) (Itr lo n) := by
  refine fun i S H W1 w1 ho => ⟨fun hn => ?_, fun y hy => ?_⟩
  · have hn : some (if i < n then some (D.int (lo + i)) else none) = some none := hn
    have hn := Option.some.inj hn
    split at hn
    · cases hn
    · rename_i q
      exact Nat.le_of_not_lt q
  · have hy : some (if i < n then some (D.int (lo + i)) else none) = some (some y) := hy
    have hy := Option.some.inj hy
    split at hy
    · rename_i q
      cases hy
      refine ⟨q, fun x H' hv => ?_⟩
      obtain ⟨e1, e2⟩ := hv
      subst e1
      subst e2
      exact ⟨W1, Wle.refl W1, ho, .int⟩
    · cases hy
def gRng1 (h : AM) : Env → M Wk := fun ρ S => bd (h ρ S) fun ds S1 => match ds with
  | [.int j] => if -(2 ^ 62) ≤ j ∧ j < 2 ^ 62 then some (.ok (wkR 0 j.toNat), S1) else none
  | _ => none
def gRng2 (h : AM) : Env → M Wk := fun ρ S => bd (h ρ S) fun ds S1 => match ds with
  | [.int i, .int j] => if -(2 ^ 62) ≤ i ∧ i < 2 ^ 62 ∧ -(2 ^ 62) ≤ j ∧ j < 2 ^ 62 then some (.ok (wkR i (j - i).toNat), S1) else none
  | _ => none
theorem di_rng1 {a : Expr} (hm : X.mg "range" = none) (ha : DA X EX [a] h) (hg : Gl X "range" := by rfl) (hs : starEach [a] X.env = [(false, eval a X.env)] := by rfl) : DI X EX tg (.Call (.Name "range" p) [a] [] pos) (gRng1 h) := by
  obtain ⟨te, pe, ee⟩ := ha.ev
  refine ⟨_, pi_range1 hg hm pe hs, ⟨fun W σ H S ρ Q r S' fr ho hf hp => ?_⟩⟩
  refine ee.bd fr ho hf hp.exn fun ds vs S1 H1 W1 w1 ho1 rl hk => ?_
  split at hk
  · rename_i j
    obtain ⟨v, e1, r1⟩ := repL1 rl
    subst e1
    cases r1
    split at hk
    · rename_i q
      cases hk
      exact ⟨j, rfl, q.1, q.2, hp (Itr 0 j.toNat) H1 W1 w1 ho1 srv_r⟩
    · cases hk
  · cases hk
theorem di_rng2 {a b : Expr} (hm : X.mg "range" = none) (ha : DA X EX [a, b] h) (hg : Gl X "range" := by rfl) (hs : starEach [a, b] X.env = [(false, eval a X.env), (false, eval b X.env)] := by rfl) (hs2 : starEach [b] X.env = [(false, eval b X.env)] := by rfl) : DI X EX tg (.Call (.Name "range" p) [a, b] [] pos) (gRng2 h) := by
  obtain ⟨te, pe, ee⟩ := ha.ev
  refine ⟨_, pi_range2 hg hm pe hs hs2, ⟨fun W σ H S ρ Q r S' fr ho hf hp => ?_⟩⟩
  refine ee.bd fr ho hf hp.exn fun ds vs S1 H1 W1 w1 ho1 rl hk => ?_
  split at hk
  · rename_i i j
    obtain ⟨v, u, e1, r1, r2⟩ := repL2 rl
    subst e1
    cases r1
    cases r2
    split at hk
    · rename_i q
      cases hk
      exact ⟨i, j, rfl, q, hp (Itr i (j - i).toNat) H1 W1 w1 ho1 srv_r⟩
    · cases hk
  · cases hk
end

/-! ### for -/
def fForN (wk : Wk) (tg : TGM) (f : SM) : Nat → Nat → SM
  | 0, _ => fun _ _ => none
  | n + 1, i => fun ρ S => match wk i S with
    | none => none
    | some none => some (.nx ρ, S)
    | some (some d) => sbd (tg d ρ S) ρ fun ρ1 S1 =>
      (match f ρ1 S1 with
      | none => none
      | some (.nx ρ2, S2) => fForN wk tg f n (i + 1) ρ2 S2
      | some (.ct ρ2, S2) => fForN wk tg f n (i + 1) ρ2 S2
      | some (.bk ρ2, S2) => some (.nx ρ2, S2)
      | some (.rt d, S2) => some (.rt d, S2)
      | some (.ex e ρ2, S2) => some (.ex e ρ2, S2))
noncomputable def fForW (wk : Wk) (tg : TGM) (f : SM) : SM := fun ρ S => lim fun n => fForN wk tg f n 0 ρ S
noncomputable def fFor (g : Env → M Wk) (tg : TGM) (f : SM) : SM := fun ρ S => sbd (g ρ S) ρ fun wk S1 => fForW wk tg f ρ S1
section
variable {X : Cx} {EX : WX} {tg iter : Expr} {body : List Stmt} {g : Env → M Wk} {ft : TGM} {f : SM} {pos : Pos}
theorem ds_for (hp0 : PassesOwn (model X.prog X.w) X.A X.env X.xe) (hc : X.calm = true) (hi : DI X EX tg iter g) (hg : DG X EX tg ft) (hb : DSs X EX body f)
    (hs : ∀ x, foldedSetIterable iter X.env x = pure x := by intro _; rfl) : DS X EX (.For tg iter body [] pos) (fFor g ft f) := by
  obtain ⟨wi, pi, ei⟩ := hi.ev
  obtain ⟨tt, pt, et⟩ := hg.ev
  obtain ⟨tb, pb, eb⟩ := hb.ev
  refine ⟨_, ps_for hp0 hc pi pt pb hs, ⟨fun W σ H S ρ D fl S' fr ho hf hp => ?_⟩⟩
  refine ei.sbd fr ho hf hp fun wk J S1 H1 W1 w1 ho1 srv hk => ?_
  obtain ⟨n, hn⟩ := lim_some hk
  refine ⟨fun i m σ H => ∃ W2 ρ S, Wle W1 W2 ∧ Fr X.K X.mg W2 ρ σ ∧ Hold X.K X.mg W2 S H ∧ fForN wk ft f m i ρ S = some (fl, S'), ⟨n, W1, ρ, S1, Wle.refl W1, fr.mono w1, ho1, hn⟩, ?_⟩
  rintro i m σ H ⟨W2, ρ, S, w2, fr, ho, hn⟩
  cases m with
  | zero => cases hn
  | succ m =>
    obtain ⟨srv1, srv2⟩ := srv i S H W2 w2.sub ho
    have hn : (match wk i S with
      | none => none
      | some none => some (Fl.nx ρ, S)
      | some (some d) => sbd (ft d ρ S) ρ fun ρ1 S1 =>
        (match f ρ1 S1 with
        | none => none
        | some (.nx ρ2, S2) => fForN wk ft f m (i + 1) ρ2 S2
        | some (.ct ρ2, S2) => fForN wk ft f m (i + 1) ρ2 S2
        | some (.bk ρ2, S2) => some (.nx ρ2, S2)
        | some (.rt d, S2) => some (.rt d, S2)
        | some (.ex e ρ2, S2) => some (.ex e ρ2, S2))) = some (fl, S') := hn
    have w12 := w1.trans w2
    cases ew : wk i S with
    | none => rw [ew] at hn; cases hn
    | some o =>
      cases o with
      | none =>
        rw [ew] at hn
        cases hn
        exact .inl ⟨srv1 ew, hp σ H W2 w12 ho fr⟩
      | some d =>
        rw [ew] at hn
        obtain ⟨go, srv3⟩ := srv2 d ew
        refine .inr ⟨go, fun σ' H' => ∃ W2 ρ S, Wle W1 W2 ∧ Fr X.K X.mg W2 ρ σ' ∧ Hold X.K X.mg W2 S H' ∧ fForN wk ft f m (i + 1) ρ S = some (fl, S'), fun σ' H' h => ⟨m, Nat.lt_succ_self m, h⟩, fun x H3 hy => ?_⟩
        obtain ⟨W3, w3, ho3, rx⟩ := srv3 x H3 hy
        have w13 := w12.trans w3
        have hn : sbd (ft d ρ S) ρ (fun ρ1 S1 =>
          (match f ρ1 S1 with
          | none => none
          | some (.nx ρ2, S2) => fForN wk ft f m (i + 1) ρ2 S2
          | some (.ct ρ2, S2) => fForN wk ft f m (i + 1) ρ2 S2
          | some (.bk ρ2, S2) => some (.nx ρ2, S2)
          | some (.rt d, S2) => some (.rt d, S2)
          | some (.ex e ρ2, S2) => some (.ex e ρ2, S2))) = some (fl, S') := hn
        cases ef : ft d ρ S with
        | none => rw [ef] at hn; cases hn
        | some p =>
          obtain ⟨r4, S4⟩ := p
          rw [ef] at hn
          refine et W3 σ H3 S ρ d x _ r4 S4 (fr.mono w3) ho3 rx ef ?_
          cases r4 with
          | ex xx =>
            cases hn
            exact fun cls dd H' W' w' ho' xr => hp cls dd σ H' W' (w13.trans w') ho' (fr.mono (w3.trans w')) xr
          | ok ρ4 =>
            intro σ4 H4 W4 w4 ho4 fr4
            have hn : (match f ρ4 S4 with
              | none => none
              | some (.nx ρ2, S2) => fForN wk ft f m (i + 1) ρ2 S2
              | some (.ct ρ2, S2) => fForN wk ft f m (i + 1) ρ2 S2
              | some (.bk ρ2, S2) => some (.nx ρ2, S2)
              | some (.rt d, S2) => some (.rt d, S2)
              | some (.ex e ρ2, S2) => some (.ex e ρ2, S2)) = some (fl, S') := hn
            have w14 := w13.trans w4
            have w24 := (w2.trans w3).trans w4
            cases eb4 : f ρ4 S4 with
            | none => rw [eb4] at hn; cases hn
            | some q =>
              obtain ⟨fl5, S5⟩ := q
              rw [eb4] at hn
              refine eb.run W4 σ4 H4 S4 ρ4 _ fl5 S5 fr4 ho4 eb4 ?_
              cases fl5 with
              | nx ρ5 => exact fun σ' H' W' w' ho' fr' => ⟨W', ρ5, S5, w24.trans w', fr', ho', hn⟩
              | ct ρ5 => exact fun σ' H' W' w' ho' fr' => ⟨W', ρ5, S5, w24.trans w', fr', ho', hn⟩
              | bk ρ5 => cases hn; exact fun σ' H' W' w' ho' fr' => hp σ' H' W' (w14.trans w') ho' fr'
              | rt d => cases hn; exact fun v H' W' w' ho' r' => hp v H' W' (w14.trans w') ho' r'
              | ex x ρ5 => cases hn; exact fun cls dd σ' H' W' w' ho' fr' xr => hp cls dd σ' H' W' (w14.trans w') ho' fr' xr
end
theorem fForN_mono (wk : Wk) (tg : TGM) (f : SM) : ∀ n i ρ S a, fForN wk tg f n i ρ S = some a → fForN wk tg f (n + 1) i ρ S = some a
  | 0, _, _, _, _, h => by cases h
  | n + 1, i, ρ, S, a, h => by
    unfold fForN at h ⊢
    cases ew : wk i S with
    | none => rw [ew] at h; cases h
    | some o =>
      rw [ew] at h
      cases o with
      | none => exact h
      | some d =>
        simp only at h ⊢
        cases e : tg d ρ S with
        | none => rw [e] at h; cases h
        | some p =>
          obtain ⟨r, S1⟩ := p
          rw [e] at h
          cases r with
          | ex x => exact h
          | ok b =>
            rw [sbd_ok] at h ⊢
            cases ef : f b S1 with
            | none => rw [ef] at h; cases h
            | some r =>
              obtain ⟨fl3, S3⟩ := r
              rw [ef] at h
              cases fl3 with
              | nx ρ3 => exact fForN_mono wk tg f n _ _ _ _ h
              | ct ρ3 => exact fForN_mono wk tg f n _ _ _ _ h
              | bk ρ3 => exact h
              | rt d => exact h
              | ex x ρ3 => exact h
theorem fForW_of {wk : Wk} {tg : TGM} {f : SM} {n : Nat} {ρ : Env} {S : Store} {a : Fl × Store} (h : fForN wk tg f n 0 ρ S = some a) : fForW wk tg f ρ S = some a := lim_of (fun n a => fForN_mono wk tg f n 0 ρ S a) h
/-- over fixed items -/
def fForL (tg : TGM) (f : SM) : List D → SM
  | [] => fun ρ S => some (.nx ρ, S)
  | d :: r => fun ρ S => sbd (tg d ρ S) ρ fun ρ1 S1 =>
      (match f ρ1 S1 with
      | none => none
      | some (.nx ρ2, S2) => fForL tg f r ρ2 S2
      | some (.ct ρ2, S2) => fForL tg f r ρ2 S2
      | some (.bk ρ2, S2) => some (.nx ρ2, S2)
      | some (.rt d, S2) => some (.rt d, S2)
      | some (.ex e ρ2, S2) => some (.ex e ρ2, S2))
theorem fForN_C {xs : List D} {wk : Wk} (hw : ∀ i S, wk i S = some xs[i]?) {tg : TGM} {f : SM} : ∀ (r : List D) (i : Nat) ρ S a, xs.drop i = r → fForL tg f r ρ S = some a → fForN wk tg f (r.length + 1) i ρ S = some a
  | [], i, ρ, S, a, hd, h => by
    unfold fForN
    rw [hw, List.getElem?_eq_none (List.drop_eq_nil_iff.mp hd)]
    exact h
  | d :: r, i, ρ, S, a, hd, h => by
    have hi : xs[i]? = some d := by
      have := congrArg List.head? hd
      rw [List.head?_drop] at this
      exact this
    have hr : xs.drop (i + 1) = r := by
      have := congrArg List.tail hd
      rw [List.tail_drop] at this
      exact this
    unfold fForN
    rw [hw, hi]
    simp only
    unfold fForL at h
    cases e : tg d ρ S with
    | none => rw [e] at h; cases h
    | some p =>
      obtain ⟨rr, S1⟩ := p
      rw [e] at h
      cases rr with
      | ex x => exact h
      | ok b =>
        rw [sbd_ok] at h ⊢
        cases ef : f b S1 with
        | none => rw [ef] at h; cases h
        | some q =>
          obtain ⟨fl3, S3⟩ := q
          rw [ef] at h
          cases fl3 with
          | nx ρ3 => exact fForN_C hw r (i + 1) _ _ _ hr h
          | ct ρ3 => exact fForN_C hw r (i + 1) _ _ _ hr h
          | bk ρ3 => exact h
          | rt d => exact h
          | ex x ρ3 => exact h
theorem fForW_C {xs : List D} {wk : Wk} (hw : ∀ i S, wk i S = some xs[i]?) {tg : TGM} {f : SM} {ρ : Env} {S : Store} {a : Fl × Store} (h : fForL tg f xs ρ S = some a) : fForW wk tg f ρ S = some a :=
  fForW_of (fForN_C hw xs 0 ρ S a rfl h)
theorem wkR_C (lo : Int) (n : Nat) : ∀ i S, wkR lo n i S = some ((List.range n).map fun (k : Nat) => D.int (lo + (k : Int)))[i]? := fun i S => by
  unfold wkR
  rw [List.getElem?_map]
  by_cases h : i < n
  · rw [if_pos h, List.getElem?_range h]; rfl
  · rw [if_neg h, List.getElem?_eq_none (by simpa using h)]; rfl
theorem wkQ_C {d : D} {xs : List D} (h : ∀ S, sqA S d = some xs) : ∀ i S, wkQ d i S = some xs[i]? := fun i S => by
  unfold wkQ
  rw [h]; rfl
end Dm
set_option linter.all false
set_option maxRecDepth 100000
set_option maxHeartbeats 2000000
namespace Dm
open PySem L2 PySem.W PyProof.Rows PySem.Calls

/-! ### list comprehensions -/
abbrev NX : WX := fun _ _ _ _ => False
def wipeA (ρ : Env) : List Nat → Env
  | [] => ρ
  | v :: vs => (wipeA ρ vs).set v none
theorem Fr.wipe {K : PySem.W.Frag} {mg : Str → Option Value} {W : Wd} {ρ : Env} {σ : L2.St} (h : Fr K mg W ρ σ) : ∀ vs : List Nat, Fr K mg W (wipeA ρ vs) (wipe σ vs)
  | [] => h
  | v :: vs => (h.wipe vs).unset
theorem wipe_set {σ : L2.St} {n : Nat} {v : V} : ∀ {vs : List Nat}, n ∈ vs → wipe (σ.set n (some v)) vs = wipe σ vs
  | [], h => by cases h
  | u :: vs, h => by
    unfold wipe
    by_cases hm : n ∈ vs
    · rw [wipe_set hm]
    · have e : n = u := by
        rcases List.mem_cons.mp h with e | e
        · exact e
        · exact absurd e hm
      subst e
      have comm : ∀ vs : List Nat, n ∉ vs → wipe (σ.set n (some v)) vs = (wipe σ vs).set n (some v) := fun vs => by
        induction vs with
        | nil => intro _; rfl
        | cons w ws ih =>
          intro hn
          unfold wipe
          rw [ih fun z => hn (List.mem_cons_of_mem _ z), List.set_comm _ _ (fun z => hn (by rw [z]; exact List.mem_cons_self))]
      rw [comm vs hm, List.set_set]
theorem wipe_setA : ∀ {ns : List Nat} {vs : List V} {σ : L2.St} {own : List Nat}, (∀ n ∈ ns, n ∈ own) → wipe (setA σ ns vs) own = wipe σ own
  | [], _, _, _, _ => by unfold setA; rfl
  | _ :: _, [], _, _, _ => by unfold setA; rfl
  | n :: ns, v :: vs, σ, own, h => by
    show wipe (setA (σ.set n (some v)) ns vs) own = wipe σ own
    rw [wipe_setA fun m hm => h m (List.mem_cons_of_mem _ hm), wipe_set (h n List.mem_cons_self)]
theorem wipe_mem {σ : L2.St} {n : Nat} : ∀ {vs : List Nat}, n ∈ vs → (wipe σ vs)[n]? = none ∨ (wipe σ vs)[n]? = some none
  | v :: vs, h => by
    unfold wipe
    by_cases e : v = n
    · subst e
      by_cases hl : v < (wipe σ vs).length
      · rw [List.getElem?_set_self hl]; exact .inr rfl
      · rw [List.getElem?_eq_none (by simpa using hl)]; exact .inl rfl
    · rw [List.getElem?_set_ne e]
      exact wipe_mem ((List.mem_cons.mp h).resolve_left fun z => e z.symm)
theorem wipe_idem (σ : L2.St) (own : List Nat) : wipe (wipe σ own) own = wipe σ own := by
  have key : ∀ vs : List Nat, (∀ v ∈ vs, v ∈ own) → wipe (wipe σ own) vs = wipe σ own := fun vs => by
    induction vs with
    | nil => intro _; rfl
    | cons v vs ih =>
      intro h
      show (wipe (wipe σ own) vs).set v none = wipe σ own
      rw [ih fun w hw => h w (List.mem_cons_of_mem _ hw)]
      refine List.ext_getElem? fun i => ?_
      by_cases e : v = i
      · subst e
        rcases wipe_mem (σ := σ) (h v List.mem_cons_self) with q | q
        · rw [List.getElem?_eq_none_iff] at q
          rw [List.getElem?_eq_none (by simpa using q), List.getElem?_eq_none q]
        · rw [List.getElem?_set_self (List.getElem?_eq_some_iff.mp q).1, q]
      · rw [List.getElem?_set_ne e]
  exact key own fun _ h => h

section
variable (wk : Wk) (ns : List Nat) (pf : D → Store → Option (List D × Store)) (t : TM) (el : EM) (ρ0 : Env)
def lcN : Nat → Nat → List D → Store → Option (List D × Store)
  | 0, _, _, _ => none
  | n + 1, i, acc, S => match wk i S with
    | none => none
    | some none => some (acc, S)
    | some (some d) => (match pf d S with
      | none => none
      | some (ds, S1) => (match t (setA ρ0 ns ds) S1 with
        | some (.ok true, S2) => (match el (setA ρ0 ns ds) S2 with
          | some (.ok y, S3) => if acc.length < sizeLine then lcN n (i + 1) (acc ++ [y]) S3 else none
          | _ => none)
        | some (.ok false, S2) => lcN n (i + 1) acc S2
        | _ => none))
noncomputable def lcW (acc : List D) (S : Store) : Option (List D × Store) := lim fun n => lcN wk ns pf t el ρ0 n 0 acc S
theorem lcN_mono : ∀ n i acc S a, lcN wk ns pf t el ρ0 n i acc S = some a → lcN wk ns pf t el ρ0 (n + 1) i acc S = some a
  | 0, _, _, _, _, h => by cases h
  | n + 1, i, acc, S, a, h => by
    unfold lcN at h ⊢
    cases e1 : wk i S with
    | none => rw [e1] at h; cases h
    | some o =>
      rw [e1] at h
      cases o with
      | none => exact h
      | some d =>
        simp only at h ⊢
        cases e2 : pf d S with
        | none => rw [e2] at h; cases h
        | some p =>
          obtain ⟨ds, S1⟩ := p
          rw [e2] at h
          simp only at h ⊢
          cases e3 : t (setA ρ0 ns ds) S1 with
          | none => rw [e3] at h; cases h
          | some p =>
            obtain ⟨r, S2⟩ := p
            rw [e3] at h
            cases r with
            | ex x => cases h
            | ok b =>
              cases b with
              | false => exact lcN_mono n _ _ _ _ h
              | true =>
                simp only at h ⊢
                cases e4 : el (setA ρ0 ns ds) S2 with
                | none => rw [e4] at h; cases h
                | some p =>
                  obtain ⟨r, S3⟩ := p
                  rw [e4] at h
                  cases r with
                  | ex x => cases h
                  | ok y =>
                    simp only at h ⊢
                    split at h
                    · rename_i q
                      rw [if_pos q]
                      exact lcN_mono n _ _ _ _ h
                    · cases h
theorem lcW_of {n : Nat} {acc : List D} {S : Store} {a : List D × Store} (h : lcN wk ns pf t el ρ0 n 0 acc S = some a) : lcW wk ns pf t el ρ0 acc S = some a := lim_of (fun n a => lcN_mono wk ns pf t el ρ0 n 0 acc S a) h
/-- over fixed items -/
def lcL : List D → List D → Store → Option (List D × Store)
  | [], acc, S => some (acc, S)
  | d :: r, acc, S => (match pf d S with
      | none => none
      | some (ds, S1) => (match t (setA ρ0 ns ds) S1 with
        | some (.ok true, S2) => (match el (setA ρ0 ns ds) S2 with
          | some (.ok y, S3) => if acc.length < sizeLine then lcL r (acc ++ [y]) S3 else none
          | _ => none)
        | some (.ok false, S2) => lcL r acc S2
        | _ => none))
theorem lcN_C {xs : List D} (hw : ∀ i S, wk i S = some xs[i]?) : ∀ (r : List D) (i : Nat) acc S a, xs.drop i = r → lcL ns pf t el ρ0 r acc S = some a → lcN wk ns pf t el ρ0 (r.length + 1) i acc S = some a
  | [], i, acc, S, a, hd, h => by
    unfold lcN
    rw [hw, List.getElem?_eq_none (List.drop_eq_nil_iff.mp hd)]
    exact h
  | d :: r, i, acc, S, a, hd, h => by
    have hi : xs[i]? = some d := by
      have := congrArg List.head? hd
      rw [List.head?_drop] at this
      exact this
    have hr : xs.drop (i + 1) = r := by
      have := congrArg List.tail hd
      rw [List.tail_drop] at this
      exact this
    unfold lcN
    rw [hw, hi]
    simp only
    unfold lcL at h
    cases e2 : pf d S with
    | none => rw [e2] at h; cases h
    | some p =>
      obtain ⟨ds, S1⟩ := p
      rw [e2] at h
      simp only at h ⊢
      cases e3 : t (setA ρ0 ns ds) S1 with
      | none => rw [e3] at h; cases h
      | some p =>
        obtain ⟨q, S2⟩ := p
        rw [e3] at h
        cases q with
        | ex x => cases h
        | ok b =>
          cases b with
          | false => exact lcN_C hw r _ _ _ _ hr h
          | true =>
            simp only at h ⊢
            cases e4 : el (setA ρ0 ns ds) S2 with
            | none => rw [e4] at h; cases h
            | some p =>
              obtain ⟨q, S3⟩ := p
              rw [e4] at h
              cases q with
              | ex x => cases h
              | ok y =>
                simp only at h ⊢
                split at h
                · rename_i q
                  rw [if_pos q]
                  exact lcN_C hw r _ _ _ _ hr h
                · cases h
theorem lcW_C {xs : List D} (hw : ∀ i S, wk i S = some xs[i]?) {acc : List D} {S : Store} {a : List D × Store} (h : lcL ns pf t el ρ0 xs acc S = some a) : lcW wk ns pf t el ρ0 acc S = some a :=
  lcW_of wk ns pf t el ρ0 (lcN_C wk ns pf t el ρ0 hw xs 0 acc S a rfl h)
end
/-- the list under way: at Dn, kept apart -/
structure LcSt (K : PySem.W.Frag) (mg : Str → Option Value) (Dn : Addr) (Wb : Wd) (S : Store) (acc : List D) (W2 : Wd) (H : Hp) : Prop where
  np : ∀ q ∈ Wb.pv, q.1 ≠ Dn
  sub : Wsub Wb W2
  ho : Hold K mg W2 S H
  ac : ∃ vs, W2.pv = (Dn, .lst vs) :: Wb.pv ∧ RepL K mg W2 acc vs
  ln : acc.length ≤ sizeLine
theorem LcSt.go {K : PySem.W.Frag} {mg : Str → Option Value} {Dn : Addr} {Wb W2 W3 : Wd} {S S3 : Store} {acc : List D} {H H3 : Hp} (h : LcSt K mg Dn Wb S acc W2 H) (w : Wle W2 W3) (ho : Hold K mg W3 S3 H3) : LcSt K mg Dn Wb S3 acc W3 H3 := by
  obtain ⟨vs, e, r⟩ := h.ac
  exact ⟨h.np, h.sub.trans w.sub, ho, ⟨vs, w.pv.trans e, r.mono w⟩, h.ln⟩
theorem LcSt.add {K : PySem.W.Frag} {mg : Str → Option Value} {Dn : Addr} {Wb W2 : Wd} {S : Store} {acc : List D} {H : Hp} (h : LcSt K mg Dn Wb S acc W2 H) {y : D} {v : V} (r : Rep K mg W2 y v) (hl : acc.length < sizeLine) :
    ∃ vs, H Dn = some (.lst vs) ∧ vs.length < sizeLine ∧ ∃ W3, LcSt K mg Dn Wb S (acc ++ [y]) W3 (upd H Dn (.lst (vs ++ [v]))) := by
  obtain ⟨vs, e, ra⟩ := h.ac
  have ho := h.ho
  have hd : H Dn = some (.lst vs) := (ho.pvt (Dn, .lst vs) (by rw [e]; exact List.mem_cons_self)).1
  refine ⟨vs, hd, by rw [← ra.length]; exact hl, ⟨W2.Hf, W2.eta, (Dn, .lst (vs ++ [v])) :: Wb.pv⟩, h.np, ⟨h.sub.hf, h.sub.et⟩, ?_, ⟨_, rfl, ?_⟩, by rw [List.length_append]; exact hl⟩
  · have ho' : Hold K mg ⟨W2.Hf, W2.eta, (Dn, .lst vs) :: Wb.pv⟩ S H := by rw [← e]; exact ho
    exact ho'.privSet h.np
  · exact RepL.monoV (W := W2) (W' := ⟨W2.Hf, W2.eta, (Dn, .lst (vs ++ [v])) :: Wb.pv⟩) (fun _ _ z => z) (fun _ _ z => z) (ra.append (.one r))
theorem LcSt.done {K : PySem.W.Frag} {mg : Str → Option Value} {Dn : Addr} {Wb W2 : Wd} {S : Store} {acc : List D} {H : Hp} (h : LcSt K mg Dn Wb S acc W2 H) (bx : Bool) :
    ∃ W3, Wle Wb W3 ∧ Hold K mg W3 (mkL bx acc S).2 H ∧ Rep K mg W3 (mkL bx acc S).1 (.ref Dn) := by
  obtain ⟨vs, e, ra⟩ := h.ac
  have ho' : Hold K mg ⟨W2.Hf, W2.eta, (Dn, .lst vs) :: Wb.pv⟩ S H := by rw [← e]; exact h.ho
  obtain ⟨hd, nf, nb⟩ := ho'.pvt (Dn, .lst vs) List.mem_cons_self
  have nf : W2.Hf Dn = none := nf
  cases bx with
  | false =>
    have up : ∀ a u, W2.Hf a = some u → upd W2.Hf Dn (.lst vs) a = some u := fun a u e => by rw [upd_ne (ne_of_none e nf)]; exact e
    exact ⟨⟨upd W2.Hf Dn (.lst vs), W2.eta, Wb.pv⟩, ⟨fun a u e => up a u (h.sub.hf a u e), h.sub.et, rfl⟩, ho'.privFroze h.np, .lst (show upd W2.Hf Dn _ Dn = _ from upd_same) h.ln (RepL.monoV (W := W2) (W' := ⟨upd W2.Hf Dn (.lst vs), W2.eta, Wb.pv⟩) up (fun _ _ z => z) ra)⟩
  | true =>
    have r' : RepL K mg ⟨W2.Hf, W2.eta ++ [Dn], Wb.pv⟩ acc vs := RepL.monoV (W := W2) (W' := ⟨W2.Hf, W2.eta ++ [Dn], Wb.pv⟩) (fun _ _ z => z) (fun i a z => by
      show (W2.eta ++ [Dn])[i]? = some a
      rw [List.getElem?_append_left (List.getElem?_eq_some_iff.mp z).1]; exact z) ra
    have ho2 := ho'.privBox (c := .lst acc) h.np ⟨h.ln, vs, hd, r'⟩
    refine ⟨⟨W2.Hf, W2.eta ++ [Dn], Wb.pv⟩, ⟨h.sub.hf, ?_, rfl⟩, ho2, .box ?_⟩
    · obtain ⟨t, et⟩ := h.sub.et
      exact ⟨t ++ [Dn], by show W2.eta ++ [Dn] = _; rw [et, List.append_assoc]⟩
    · have hl : W2.eta.length = S.length := h.ho.len
      show (W2.eta ++ [Dn])[S.length]? = some Dn
      rw [← hl, List.getElem?_append_right (Nat.le_refl _), Nat.sub_self]; rfl
section
variable {K : PySem.W.Frag} {mg : Str → Option Value} {wk : Wk} {ns own : List Nat} {pf : D → Store → Option (List D × Store)} {t : TM} {el : EM}
abbrev EvP (K : PySem.W.Frag) (mg : Str → Option Value) (ns : List Nat) (pf : D → Store → Option (List D × Store)) (g : TG) : Prop := ∀ W σ H S d v ds S' Q, Hold K mg W S H → Rep K mg W d v → pf d S = some (ds, S') →
    (∀ vs H' W', Wle W W' → Hold K mg W' S' H' → RepL K mg W' ds vs → Q (setA σ ns vs) H') → g v σ H Q
/-- the loop of one clause -/
theorem lc_loop {g : TG} {tt : TT} {te : TE} {J : It} {Dn : Addr} {Wb W0 : Wd} {ρ : Env} {σ : L2.St} {H0 : Hp} {S0 S' : Store} {acc0 acc' : List D} {Qd : Hp → Prop}
    (hs : ∀ n ∈ ns, n ∈ own) (eg : EvP K mg ns pf g) (et : Ev K mg NX RB tt t) (ee : Ev K mg NX (Rep K mg) te el) (srv : Srv K mg Wb wk J) (fr : Fr K mg Wb ρ σ)
    (st : LcSt K mg Dn Wb S0 acc0 W0 H0) (hn : lcW wk ns pf t el (wipeA ρ own) acc0 S0 = some (acc', S')) (hd : ∀ W2 H, LcSt K mg Dn Wb S' acc' W2 H → Qd H) :
    ∃ W : Nat → Nat → Hp → Prop, (∃ m, W 0 m H0) ∧ ∀ i m H, W i m H →
      (J.stop i H ∧ Qd H) ∨ (J.go i H ∧ ∃ Nx : Hp → Prop, (∀ H', Nx H' → ∃ m', m' < m ∧ W (i + 1) m' H') ∧ ∀ x H', J.yld i H x H' → g x (wipe σ own) H' fun σ2 H2 => wipe σ2 own = wipe σ own ∧ tt σ2 H2 fun b H3 =>
        if b = true then te σ2 H3 fun y H4 => ∃ acc, H4 Dn = some (.lst acc) ∧ acc.length < sizeLine ∧ Nx (upd H4 Dn (.lst (acc ++ [y]))) else Nx H3) := by
  obtain ⟨n, hn⟩ := lim_some hn
  refine ⟨fun i m H => ∃ W2 S acc, LcSt K mg Dn Wb S acc W2 H ∧ lcN wk ns pf t el (wipeA ρ own) m i acc S = some (acc', S'), ⟨n, W0, S0, acc0, st, hn⟩, ?_⟩
  rintro i m H ⟨W2, S, acc, st, hn⟩
  cases m with
  | zero => cases hn
  | succ m =>
    unfold lcN at hn
    obtain ⟨srv1, srv2⟩ := srv i S H W2 st.sub st.ho
    cases e1 : wk i S with
    | none => rw [e1] at hn; cases hn
    | some o =>
      cases o with
      | none =>
        rw [e1] at hn
        cases hn
        exact .inl ⟨srv1 e1, hd W2 H st⟩
      | some d =>
        rw [e1] at hn
        simp only at hn
        obtain ⟨go, srv3⟩ := srv2 d e1
        refine .inr ⟨go, fun H => ∃ W2 S acc, LcSt K mg Dn Wb S acc W2 H ∧ lcN wk ns pf t el (wipeA ρ own) m (i + 1) acc S = some (acc', S'), fun H' h => ⟨m, Nat.lt_succ_self m, h⟩, fun x H3 hy => ?_⟩
        obtain ⟨W3, w3, ho3, rx⟩ := srv3 x H3 hy
        have st3 := st.go w3 ho3
        cases e2 : pf d S with
        | none => rw [e2] at hn; cases hn
        | some p =>
          obtain ⟨ds, S1⟩ := p
          rw [e2] at hn
          simp only at hn
          refine eg W3 (wipe σ own) H3 S d x ds S1 _ ho3 rx e2 fun vs H4 W4 w4 ho4 rl => ⟨by rw [wipe_setA hs, wipe_idem], ?_⟩
          have st4 := st3.go w4 ho4
          have fr4 : Fr K mg W4 (setA (wipeA ρ own) ns ds) (setA (wipe σ own) ns vs) := by
            refine Fr.setA (Fr.wipe ⟨fr.1, fun j d e => ?_⟩ own) rl
            obtain ⟨v, k1, k2⟩ := fr.2 j d e
            exact ⟨v, k1, k2.monoS st4.sub⟩
          cases e3 : t (setA (wipeA ρ own) ns ds) S1 with
          | none => rw [e3] at hn; cases hn
          | some p =>
            obtain ⟨r, S2⟩ := p
            rw [e3] at hn
            refine et.run W4 _ H4 S1 _ _ r S2 fr4 ho4 e3 ?_
            cases r with
            | ex x => cases hn
            | ok b =>
              intro b' H5 W5 w5 ho5 eb
              subst eb
              have st5 := st4.go w5 ho5
              cases b with
              | false =>
                rw [if_neg (by decide)]
                exact ⟨W5, S2, acc, st5, hn⟩
              | true =>
                rw [if_pos rfl]
                simp only at hn
                cases e4 : el (setA (wipeA ρ own) ns ds) S2 with
                | none => rw [e4] at hn; cases hn
                | some p =>
                  obtain ⟨r, S3⟩ := p
                  rw [e4] at hn
                  refine ee.run W5 _ H5 S2 _ _ r S3 (fr4.mono w5) ho5 e4 ?_
                  cases r with
                  | ex x => cases hn
                  | ok y =>
                    intro yv H6 W6 w6 ho6 ry
                    simp only at hn
                    split at hn
                    · rename_i hl
                      obtain ⟨vs', k1, k2, W7, st7⟩ := (st5.go w6 ho6).add ry hl
                      exact ⟨vs', k1, k2, W7, S3, _, st7, hn⟩
                    · cases hn
end
noncomputable def gLc (bx : Bool) (g : Env → M Wk) (ns own : List Nat) (pf : D → Store → Option (List D × Store)) (t : TM) (el : EM) : EM := fun ρ S => bd (g ρ S) fun wk S1 => match lcW wk ns pf t el (wipeA ρ own) [] S1 with
  | some (acc, S2) => okM (some (mkL bx acc S2))
  | none => none
structure DTs (X : Cx) (ifs : List Expr) (g : TM) : Prop where
  ev : ∃ t, PTs X ifs t ∧ Ev X.K X.mg NX RB t g
def gYes : TM := fun _ S => some (.ok true, S)
section
variable {X : Cx} {EX : WX} {c : Expr} {t : TM}
theorem dts_nil : DTs X [] gYes := ⟨_, pts_nil, ⟨fun W σ H S ρ Q r S' fr ho hf hp => by
  cases hf
  exact hp true H W (Wle.refl W) ho rfl⟩⟩
theorem dts_one (h : DT X NX c t) : DTs X [c] t := let ⟨_, p, e⟩ := h.ev; ⟨_, pts_one p, e⟩
end
/-- one reading for all the blocks -/
theorem uni {ι β : Type} {P : ι → β → Prop} (h : ∀ i, ∃ b, P i b) : ∃ f : ι → β, ∀ i, P i (f i) := ⟨fun i => Classical.choose (h i), fun i => Classical.choose_spec (h i)⟩
abbrev BI := Shared × Hp × Addr × List (Str × Addr) × List Addr
abbrev blkOf (X : Cx) (scope : Scope) (i : BI) : Cx := X.blk i.1 i.2.1 scope (compEnvC scope i.2.2.2.1 i.2.2.1 X.env) i.2.2.2.2
section
variable {X : Cx} {EX : WX} {elt tg iter : Expr} {ifs : List Expr} {scope : Scope} {own : List (Str × Nat)} {pos : Pos} {ns : List Nat} {pf : D → Store → Option (List D × Store)} {g : Env → M Wk} {t : TM} {el : EM}
theorem uni_e {Xs : BI → Cx} (hK : ∀ i, (Xs i).K = X.K) (hm : ∀ i, (Xs i).mg = X.mg) (h : ∀ i, DE (Xs i) NX elt el) : ∃ te, (∀ i, PE (Xs i) elt te) ∧ Ev X.K X.mg NX (Rep X.K X.mg) te el := by
  obtain ⟨f, hf⟩ := uni fun i => (h i).ev
  refine ⟨fun σ H Q => ∀ i, f i σ H Q, fun i => ⟨fun pins s σ H Q I hq => (hf i).1.run pins s σ H Q I (hq i)⟩, ⟨fun W σ H S ρ Q r S' fr ho hg hp i => ?_⟩⟩
  have e := (hf i).2
  rw [hK, hm] at e
  refine e.run W σ H S ρ Q r S' fr ho hg ?_
  show Post X.K X.mg NX (Rep (Xs i).K (Xs i).mg) W σ Q r S'
  rw [hK, hm]
  exact hp
theorem uni_t {Xs : BI → Cx} (hK : ∀ i, (Xs i).K = X.K) (hm : ∀ i, (Xs i).mg = X.mg) (h : ∀ i, DTs (Xs i) ifs t) : ∃ tt, (∀ i, PTs (Xs i) ifs tt) ∧ Ev X.K X.mg NX RB tt t := by
  obtain ⟨f, hf⟩ := uni fun i => (h i).ev
  refine ⟨fun σ H Q => ∀ i, f i σ H Q, fun i => ⟨fun pins s σ H Q I hq => (hf i).1.run pins s σ H Q I (hq i)⟩, ⟨fun W σ H S ρ Q r S' fr ho hg hp i => ?_⟩⟩
  have e := (hf i).2
  rw [hK, hm] at e
  exact e.run W σ H S ρ Q r S' fr ho hg hp
theorem uni_g {Xs : BI → Cx} (hK : ∀ i, (Xs i).K = X.K) (hm : ∀ i, (Xs i).mg = X.mg) (h : ∀ i, DGn (Xs i) tg ns pf) : ∃ tt, (∀ i, PG (Xs i) tg tt) ∧ EvP X.K X.mg ns pf tt := by
  obtain ⟨f, hf⟩ := uni fun i => (h i).ev
  refine ⟨fun v σ H Q => ∀ i, f i v σ H Q, fun i => ⟨fun pins s σ H v u Q I r hq => (hf i).1.run pins s σ H v u Q I r (hq i)⟩, fun W σ H S d v ds S' Q ho r hg hp i => ?_⟩
  have e := (hf i).2
  rw [hK, hm] at e
  exact e W σ H S d v ds S' Q ho r hg hp
theorem uni_i {Xs : BI → Cx} (hK : ∀ i, (Xs i).K = X.K) (hm : ∀ i, (Xs i).mg = X.mg) (h : ∀ i, DI (Xs i) NX tg iter g) : ∃ wi, (∀ i, PI (Xs i) tg iter wi) ∧ Ev X.K X.mg NX (RW X) wi g := by
  obtain ⟨f, hf⟩ := uni fun i => (h i).ev
  refine ⟨fun σ H Q => ∀ i, f i σ H Q, fun i => ⟨fun pins s σ H Q I hq => (hf i).1.run pins s σ H Q I (hq i)⟩, ⟨fun W σ H S ρ Q r S' fr ho hg hp i => ?_⟩⟩
  have e := (hf i).2
  rw [hK, hm] at e
  refine e.run W σ H S ρ Q r S' fr ho hg ?_
  show Post X.K X.mg NX (Srv (Xs i).K (Xs i).mg) W σ Q r S'
  rw [hK, hm]
  exact hp
theorem lc_start {K : PySem.W.Frag} {mg : Str → Option Value} {W : Wd} {S : Store} {H : Hp} {Dn : Addr} (ho : Hold K mg W S H) (np : H Dn = none) : LcSt K mg Dn W S [] ⟨W.Hf, W.eta, (Dn, .lst []) :: W.pv⟩ (upd H Dn (.lst [])) :=
  ⟨fun q hq => ne_of_none (ho.pvt q hq).1 np, ⟨fun _ _ z => z, [], (List.append_nil _).symm⟩, ho.priv np, ⟨[], rfl, .nil⟩, by decide⟩
theorem ev_lc (bx : Bool) {wi : TI} {gg : TG} {tt : TT} {te : TE} (hs : ∀ n ∈ ns, n ∈ own.map (·.2)) (ei : Ev X.K X.mg EX (RW X) wi g) (eg : EvP X.K X.mg ns pf gg) (et : Ev X.K X.mg NX RB tt t) (ee : Ev X.K X.mg NX (Rep X.K X.mg) te el) :
    Ev X.K X.mg EX (RD X) (tLc wi gg tt te (own.map (·.2))) (gLc bx g ns (own.map (·.2)) pf t el) := by
  refine ⟨fun W σ H S ρ Q r S' fr ho hf hp => ?_⟩
  refine ei.bd fr ho hf hp.exn fun wk J S1 H1 W1 w1 ho1 srv hk => ?_
  intro Dn np
  cases e : lcW wk ns pf t el (wipeA ρ (own.map (·.2))) [] S1 with
  | none => rw [e] at hk; cases hk
  | some p =>
    obtain ⟨acc, S2⟩ := p
    rw [e] at hk
    have e' : (Rs.ok (mkL bx acc S2).1, (mkL bx acc S2).2) = (r, S') := Option.some.inj hk
    cases e'
    refine lc_loop hs eg et ee srv (fr.mono w1) (lc_start ho1 np) e fun W2 H2 st => ?_
    obtain ⟨W3, w3, ho3, r3⟩ := st.done bx
    exact hp _ H2 W3 (w1.trans w3) ho3 r3
theorem de_lc (bx : Bool) (own : List (Str × Nat)) (hc : X.calm = true) (hN : X.N.Nodup) (hi : DI X EX tg iter g) (ok : blkC X.N X.env.scope scope own = true) (hg : ∀ i, DGn (blkOf X scope i) tg ns pf) (ht : ∀ i, DTs (blkOf X scope i) ifs t) (he : ∀ i, DE (blkOf X scope i) NX elt el)
    (hs : ∀ n ∈ ns, n ∈ own.map (·.2) := by decide) (hf : ∀ x, foldedSetIterable iter X.env x = pure x := by intro _; rfl) : DE X EX (.ListComp elt [⟨tg, iter, ifs, 0⟩] scope pos) (gLc bx g ns (own.map (·.2)) pf t el) := by
  obtain ⟨wi, pi, ei⟩ := hi.ev
  obtain ⟨gg, pg, eg⟩ := uni_g (X := X) (Xs := blkOf X scope) (fun _ => rfl) (fun _ => rfl) hg
  obtain ⟨tt, pt, et⟩ := uni_t (X := X) (Xs := blkOf X scope) (fun _ => rfl) (fun _ => rfl) ht
  obtain ⟨te, pe, ee⟩ := uni_e (X := X) (Xs := blkOf X scope) (fun _ => rfl) (fun _ => rfl) he
  exact ⟨_, pe_lc hc hN pi (blkOk_by ok) (fun s H C cl fp => pg (s, H, C, cl, fp)) (fun s H C cl fp => pt (s, H, C, cl, fp)) (fun s H C cl fp => pe (s, H, C, cl, fp)) hf, ev_lc bx hs ei eg et ee⟩
/-- name = [..] on one line -/
theorem ds_setLc (bx : Bool) (j : Nat) (own : List (Str × Nat)) {y : Str} {py spos : Pos} (hc : X.calm = true) (hN : X.N.Nodup) (hsw : swapsWith (.ListComp elt [⟨tg, iter, ifs, 0⟩] scope pos) (some (.Name y py)) spos.line X.env = pure true) (hi : DI X EX tg iter g) (ok : blkC X.N X.env.scope scope own = true) (hg : ∀ i, DGn (blkOf X scope i) tg ns pf) (ht : ∀ i, DTs (blkOf X scope i) ifs t) (he : ∀ i, DE (blkOf X scope i) NX elt el)
    (hy : X.N[j]? = some y := by rfl) (hyl : X.env.scope.names.lookup y = some .local := by rfl) (hs : ∀ n ∈ ns, n ∈ own.map (·.2) := by decide) (hf : ∀ x, foldedSetIterable iter X.env x = pure x := by intro _; rfl) :
    DS X EX (.Assign [.Name y py] (.ListComp elt [⟨tg, iter, ifs, 0⟩] scope pos) spos) (fSet j (gLc bx g ns (own.map (·.2)) pf t el)) := by
  obtain ⟨wi, pi, ei⟩ := hi.ev
  obtain ⟨gg, pg, eg⟩ := uni_g (X := X) (Xs := blkOf X scope) (fun _ => rfl) (fun _ => rfl) hg
  obtain ⟨tt, pt, et⟩ := uni_t (X := X) (Xs := blkOf X scope) (fun _ => rfl) (fun _ => rfl) ht
  obtain ⟨te, pe, ee⟩ := uni_e (X := X) (Xs := blkOf X scope) (fun _ => rfl) (fun _ => rfl) he
  refine ⟨_, ps_setLc hc hN hy hyl hsw pi (blkOk_by ok) (fun s H C cl fp => pg (s, H, C, cl, fp)) (fun s H C cl fp => pt (s, H, C, cl, fp)) (fun s H C cl fp => pe (s, H, C, cl, fp)) hf, ⟨fun W σ H S ρ D fl S' fr ho hf hp => ?_⟩⟩
  refine (ev_lc bx hs ei eg et ee).sbd fr ho hf hp fun d v S1 H1 W1 w1 ho1 rd hk => ?_
  cases hk
  exact hp _ H1 W1 w1 ho1 ((fr.mono w1).set rd)

/-! ### two clauses -/
section
variable {iter1 tg1 : Expr} {ifs1 : List Expr} {ns1 vs1 : List Nat} {pf1 : D → Store → Option (List D × Store)} {g1 : Env → M Wk} {t1 : TM}
/-- the first clause's element: the inner loop -/
noncomputable def in2 (g1 : Env → M Wk) (ns1 vs1 : List Nat) (pf1 : D → Store → Option (List D × Store)) (t1 : TM) (el : EM) (ρ : Env) (acc : List D) (S : Store) : Option (List D × Store) := match g1 ρ S with
  | some (.ok wk1, S1) => lcW wk1 ns1 pf1 t1 el (wipeA ρ vs1) acc S1
  | _ => none
section
variable (wk : Wk) (ns : List Nat) (pf : D → Store → Option (List D × Store)) (t : TM) (inn : Env → List D → Store → Option (List D × Store)) (ρ0 : Env)
def lc2N : Nat → Nat → List D → Store → Option (List D × Store)
  | 0, _, _, _ => none
  | n + 1, i, acc, S => match wk i S with
    | none => none
    | some none => some (acc, S)
    | some (some d) => (match pf d S with
      | none => none
      | some (ds, S1) => (match t (setA ρ0 ns ds) S1 with
        | some (.ok true, S2) => (match inn (setA ρ0 ns ds) acc S2 with
          | some (acc', S3) => lc2N n (i + 1) acc' S3
          | none => none)
        | some (.ok false, S2) => lc2N n (i + 1) acc S2
        | _ => none))
noncomputable def lc2W (acc : List D) (S : Store) : Option (List D × Store) := lim fun n => lc2N wk ns pf t inn ρ0 n 0 acc S
theorem lc2N_mono : ∀ n i acc S a, lc2N wk ns pf t inn ρ0 n i acc S = some a → lc2N wk ns pf t inn ρ0 (n + 1) i acc S = some a
  | 0, _, _, _, _, h => by cases h
  | n + 1, i, acc, S, a, h => by
    unfold lc2N at h ⊢
    cases e1 : wk i S with
    | none => rw [e1] at h; cases h
    | some o =>
      rw [e1] at h
      cases o with
      | none => exact h
      | some d =>
        simp only at h ⊢
        cases e2 : pf d S with
        | none => rw [e2] at h; cases h
        | some p =>
          obtain ⟨ds, S1⟩ := p
          rw [e2] at h
          simp only at h ⊢
          cases e3 : t (setA ρ0 ns ds) S1 with
          | none => rw [e3] at h; cases h
          | some p =>
            obtain ⟨r, S2⟩ := p
            rw [e3] at h
            cases r with
            | ex x => cases h
            | ok b =>
              cases b with
              | false => exact lc2N_mono n _ _ _ _ h
              | true =>
                simp only at h ⊢
                cases e4 : inn (setA ρ0 ns ds) acc S2 with
                | none => rw [e4] at h; cases h
                | some p =>
                  obtain ⟨acc', S3⟩ := p
                  rw [e4] at h
                  exact lc2N_mono n _ _ _ _ h
theorem lc2W_of {n : Nat} {acc : List D} {S : Store} {a : List D × Store} (h : lc2N wk ns pf t inn ρ0 n 0 acc S = some a) : lc2W wk ns pf t inn ρ0 acc S = some a := lim_of (fun n a => lc2N_mono wk ns pf t inn ρ0 n 0 acc S a) h
def lc2L : List D → List D → Store → Option (List D × Store)
  | [], acc, S => some (acc, S)
  | d :: r, acc, S => (match pf d S with
      | none => none
      | some (ds, S1) => (match t (setA ρ0 ns ds) S1 with
        | some (.ok true, S2) => (match inn (setA ρ0 ns ds) acc S2 with
          | some (acc', S3) => lc2L r acc' S3
          | none => none)
        | some (.ok false, S2) => lc2L r acc S2
        | _ => none))
theorem lc2N_C {xs : List D} (hw : ∀ i S, wk i S = some xs[i]?) : ∀ (r : List D) (i : Nat) acc S a, xs.drop i = r → lc2L ns pf t inn ρ0 r acc S = some a → lc2N wk ns pf t inn ρ0 (r.length + 1) i acc S = some a
  | [], i, acc, S, a, hd, h => by
    unfold lc2N
    rw [hw, List.getElem?_eq_none (List.drop_eq_nil_iff.mp hd)]
    exact h
  | d :: r, i, acc, S, a, hd, h => by
    have hi : xs[i]? = some d := by
      have := congrArg List.head? hd
      rw [List.head?_drop] at this
      exact this
    have hr : xs.drop (i + 1) = r := by
      have := congrArg List.tail hd
      rw [List.tail_drop] at this
      exact this
    unfold lc2N
    rw [hw, hi]
    simp only
    unfold lc2L at h
    cases e2 : pf d S with
    | none => rw [e2] at h; cases h
    | some p =>
      obtain ⟨ds, S1⟩ := p
      rw [e2] at h
      simp only at h ⊢
      cases e3 : t (setA ρ0 ns ds) S1 with
      | none => rw [e3] at h; cases h
      | some p =>
        obtain ⟨q, S2⟩ := p
        rw [e3] at h
        cases q with
        | ex x => cases h
        | ok b =>
          cases b with
          | false => exact lc2N_C hw r _ _ _ _ hr h
          | true =>
            simp only at h ⊢
            cases e4 : inn (setA ρ0 ns ds) acc S2 with
            | none => rw [e4] at h; cases h
            | some p =>
              obtain ⟨acc', S3⟩ := p
              rw [e4] at h
              exact lc2N_C hw r _ _ _ _ hr h
theorem lc2W_C {xs : List D} (hw : ∀ i S, wk i S = some xs[i]?) {acc : List D} {S : Store} {a : List D × Store} (h : lc2L ns pf t inn ρ0 xs acc S = some a) : lc2W wk ns pf t inn ρ0 acc S = some a :=
  lc2W_of wk ns pf t inn ρ0 (lc2N_C wk ns pf t inn ρ0 hw xs 0 acc S a rfl h)
end
noncomputable def gLc2 (bx : Bool) (g : Env → M Wk) (ns own : List Nat) (pf : D → Store → Option (List D × Store)) (t : TM) (g1 : Env → M Wk) (ns1 vs1 : List Nat) (pf1 : D → Store → Option (List D × Store)) (t1 : TM) (el : EM) : EM := fun ρ S => bd (g ρ S) fun wk S1 => match lc2W wk ns pf t (in2 g1 ns1 vs1 pf1 t1 el) (wipeA ρ own) [] S1 with
  | some (acc, S2) => okM (some (mkL bx acc S2))
  | none => none
theorem ev_lc2 (bx : Bool) {wi wi1 : TI} {gg gg1 : TG} {tt tt1 : TT} {te : TE} (hs : ∀ n ∈ ns, n ∈ own.map (·.2)) (hs1 : ∀ n ∈ ns1, n ∈ vs1) (ei : Ev X.K X.mg EX (RW X) wi g) (eg : EvP X.K X.mg ns pf gg) (et : Ev X.K X.mg NX RB tt t)
    (ei1 : Ev X.K X.mg NX (RW X) wi1 g1) (eg1 : EvP X.K X.mg ns1 pf1 gg1) (et1 : Ev X.K X.mg NX RB tt1 t1) (ee : Ev X.K X.mg NX (Rep X.K X.mg) te el) :
    Ev X.K X.mg EX (RD X) (tLc2 wi gg tt wi1 gg1 tt1 te (own.map (·.2)) vs1) (gLc2 bx g ns (own.map (·.2)) pf t g1 ns1 vs1 pf1 t1 el) := by
  refine ⟨fun W σ H S ρ Q r S' fr ho hf hp => ?_⟩
  refine ei.bd fr ho hf hp.exn fun wk J S1 H1 W1 w1 ho1 srv hk => ?_
  intro Dn np
  cases e : lc2W wk ns pf t (in2 g1 ns1 vs1 pf1 t1 el) (wipeA ρ (own.map (·.2))) [] S1 with
  | none => rw [e] at hk; cases hk
  | some p =>
    obtain ⟨accF, SF⟩ := p
    rw [e] at hk
    have e' : (Rs.ok (mkL bx accF SF).1, (mkL bx accF SF).2) = (r, S') := Option.some.inj hk
    cases e'
    obtain ⟨n, hn⟩ := lim_some e
    have fr1 := fr.mono w1
    refine ⟨fun i m H => ∃ W2 S acc, LcSt X.K X.mg Dn W1 S acc W2 H ∧ lc2N wk ns pf t (in2 g1 ns1 vs1 pf1 t1 el) (wipeA ρ (own.map (·.2))) m i acc S = some (accF, SF), ⟨n, _, S1, [], lc_start ho1 np, hn⟩, ?_⟩
    rintro i m H ⟨W2, S, acc, st, hn⟩
    cases m with
    | zero => cases hn
    | succ m =>
      unfold lc2N at hn
      obtain ⟨srv1, srv2⟩ := srv i S H W2 st.sub st.ho
      cases e1 : wk i S with
      | none => rw [e1] at hn; cases hn
      | some o =>
        cases o with
        | none =>
          rw [e1] at hn
          cases hn
          obtain ⟨W3, w3, ho3, r3⟩ := st.done bx
          exact .inl ⟨srv1 e1, hp _ H W3 (w1.trans w3) ho3 r3⟩
        | some d =>
          rw [e1] at hn
          simp only at hn
          obtain ⟨go, srv3⟩ := srv2 d e1
          refine .inr ⟨go, fun H => ∃ W2 S acc, LcSt X.K X.mg Dn W1 S acc W2 H ∧ lc2N wk ns pf t (in2 g1 ns1 vs1 pf1 t1 el) (wipeA ρ (own.map (·.2))) m (i + 1) acc S = some (accF, SF), fun H' h => ⟨m, Nat.lt_succ_self m, h⟩, fun x H3 hy => ?_⟩
          obtain ⟨W3, w3, ho3, rx⟩ := srv3 x H3 hy
          have st3 := st.go w3 ho3
          cases e2 : pf d S with
          | none => rw [e2] at hn; cases hn
          | some p =>
            obtain ⟨ds, S2⟩ := p
            rw [e2] at hn
            simp only at hn
            refine eg W3 (wipe σ (own.map (·.2))) H3 S d x ds S2 _ ho3 rx e2 fun vs H4 W4 w4 ho4 rl => ?_
            refine ⟨by rw [wipe_setA hs, wipe_idem], ?_⟩
            have st4 := st3.go w4 ho4
            have fr4 : Fr X.K X.mg W4 (setA (wipeA ρ (own.map (·.2))) ns ds) (setA (wipe σ (own.map (·.2))) ns vs) := by
              have fb : Fr X.K X.mg W4 ρ σ := ⟨fr1.1, fun j d e => by
                obtain ⟨v, k1, k2⟩ := fr1.2 j d e
                exact ⟨v, k1, k2.monoS st4.sub⟩⟩
              exact (fb.wipe _).setA rl
            cases e3 : t (setA (wipeA ρ (own.map (·.2))) ns ds) S2 with
            | none => rw [e3] at hn; cases hn
            | some p =>
              obtain ⟨r, S3⟩ := p
              rw [e3] at hn
              refine et.run W4 _ H4 S2 _ _ r S3 fr4 ho4 e3 ?_
              cases r with
              | ex x => cases hn
              | ok b =>
                intro b' H5 W5 w5 ho5 eb
                subst eb
                have st5 := st4.go w5 ho5
                cases b with
                | false =>
                  rw [if_neg (by decide)]
                  exact ⟨W5, S3, acc, st5, hn⟩
                | true =>
                  rw [if_pos rfl]
                  simp only at hn
                  cases e4 : in2 g1 ns1 vs1 pf1 t1 el (setA (wipeA ρ (own.map (·.2))) ns ds) acc S3 with
                  | none => rw [e4] at hn; cases hn
                  | some p =>
                    obtain ⟨acc', S4⟩ := p
                    rw [e4] at hn
                    unfold in2 at e4
                    cases e5 : g1 (setA (wipeA ρ (own.map (·.2))) ns ds) S3 with
                    | none => rw [e5] at e4; cases e4
                    | some q =>
                      obtain ⟨rq, S5⟩ := q
                      rw [e5] at e4
                      refine ei1.run W5 _ H5 S3 _ _ rq S5 (fr4.mono w5) ho5 e5 ?_
                      cases rq with
                      | ex x => cases e4
                      | ok wk1 =>
                        intro J1 H6 W6 w6 ho6 srvI
                        have st6 := st5.go w6 ho6
                        have fr6 := (fr4.mono w5).mono w6
                        -- the inner loop, its base being W6 without the new list
                        have sub6 : Wsub ⟨W6.Hf, W6.eta, W1.pv⟩ W6 := ⟨fun _ _ z => z, [], (List.append_nil _).symm⟩
                        have stI : LcSt X.K X.mg Dn ⟨W6.Hf, W6.eta, W1.pv⟩ S5 acc W6 H6 := ⟨st6.np, sub6, st6.ho, st6.ac, st6.ln⟩
                        have srvI' : Srv X.K X.mg ⟨W6.Hf, W6.eta, W1.pv⟩ wk1 J1 := fun i S H Wx wx => srvI i S H Wx ⟨wx.hf, wx.et⟩
                        have frI : Fr X.K X.mg ⟨W6.Hf, W6.eta, W1.pv⟩ (setA (wipeA ρ (own.map (·.2))) ns ds) (setA (wipe σ (own.map (·.2))) ns vs) := ⟨fr6.1, fun j d e => by
                          obtain ⟨v, k1, k2⟩ := fr6.2 j d e
                          exact ⟨v, k1, Rep.monoV (W := W6) (W' := ⟨W6.Hf, W6.eta, W1.pv⟩) (fun _ _ z => z) (fun _ _ z => z) k2⟩⟩
                        refine lc_loop hs1 eg1 et1 ee srvI' frI stI e4 fun W7 H7 st7 => ?_
                        exact ⟨W7, S4, acc', ⟨st7.np, st6.sub.trans ⟨st7.sub.hf, st7.sub.et⟩, st7.ho, st7.ac, st7.ln⟩, hn⟩
theorem de_lc2 (bx : Bool) (own : List (Str × Nat)) (vs1 : List Nat) (hc : X.calm = true) (hN : X.N.Nodup) (hi : DI X EX tg iter g) (ok : blkC X.N X.env.scope scope own = true) (hg : ∀ i, DGn (blkOf X scope i) tg ns pf) (ht : ∀ i, DTs (blkOf X scope i) ifs t)
    (hi1 : ∀ i, DI (blkOf X scope i) NX tg1 iter1 g1) (hg1 : ∀ i, DGn (blkOf X scope i) tg1 ns1 pf1) (ht1 : ∀ i, DTs (blkOf X scope i) ifs1 t1) (he : ∀ i, DE (blkOf X scope i) NX elt el)
    (hv : ∀ i ∈ vs1, i ∈ own.map (·.2) := by decide) (hs : ∀ n ∈ ns, n ∈ own.map (·.2) := by decide) (hs1 : ∀ n ∈ ns1, n ∈ vs1 := by decide) (hf : ∀ x, foldedSetIterable iter X.env x = pure x := by intro _; rfl) (hf1 : ∀ env x, foldedSetIterable iter1 env x = pure x := by intro _ _; rfl) :
    DE X EX (.ListComp elt [⟨tg, iter, ifs, 0⟩, ⟨tg1, iter1, ifs1, 0⟩] scope pos) (gLc2 bx g ns (own.map (·.2)) pf t g1 ns1 vs1 pf1 t1 el) := by
  obtain ⟨wi, pi, ei⟩ := hi.ev
  obtain ⟨gg, pg, eg⟩ := uni_g (X := X) (Xs := blkOf X scope) (fun _ => rfl) (fun _ => rfl) hg
  obtain ⟨tt, pt, et⟩ := uni_t (X := X) (Xs := blkOf X scope) (fun _ => rfl) (fun _ => rfl) ht
  obtain ⟨wi1, pi1, ei1⟩ := uni_i (X := X) (Xs := blkOf X scope) (fun _ => rfl) (fun _ => rfl) hi1
  obtain ⟨gg1, pg1, eg1⟩ := uni_g (X := X) (Xs := blkOf X scope) (fun _ => rfl) (fun _ => rfl) hg1
  obtain ⟨tt1, pt1, et1⟩ := uni_t (X := X) (Xs := blkOf X scope) (fun _ => rfl) (fun _ => rfl) ht1
  obtain ⟨te, pe, ee⟩ := uni_e (X := X) (Xs := blkOf X scope) (fun _ => rfl) (fun _ => rfl) he
  exact ⟨_, pe_lc2 hc hN pi (blkOk_by ok) hv (fun s H C cl fp => pg (s, H, C, cl, fp)) (fun s H C cl fp => pt (s, H, C, cl, fp)) (fun s H C cl fp => pi1 (s, H, C, cl, fp)) (fun s H C cl fp => pg1 (s, H, C, cl, fp)) (fun s H C cl fp => pt1 (s, H, C, cl, fp)) (fun s H C cl fp => pe (s, H, C, cl, fp)) hf hf1, ev_lc2 bx hs hs1 ei eg et ei1 eg1 et1 ee⟩
theorem ds_setLc2 (bx : Bool) (j : Nat) (own : List (Str × Nat)) (vs1 : List Nat) {y : Str} {py spos : Pos} (hc : X.calm = true) (hN : X.N.Nodup) (hsw : swapsWith (.ListComp elt [⟨tg, iter, ifs, 0⟩, ⟨tg1, iter1, ifs1, 0⟩] scope pos) (some (.Name y py)) spos.line X.env = pure true) (hi : DI X EX tg iter g) (ok : blkC X.N X.env.scope scope own = true) (hg : ∀ i, DGn (blkOf X scope i) tg ns pf) (ht : ∀ i, DTs (blkOf X scope i) ifs t)
    (hi1 : ∀ i, DI (blkOf X scope i) NX tg1 iter1 g1) (hg1 : ∀ i, DGn (blkOf X scope i) tg1 ns1 pf1) (ht1 : ∀ i, DTs (blkOf X scope i) ifs1 t1) (he : ∀ i, DE (blkOf X scope i) NX elt el)
    (hy : X.N[j]? = some y := by rfl) (hyl : X.env.scope.names.lookup y = some .local := by rfl) (hv : ∀ i ∈ vs1, i ∈ own.map (·.2) := by decide) (hs : ∀ n ∈ ns, n ∈ own.map (·.2) := by decide) (hs1 : ∀ n ∈ ns1, n ∈ vs1 := by decide) (hf : ∀ x, foldedSetIterable iter X.env x = pure x := by intro _; rfl) (hf1 : ∀ env x, foldedSetIterable iter1 env x = pure x := by intro _ _; rfl) :
    DS X EX (.Assign [.Name y py] (.ListComp elt [⟨tg, iter, ifs, 0⟩, ⟨tg1, iter1, ifs1, 0⟩] scope pos) spos) (fSet j (gLc2 bx g ns (own.map (·.2)) pf t g1 ns1 vs1 pf1 t1 el)) := by
  obtain ⟨wi, pi, ei⟩ := hi.ev
  obtain ⟨gg, pg, eg⟩ := uni_g (X := X) (Xs := blkOf X scope) (fun _ => rfl) (fun _ => rfl) hg
  obtain ⟨tt, pt, et⟩ := uni_t (X := X) (Xs := blkOf X scope) (fun _ => rfl) (fun _ => rfl) ht
  obtain ⟨wi1, pi1, ei1⟩ := uni_i (X := X) (Xs := blkOf X scope) (fun _ => rfl) (fun _ => rfl) hi1
  obtain ⟨gg1, pg1, eg1⟩ := uni_g (X := X) (Xs := blkOf X scope) (fun _ => rfl) (fun _ => rfl) hg1
  obtain ⟨tt1, pt1, et1⟩ := uni_t (X := X) (Xs := blkOf X scope) (fun _ => rfl) (fun _ => rfl) ht1
  obtain ⟨te, pe, ee⟩ := uni_e (X := X) (Xs := blkOf X scope) (fun _ => rfl) (fun _ => rfl) he
  refine ⟨_, ps_setLc2 hc hN hy hyl hsw pi (blkOk_by ok) hv (fun s H C cl fp => pg (s, H, C, cl, fp)) (fun s H C cl fp => pt (s, H, C, cl, fp)) (fun s H C cl fp => pi1 (s, H, C, cl, fp)) (fun s H C cl fp => pg1 (s, H, C, cl, fp)) (fun s H C cl fp => pt1 (s, H, C, cl, fp)) (fun s H C cl fp => pe (s, H, C, cl, fp)) hf hf1, ⟨fun W σ H S ρ D fl S' fr ho hf hp => ?_⟩⟩
  refine (ev_lc2 bx hs hs1 ei eg et ei1 eg1 et1 ee).sbd fr ho hf hp fun d v S1 H1 W1 w1 ho1 rd hk => ?_
  cases hk
  exact hp _ H1 W1 w1 ho1 ((fr.mono w1).set rd)
end
end
end Dm
set_option linter.all false
set_option maxRecDepth 100000
set_option maxHeartbeats 2000000
namespace Dm
open PySem L2 PySem.W PyProof.Rows PySem.Calls

/-! ### defs -/
abbrev FnS := List D → M D
def startD (n : Nat) (ds : List D) : Env := ds.map some ++ List.replicate (n - ds.length) none
def endD : Option (Fl × Store) → Option (Rs D × Store)
  | some (.nx _, S) => some (.ok .non, S)
  | some (.rt d, S) => some (.ok d, S)
  | some (.ex e _, S) => some (.ex e, S)
  | _ => none
/-- a def of so many parameters and names -/
def semD (ar n : Nat) (f : SM) : FnS := fun ds S => if ds.length = ar then endD (f (startD n ds) S) else none
def spD (K : PySem.W.Frag) (mg : Str → Option Value) (ar : Nat) (sem : FnS) : Sp := fun vs H Q E => ∃ W S ds r S', vs.length = ar ∧ Hold K mg W S H ∧ RepL K mg W ds vs ∧ sem ds S = some (r, S') ∧
  Post K mg (fun c d _ H => E c d H) (Rep K mg) W [] Q r S'
abbrev FO (P : Program) (w : World) (K : PySem.W.Frag) (mg : Str → Option Value) (base : Heap) (k : Nat) (f : Addr) (fd : FuncData) (ps : List Str) (sem : FnS) : Prop := FnOk P w K mg base (L2.CX P w) k f fd ps (spD K mg ps.length sem)
abbrev ExOf (E : XK) : WX := fun c d _ H => E c d H
section
variable {P : Program} {w : World} {K : PySem.W.Frag} {mg : Str → Option Value} {base : Heap}
theorem FO.none {k : Nat} {f : Addr} {fd : FuncData} {ps : List Str} : FO P w K mg base k f fd ps (fun _ _ => none) :=
  ⟨fun vs H Q E h => by obtain ⟨W, S, ds, r, S', h1, _⟩ := h; exact h1, fun A outer s H args us vs Q E hr he hb hv h => by obtain ⟨W, S, ds, r, S', _, _, _, h4, _⟩ := h; cases h4⟩
theorem fr_start {W : Wd} {N : List Str} {ds : List D} {vs : List V} (r : RepL K mg W ds vs) : Fr K mg W (startD N.length ds) (L2.start N vs) := by
  have hl := r.length
  refine ⟨by unfold startD L2.start; simp [hl], fun i d e => ?_⟩
  unfold startD at e
  by_cases hi : i < ds.length
  · rw [List.getElem?_append_left (by simpa using hi), List.getElem?_map] at e
    cases q : ds[i]? with
    | none => rw [q] at e; cases e
    | some d' =>
      rw [q] at e
      cases e
      obtain ⟨v, h1, h2⟩ := r.get q
      refine ⟨v, ?_, h2⟩
      unfold L2.start
      rw [List.getElem?_append_left (by rw [List.length_map, ← hl]; exact hi), List.getElem?_map, h1]; rfl
  · rw [List.getElem?_append_right (by simpa using hi), List.getElem?_replicate] at e
    split at e <;> cases e
theorem body_run {X : Cx} {EX : WX} {E : XK} {st : List Stmt} {fb : SM} {vs : List V} {H : Hp} {Q : VK} {ar : Nat} (hE : EX = ExOf E) (hb : DSs X EX st fb) (h : spD X.K X.mg ar (semD ar X.N.length fb) vs H Q E) :
    ∃ t, PSs X st t ∧ t { nx := fun _ H' => Q .non H', rt := Q } (L2.start X.N vs) H := by
  obtain ⟨W, S, ds, r, S', h1, ho, rl, hs, hp⟩ := h
  obtain ⟨t, pt, et⟩ := hb.ev
  refine ⟨t, pt, ?_⟩
  unfold semD at hs
  split at hs
  · cases e : fb (startD X.N.length ds) S with
    | none => rw [e] at hs; cases hs
    | some p =>
      obtain ⟨fl, S1⟩ := p
      rw [e] at hs
      refine et.run W (L2.start X.N vs) H S (startD X.N.length ds) _ fl S1 (fr_start rl) ho e ?_
      cases fl with
      | nx ρ => cases hs; exact fun σ H' W' w' ho' fr' => hp .non H' W' w' ho' .non
      | rt d => cases hs; exact fun v H' W' w' ho' r' => hp v H' W' w' ho' r'
      | bk ρ => cases hs
      | ct ρ => cases hs
      | ex x ρ => cases hs; subst hE; exact fun cls dd σ H' W' w' ho' fr' xr => hp cls dd H' W' w' ho' xr
  · cases hs
/-- THE RULE for a def -/
theorem def_ok {x qual : Str} {st : Stmt} {f : Addr} {fd : FuncData} {N ps : List Str} {k : Nat} {fb : SM} (F : Fun K x qual st f fd) (S : FnScope N ps (defScope st))
    (hb : ∀ (cdv : Value) (A : Around) (outer : List PySem.Env) (s : Shared) (H : Hp) (E : XK), Room k (cxOf (L2.CX P w) P w K mg base N qual (defScope st) f cdv A outer s H E).A → Takes (cxOf (L2.CX P w) P w K mg base N qual (defScope st) f cdv A outer s H E) (ExOf E) →
      PassesOwn (model P w) (cxOf (L2.CX P w) P w K mg base N qual (defScope st) f cdv A outer s H E).A (cxOf (L2.CX P w) P w K mg base N qual (defScope st) f cdv A outer s H E).env (cxOf (L2.CX P w) P w K mg base N qual (defScope st) f cdv A outer s H E).xe →
      DSs (cxOf (L2.CX P w) P w K mg base N qual (defScope st) f cdv A outer s H E) (ExOf E) (defBody st) fb) : FO P w K mg base (k + 1) f fd ps (semD ps.length N.length fb) := by
  refine F.okX S (fun vs H Q E h => by obtain ⟨W, S, ds, r, S', h1, _⟩ := h; exact h1) fun cdv A outer s H vs Q E hr h => ?_
  exact body_run (X := cxOf (L2.CX P w) P w K mg base N qual (defScope st) f cdv A outer s H E) rfl (hb cdv A outer s H E hr (takes_of rfl rfl rfl rfl) (passes_of rfl)) h
theorem defD_ok {x qual : Str} {params : Arguments} {body : List Stmt} {scope : Scope} {dvs : List V} {kws : List (Str × V)} {f : Addr} {fd : FuncData} {N ps : List Str} {k : Nat} {fb : SM} (F : FunD K x qual params body scope dvs kws f fd) (S : FnScope N ps scope)
    (hb : ∀ (cdv : Value) (A : Around) (outer : List PySem.Env) (s : Shared) (H : Hp) (E : XK), Room k (cxOf (L2.CX P w) P w K mg base N qual scope f cdv A outer s H E).A → Takes (cxOf (L2.CX P w) P w K mg base N qual scope f cdv A outer s H E) (ExOf E) →
      PassesOwn (model P w) (cxOf (L2.CX P w) P w K mg base N qual scope f cdv A outer s H E).A (cxOf (L2.CX P w) P w K mg base N qual scope f cdv A outer s H E).env (cxOf (L2.CX P w) P w K mg base N qual scope f cdv A outer s H E).xe →
      DSs (cxOf (L2.CX P w) P w K mg base N qual scope f cdv A outer s H E) (ExOf E) body fb) : FO P w K mg base (k + 1) f fd ps (semD ps.length N.length fb) := by
  refine F.ok S (fun vs H Q E h => by obtain ⟨W, S, ds, r, S', h1, _⟩ := h; exact h1) fun cdv A outer s H vs Q E hr h => ?_
  exact body_run (X := cxOf (L2.CX P w) P w K mg base N qual scope f cdv A outer s H E) rfl (hb cdv A outer s H E hr (takes_of rfl rfl rfl rfl) (passes_of rfl)) h
end

/-! ### calls -/
def gCall (ar : Nat) (sem : FnS) (h : AM) : EM := fun ρ S => bd (h ρ S) fun xs S1 => if xs.length = ar then sem xs S1 else none
/-- static data: defaults -/
def Stat (K : PySem.W.Frag) (mg : Str → Option Value) (ds : List D) (vs : List V) : Prop := ∀ W, RepL K mg W ds vs
/-- exceptions that leave a callee, whatever the slots -/
structure Lets (X : Cx) (EX : WX) : Prop where
  tk : Takes X EX
  cn : ∀ c d σ σ' H, EX c d σ H → EX c d σ' H
theorem lets_of {X : Cx} {E : XK} (tk : Takes X (ExOf E)) : Lets X (ExOf E) := ⟨tk, fun _ _ _ _ _ h => h⟩
theorem lets_nx {X : Cx} : Lets X NX := ⟨takes0, fun _ _ _ _ _ h => h⟩
section
variable {X : Cx} {EX : WX} {k : Nat} {f C : Addr} {fd : FuncData} {ps : List Str} {sem : FnS} {x m : Str} {p pos apos : Pos} {e o : Expr} {es : List Expr} {h : AM} {go : EM}
theorem sp_of {W : Wd} {S S' : Store} {H : Hp} {ds : List D} {vs : List V} {r : Rs D} {Q : VK} {σ : L2.St} {ar : Nat} (ho : Hold X.K X.mg W S H) (rl : RepL X.K X.mg W ds vs) (hl : ds.length = ar) (hs : sem ds S = some (r, S')) (hp : Post X.K X.mg EX (RD X) W σ Q r S') :
    spD X.K X.mg ar sem vs H Q (WE EX σ) := by
  refine ⟨W, S, ds, r, S', by rw [← rl.length]; exact hl, ho, rl, hs, ?_⟩
  cases r with
  | ok d => exact hp
  | ex x => exact hp
theorem de_call (F : FO X.prog X.w X.K X.mg X.base k f fd ps sem) (hr : Room k X.A) (hm : X.mg x = some (.ref f)) (hk : PySem.W.keepIn X.K (.ref f) = true) (hb : Binds X.K fd ps []) (tk : Takes X EX) (ha : DA X EX (e :: es) h)
    (hg : Gl X x := by rfl) (hdb : (x == ("__debug__" : Str)) = false := by decide) (he : starEach (e :: es) X.env = (false, eval e X.env) :: starEach es X.env := by rfl) (hpl : (backTo pos (starEach es X.env)).any (·.1) = false := by rfl) :
    DE X EX (.Call (.Name x p) (e :: es) [] pos) (gCall ps.length sem h) := by
  obtain ⟨ta, pa, ea⟩ := ha.ev
  refine ⟨_, pe_callS F hr hg hm hk hb (fun σ => passAt tk σ) pa hdb he hpl, ⟨fun W σ H S ρ Q r S' fr ho hf hp => ?_⟩⟩
  refine ea.bd fr ho hf hp.exn fun xs vs S1 H1 W1 w1 ho1 rl hk => ?_
  split at hk
  · rename_i hl
    exact sp_of ho1 rl hl hk (hp.mono w1)
  · cases hk
/-- the defaults fill up -/
def gCallD (ar : Nat) (sem : FnS) (dd : List D) (h : AM) : EM := fun ρ S => bd (h ρ S) fun xs S1 => if (xs ++ dd).length = ar then sem (xs ++ dd) S1 else none
theorem ltk {σ0 : L2.St} (lt : Lets X EX) : Passes (L2.CX X.prog X.w) X (WE EX σ0) := fun pins σ H s e s' I c => lt.tk e s' (XE.of_call I (fun cls d H' h => lt.cn cls d σ0 σ H' h) c)
theorem de_callD (F : FO X.prog X.w X.K X.mg X.base k f fd ps sem) (hr : Room k X.A) (hm : X.mg x = some (.ref f)) (hk : PySem.W.keepIn X.K (.ref f) = true) {ds : List Value} {dvs : List V} {dd : List D} (hb : Binds X.K fd ps ds) (hd : Vals dvs ds) (hst : Stat X.K X.mg dd dvs) (lt : Lets X EX) (ha : DA X EX (e :: es) h)
    (hg : Gl X x := by rfl) (hdb : (x == ("__debug__" : Str)) = false := by decide) (he : starEach (e :: es) X.env = (false, eval e X.env) :: starEach es X.env := by rfl) (hpl : (backTo pos (starEach es X.env)).any (·.1) = false := by rfl) :
    DE X EX (.Call (.Name x p) (e :: es) [] pos) (gCallD ps.length sem dd h) := by
  obtain ⟨ta, pa, ea⟩ := ha.ev
  refine ⟨fun σ H Q => tCall (spD X.K X.mg ps.length sem) dvs (WE EX σ) ta σ H Q, ⟨fun pins s σ H Q I hw => (pe_call F hr hg hm hk hb hd (ltk (σ0 := σ) lt) pa hdb he hpl).run pins s σ H Q I hw⟩, ⟨fun W σ H S ρ Q r S' fr ho hf hp => ?_⟩⟩
  refine ea.bd fr ho hf hp.exn fun xs vs S1 H1 W1 w1 ho1 rl hk => ?_
  split at hk
  · rename_i hl
    exact sp_of ho1 (rl.append (hst W1)) hl hk (hp.mono w1)
  · cases hk
theorem de_call0 (F : FO X.prog X.w X.K X.mg X.base k f fd ps sem) (hr : Room k X.A) (hm : X.mg x = some (.ref f)) (hk : PySem.W.keepIn X.K (.ref f) = true) {ds : List Value} {dvs : List V} {dd : List D} (hb : Binds X.K fd ps ds) (hd : Vals dvs ds) (hst : Stat X.K X.mg dd dvs) (lt : Lets X EX)
    (hg : Gl X x := by rfl) (hdb : (x == ("__debug__" : Str)) = false := by decide) : DE X EX (.Call (.Name x p) [] [] pos) (gCallD ps.length sem dd aNil) := by
  refine ⟨fun σ H Q => tCall (spD X.K X.mg ps.length sem) dvs (WE EX σ) tNil σ H Q, ⟨fun pins s σ H Q I hw => (pe_call0 F hr hg hm hk hb hd (ltk (σ0 := σ) lt) hdb).run pins s σ H Q I hw⟩, ⟨fun W σ H S ρ Q r S' fr ho hf hp => ?_⟩⟩
  refine (da_nil (X := X) (EX := EX)).ev.elim fun t ht => ?_
  unfold gCallD at hf
  rw [show (aNil ρ S : Option (Rs (List D) × Store)) = some (.ok [], S) from rfl, bd_ok] at hf
  split at hf
  · rename_i hl
    exact sp_of (ds := [] ++ dd) (vs := [] ++ dvs) ho (hst W) hl hf hp
  · cases hf
/-- keywords -/
structure DK (X : Cx) (EX : WX) (kws : List Keyword) (g : AM) : Prop where
  ev : ∃ t, PK X kws t ∧ Ev X.K X.mg EX (RL X) t g
variable {kws : List Keyword} {h2 : AM} {nm : Option Str} {kpos : Pos} {g : EM}
theorem dk_nil : DK X EX [] aNil := by
  refine ⟨tNil, pk_nil, ⟨fun W σ H S ρ Q r S' fr ho hg hp => ?_⟩⟩
  cases hg
  exact hp [] H W (Wle.refl W) ho .nil
theorem dk_cons (ha : DE X EX e g) (hr : DK X EX kws h) : DK X EX (⟨nm, e, kpos⟩ :: kws) (aCons g h) := by
  obtain ⟨ta, pa, ea⟩ := ha.ev
  obtain ⟨tb, pb, eb⟩ := hr.ev
  refine ⟨_, pk_cons pa pb, ⟨fun W σ H S ρ Q r' S' fr ho hg hp => ?_⟩⟩
  refine ea.bd fr ho hg hp.exn fun x v S1 H1 W1 w1 ho1 rx hg1 => ?_
  refine eb.bd (fr.mono w1) ho1 hg1 (hp.mono w1).exn fun xs vs S2 H2 W2 w2 ho2 rxs hg2 => ?_
  cases hg2
  exact hp (v :: vs) H2 W2 (w1.trans w2) ho2 (.cons (rx.mono w2) rxs)
/-- the parameters, put in order on both sides alike -/
def Ord (K : PySem.W.Frag) (mg : Str → Option Value) (gD : List D → List D → List D) (gV : List V → List V → List V) : Prop := ∀ W xs vs zs us, RepL K mg W xs vs → RepL K mg W zs us → RepL K mg W (gD xs zs) (gV vs us)
def gCallN (n m ar : Nat) (sem : FnS) (gD : List D → List D → List D) (h h2 : AM) : EM := fun ρ S => bd (h ρ S) fun xs S1 => bd (h2 ρ S1) fun zs S2 => if xs.length = n ∧ zs.length = m ∧ (gD xs zs).length = ar then sem (gD xs zs) S2 else none
theorem de_callN {n : Nat} {ks : List Str} {gg : List Value → List Value → List Value} {gV : List V → List V → List V} {gD : List D → List D → List D} (F : FO X.prog X.w X.K X.mg X.base k f fd ps sem) (hr : Room k X.A) (hm : X.mg x = some (.ref f)) (hk : PySem.W.keepIn X.K (.ref f) = true) (hb : KBn X.K fd ps n ks gg gV) (od : Ord X.K X.mg gD gV) (lt : Lets X EX) (ha : DA X EX (e :: es) h) (hkw : DK X EX kws h2)
    (hg : Gl X x := by rfl) (hall : (backToKw pos (keywordEach kws X.env)).all (·.1.isSome) = true := by rfl) (hks : (backToKw pos (keywordEach kws X.env)).filterMap (·.1) = ks := by rfl) (hdb : (x == ("__debug__" : Str)) = false := by decide)
    (he : starEach (e :: es) X.env = (false, eval e X.env) :: starEach es X.env := by rfl) (hpl : ((backTo pos (starEach (e :: es) X.env)).any (·.1) || (backToKw pos (keywordEach kws X.env)).any (·.1.isNone)) = false := by rfl) :
    DE X EX (.Call (.Name x p) (e :: es) kws pos) (gCallN n ks.length ps.length sem gD h h2) := by
  obtain ⟨ta, pa, ea⟩ := ha.ev
  obtain ⟨tb, pb, eb⟩ := hkw.ev
  refine ⟨fun σ H Q => tCallN n ks.length (spD X.K X.mg ps.length sem) gV (WE EX σ) ta tb σ H Q, ⟨fun pins s σ H Q I hw => (pe_callN F hr hg hm hk hb (ltk (σ0 := σ) lt) pa pb hall hks hdb he hpl).run pins s σ H Q I hw⟩, ⟨fun W σ H S ρ Q r S' fr ho hf hp => ?_⟩⟩
  refine ea.bd fr ho hf hp.exn fun xs vs S1 H1 W1 w1 ho1 rl hk1 => ?_
  refine eb.bd (fr.mono w1) ho1 hk1 (hp.mono w1).exn fun zs us S2 H2 W2 w2 ho2 rz hk2 => ?_
  split at hk2
  · rename_i hl
    have rl' := rl.mono w2
    exact ⟨by rw [← rl.length]; exact hl.1, by rw [← rz.length]; exact hl.2.1, sp_of ho2 (od W2 _ _ _ _ rl' rz) hl.2.2 hk2 (hp.mono (w1.trans w2))⟩
  · cases hk2

/-! ### objects -/
def insOf (S : Store) : D → Option (Str × List (Str × D))
  | .box i => (match S[i]? with
    | some (.ins c fs) => some (c, fs)
    | _ => none)
  | _ => none
theorem insOf_ok {K : PySem.W.Frag} {mg : Str → Option Value} {W : Wd} {S : Store} {H : Hp} {d : D} {v : V} {c : Str} {fs : List (Str × D)} (ho : Hold K mg W S H) (r : Rep K mg W d v) (h : insOf S d = some (c, fs)) :
    ∃ i a C dx vs, d = .box i ∧ v = .ref a ∧ W.eta[i]? = some a ∧ S[i]? = some (.ins c fs) ∧ mg c = some (.ref C) ∧ H a = some (.ins C dx vs) ∧ Paired (fun (p : Str × D) (q : Str × V) => p.1 = q.1 ∧ Rep K mg W p.2 q.2) fs vs := by
  unfold insOf at h
  split at h
  · rename_i i
    split at h
    · rename_i c' fs' e
      cases h
      cases r with
      | box ha =>
        obtain ⟨C, dx, vs, h1, h2, h3⟩ := ho.cell ha e
        exact ⟨i, _, C, dx, vs, rfl, rfl, ha, e, h1, h2, h3⟩
    · cases h
  · cases h
theorem fld_look {K : PySem.W.Frag} {mg : Str → Option Value} {W : Wd} {f : Str} : ∀ {fs : List (Str × D)} {vs : List (Str × V)}, Paired (fun (p : Str × D) (q : Str × V) => p.1 = q.1 ∧ Rep K mg W p.2 q.2) fs vs →
    (∀ d, fs.lookup f = some d → ∃ v, vs.lookup f = some v ∧ Rep K mg W d v) ∧ (fs.lookup f = none → vs.lookup f = none)
  | [], _, .nil => ⟨fun d e => (by cases e), fun _ => rfl⟩
  | (a, d0) :: fs, _, .cons (b := q) h r => by
    obtain ⟨b, v0⟩ := q
    obtain ⟨h1, h2⟩ := h
    have h1 : a = b := h1
    subst h1
    obtain ⟨i1, i2⟩ := fld_look (f := f) r
    constructor
    · intro d e
      rw [List.lookup_cons] at e ⊢
      cases hb : f == a with
      | true => rw [hb] at e; cases e; exact ⟨v0, rfl, h2⟩
      | false => rw [hb] at e; exact i1 d e
    · intro e
      rw [List.lookup_cons] at e ⊢
      cases hb : f == a with
      | true => rw [hb] at e; cases e
      | false => rw [hb] at e; exact i2 e
/-- what is known of the classes whose instances stand here -/
def Kn (X : Cx) (cs : List Str) (f : Str) : Prop := ∀ c ∈ cs, ∀ C, X.mg c = some (.ref C) → Cls X.K C ∧ NoAttr X.K C f
def gFld (cs : List Str) (f : Str) (go : EM) : EM := fun ρ S => bd (go ρ S) fun x S1 => match insOf S1 x with
  | some (c, fs) => if c ∈ cs then (match fs.lookup f with
    | some d => some (.ok d, S1)
    | none => none) else none
  | none => none
theorem de_fld {cs : List Str} {f : Str} (ho : DE X EX o go) (kn : Kn X cs f) (hb : attributeBase o f X.env (eval o X.env) = eval o X.env := by rfl) : DE X EX (.Attribute o f pos) (gFld cs f go) := by
  obtain ⟨ta, pa, ea⟩ := ho.ev
  refine ⟨_, pe_fld pa hb, ⟨fun W σ H S ρ Q r S' fr ho hf hp => ?_⟩⟩
  refine ea.bd fr ho hf hp.exn fun x v S1 H1 W1 w1 ho1 rx hk => ?_
  cases e : insOf S1 x with
  | none => rw [e] at hk; cases hk
  | some q =>
    obtain ⟨c, fs⟩ := q
    rw [e] at hk
    simp only at hk
    split at hk
    · rename_i hc
      obtain ⟨i, a, C, dx, vs, e1, e2, e3, e4, e5, e6, e7⟩ := insOf_ok ho1 rx e
      cases el : fs.lookup f with
      | none => rw [el] at hk; cases hk
      | some d =>
        rw [el] at hk
        cases hk
        obtain ⟨v0, k1, k2⟩ := (fld_look (f := f) e7).1 d el
        obtain ⟨c1, c2⟩ := kn c hc C e5
        exact ⟨a, C, dx, vs, v0, e2, e6, c1, c2, k1, hp v0 H1 W1 w1 ho1 k2⟩
    · cases hk
/-- o.f = e -/
def putD (f : Str) (y : D) : List (Str × D) → List (Str × D)
  | [] => [(f, y)]
  | (a, d) :: r => if a = f then (a, y) :: r else (a, d) :: putD f y r
end
end Dm
set_option linter.all false
set_option maxRecDepth 100000
set_option maxHeartbeats 2000000
namespace Dm
open PySem L2 PySem.W PyProof.Rows PySem.Calls

/-! ### o.f = e -/
theorem putD_rep {K : PySem.W.Frag} {mg : Str → Option Value} {W : Wd} {f : Str} {y : D} {v : V} (r : Rep K mg W y v) : ∀ {fs : List (Str × D)} {vs : List (Str × V)}, Paired (fun (p : Str × D) (q : Str × V) => p.1 = q.1 ∧ Rep K mg W p.2 q.2) fs vs →
    Paired (fun (p : Str × D) (q : Str × V) => p.1 = q.1 ∧ Rep K mg W p.2 q.2) (putD f y fs) (putF f v vs)
  | [], _, .nil => .cons ⟨rfl, r⟩ .nil
  | (a, d0) :: fs, _, .cons (b := q) h rr => by
    obtain ⟨b, v0⟩ := q
    obtain ⟨h1, h2⟩ := h
    have h1 : a = b := h1
    subst h1
    show Paired _ (if a = f then (a, y) :: fs else (a, d0) :: putD f y fs) (if a = f then (a, v) :: _ else (a, v0) :: putF f v _)
    by_cases e : a = f
    · rw [if_pos e, if_pos e]; exact .cons ⟨rfl, r⟩ rr
    · rw [if_neg e, if_neg e]; exact .cons ⟨rfl, h2⟩ (putD_rep r rr)
theorem paired_len {α β : Type} {F : α → β → Prop} : ∀ {l : List α} {m : List β}, Paired F l m → l.length = m.length
  | _, _, .nil => rfl
  | _, _, .cons _ r => congrArg (· + 1) (paired_len r)
def oPut (cs : List Str) (f : Str) (S : Store) (x y : D) : Option Store := match x with
  | .box i => (match S[i]? with
    | some (.ins c fs) => if c ∈ cs ∧ fs.length < 1000 then some (S.set i (.ins c (putD f y fs))) else none
    | _ => none)
  | _ => none
theorem oPut_ok {K : PySem.W.Frag} {mg : Str → Option Value} {W : Wd} {S S' : Store} {H : Hp} {cs : List Str} {f : Str} {x y : D} {vx vy : V} (ho : Hold K mg W S H) (r1 : Rep K mg W x vx) (r2 : Rep K mg W y vy) (h : oPut cs f S x y = some S') :
    ∃ c ∈ cs, ∃ a C dx vs, mg c = some (.ref C) ∧ vx = .ref a ∧ H a = some (.ins C dx vs) ∧ vs.length < 1000 ∧ Hold K mg W S' (upd H a (.ins C dx (putF f vy vs))) := by
  unfold oPut at h
  split at h
  · rename_i i
    split at h
    · rename_i c fs e
      split at h
      · rename_i hc
        cases h
        cases r1 with
        | box ha =>
          obtain ⟨C, dx, vs, h1, h2, h3⟩ := ho.cell ha e
          refine ⟨c, hc.1, _, C, dx, vs, h1, rfl, h2, by rw [← paired_len h3]; exact hc.2, ?_⟩
          exact ho.written ha e (by intro z; cases z) ⟨C, dx, _, h1, upd_same, putD_rep r2 h3⟩
      · cases h
    · cases h
  · cases h
def gAtt (cs : List Str) (f : Str) (go : EM) : TGM := fun v ρ S => bd (go ρ S) fun o S1 => match oPut cs f S1 o v with
  | some S2 => some (.ok ρ, S2)
  | none => none
def gAttV (K : PySem.W.Frag) (to : TE) (f : Str) : TG := fun v σ H Q => to σ H fun x H1 => ∃ a C dx fs, x = .ref a ∧ H1 a = some (.ins C dx fs) ∧ Cls K C ∧ NoAttr K C f ∧ fs.length < 1000 ∧ Q σ (upd H1 a (.ins C dx (putF f v fs)))
section
variable {X : Cx} {EX : WX} {o e : Expr} {f : Str} {cs : List Str} {pos p2 : Pos} {go g : EM} {to : TE}
theorem pg_att (ho : PE X o to) : PG X (.Attribute o f pos) (gAttV X.K to f) := by
  refine ⟨fun pins s σ H v u Q I r h => ?_⟩
  rw [assign_Attribute]
  refine wpAny_bind (wpAny_holding (thn (ho.run pins s σ H _ I h) fun ov s1 ⟨x, H1, I1, r1, a, C, dx, fs, ex, ea, c, n, l, q⟩ => ?_))
  subst ex
  obtain rfl : ov = Value.ref a := r1
  refine wpAny_bind (wpAny_standAt ?_)
  first
    | exact wpAny_bind (wpAny_holding (setattr_ok I1 ea c n l r fun s3 I3 => wpAny_release ⟨σ, _, I3, q⟩))
    | exact wpAny_bind (wpAny_holding (setattr_ok I1 ea c n l r fun s3 I3 => wpAny_bind (wpAny_release ⟨σ, _, I3, q⟩)))
theorem dg_att (ho : DE X EX o go) (kn : Kn X cs f) : DG X EX (.Attribute o f pos) (gAtt cs f go) := by
  obtain ⟨ta, pa, ea⟩ := ho.ev
  refine ⟨_, pg_att pa, fun W σ H S ρ d v Q r S' fr hh rd hf hp => ?_⟩
  refine ea.bd fr hh hf hp.exn fun x vx S1 H1 W1 w1 ho1 rx hk => ?_
  have hk : (match oPut cs f S1 x d with
    | some S2 => some (Rs.ok ρ, S2)
    | none => none) = some (r, S') := hk
  cases e : oPut cs f S1 x d with
  | none => rw [e] at hk; cases hk
  | some S2 =>
    rw [e] at hk
    cases hk
    obtain ⟨c, hc, a, C, dx, vs, e1, e2, e3, e4, e5⟩ := oPut_ok ho1 rx (rd.mono w1) e
    obtain ⟨k1, k2⟩ := kn c hc C e1
    exact ⟨a, C, dx, vs, e2, e3, k1, k2, e4, hp σ _ W1 w1 e5 (fr.mono w1)⟩
def fFld (cs : List Str) (f : Str) (g go : EM) : SM := fun ρ S => sbd (g ρ S) ρ fun y S1 => sbd (go ρ S1) ρ fun x S2 => match oPut cs f S2 x y with
  | some S3 => some (.nx ρ, S3)
  | none => none
theorem ds_fld (ho : DE X EX o go) (hv : DE X EX e g) (kn : Kn X cs f) (hs : swapsWith e (some (.Attribute o f p2)) pos.line X.env = pure false := by rfl) : DS X EX (.Assign [.Attribute o f p2] e pos) (fFld cs f g go) := by
  obtain ⟨ta, pa, ea⟩ := ho.ev
  obtain ⟨tv, pv, ev⟩ := hv.ev
  refine ⟨_, ps_fld pa pv hs, ⟨fun W σ H S ρ D fl S' fr hh hf hp => ?_⟩⟩
  refine ev.sbd fr hh hf hp fun y vy S1 H1 W1 w1 ho1 ry hk => ?_
  refine ea.sbd (fr.mono w1) ho1 hk (hp.mono w1) fun x vx S2 H2 W2 w2 ho2 rx hk2 => ?_
  have hk2 : (match oPut cs f S2 x y with
    | some S3 => some (Fl.nx ρ, S3)
    | none => none) = some (fl, S') := hk2
  cases e : oPut cs f S2 x y with
  | none => rw [e] at hk2; cases hk2
  | some S3 =>
    rw [e] at hk2
    cases hk2
    obtain ⟨c, hc, a, C, dx, vs, e1, e2, e3, e4, e5⟩ := oPut_ok ho2 rx (ry.mono w2) e
    obtain ⟨k1, k2⟩ := kn c hc C e1
    exact ⟨a, C, dx, vs, e2, e3, k1, k2, e4, hp σ _ W2 (w1.trans w2) e5 (fr.mono (w1.trans w2))⟩
end

/-! ### tuples of any targets -/
abbrev TGMs := List D → Env → M Env
structure DGs (X : Cx) (EX : WX) (tgs : List Expr) (f : TGMs) : Prop where
  ev : ∃ t, PGs X tgs t ∧ ∀ W σ H S ρ d v Q r S', Fr X.K X.mg W ρ σ → Hold X.K X.mg W S H → RepL X.K X.mg W d v → f d ρ S = some (r, S') → Post X.K X.mg EX (RFr X) W σ Q r S' → t v σ H Q
/-- as a tuple's targets: an exception within is none of ours -/
structure DGq (X : Cx) (tg : Expr) (f : TGM) : Prop where
  ev : ∃ t, PG X tg t ∧ ∀ W σ H S ρ d v Q ρ' S', Fr X.K X.mg W ρ σ → Hold X.K X.mg W S H → Rep X.K X.mg W d v → f d ρ S = some (.ok ρ', S') → (∀ σ' H' W', Wle W W' → Hold X.K X.mg W' S' H' → Fr X.K X.mg W' ρ' σ' → Q σ' H') → t v σ H Q
structure DGqs (X : Cx) (tgs : List Expr) (f : TGMs) : Prop where
  ev : ∃ t, PGs X tgs t ∧ ∀ W σ H S ρ d v Q ρ' S', Fr X.K X.mg W ρ σ → Hold X.K X.mg W S H → RepL X.K X.mg W d v → f d ρ S = some (.ok ρ', S') → (∀ σ' H' W', Wle W W' → Hold X.K X.mg W' S' H' → Fr X.K X.mg W' ρ' σ' → Q σ' H') → t v σ H Q
def gqNil : TGMs := fun ds ρ S => if ds.isEmpty = true then some (.ok ρ, S) else none
def gqCons (f : TGM) (g : TGMs) : TGMs
  | d :: r, ρ, S => (match f d ρ S with
    | some (.ok ρ1, S1) => g r ρ1 S1
    | _ => none)
  | [], _, _ => none
def okT (f : TGM) : TGM := fun d ρ S => match f d ρ S with
  | some (.ok ρ', S') => some (.ok ρ', S')
  | _ => none
section
variable {X : Cx} {EX : WX} {tg : Expr} {es : List Expr} {f : TGM} {g : TGMs} {pos : Pos}
theorem dgq_of (h : DG X NX tg f) : DGq X tg f := by
  obtain ⟨t, pt, et⟩ := h.ev
  exact ⟨t, pt, fun W σ H S ρ d v Q ρ' S' fr ho r hf hq => et W σ H S ρ d v Q (.ok ρ') S' fr ho r hf fun σ' H' W' w ho' fr' => hq σ' H' W' w ho' fr'⟩
theorem dg_ofq (h : DGq X tg f) : DG X EX tg (okT f) := by
  obtain ⟨t, pt, et⟩ := h.ev
  refine ⟨t, pt, fun W σ H S ρ d v Q r S' fr ho rd hf hp => ?_⟩
  unfold okT at hf
  cases e : f d ρ S with
  | none => rw [e] at hf; cases hf
  | some p =>
    obtain ⟨r1, S1⟩ := p
    rw [e] at hf
    cases r1 with
    | ex x => cases hf
    | ok ρ1 =>
      cases hf
      exact et W σ H S ρ d v Q ρ1 _ fr ho rd e fun σ' H' W' w ho' fr' => hp σ' H' W' w ho' fr'
theorem dgqs_nil : DGqs X [] gqNil := by
  refine ⟨_, pgs_nil, fun W σ H S ρ d v Q ρ' S' fr ho r hf hq => ?_⟩
  unfold gqNil at hf
  split at hf
  · rename_i e
    cases hf
    cases r with
    | nil => exact ⟨rfl, hq σ H W (Wle.refl W) ho fr⟩
    | cons _ _ => cases e
  · cases hf
theorem dgqs_cons (h : DGq X tg f) (hr : DGqs X es g) (hs : (assignEach (tg :: es) X.env).map (·.2) = assign tg X.env :: (assignEach es X.env).map (·.2) := by rfl) : DGqs X (tg :: es) (gqCons f g) := by
  obtain ⟨t, pt, et⟩ := h.ev
  obtain ⟨u, pu, eu⟩ := hr.ev
  refine ⟨_, pgs_cons pt pu hs, fun W σ H S ρ d v Q ρ' S' fr ho r hf hq => ?_⟩
  cases r with
  | nil => cases hf
  | @cons d0 dr v0 vr r rr =>
    have hf : (match f d0 ρ S with
      | some (.ok ρ1, S1) => g dr ρ1 S1
      | _ => none) = some (.ok ρ', S') := hf
    cases e : f d0 ρ S with
    | none => rw [e] at hf; cases hf
    | some p =>
      obtain ⟨r1, S1⟩ := p
      rw [e] at hf
      cases r1 with
      | ex x => cases hf
      | ok ρ1 =>
        refine ⟨v0, vr, rfl, et W σ H S ρ d0 v0 _ ρ1 S1 fr ho r e fun σ1 H1 W1 w1 ho1 fr1 => ?_⟩
        exact eu W1 σ1 H1 S1 ρ1 dr vr Q ρ' S' fr1 ho1 (rr.mono w1) hf fun σ' H' W' w' ho' fr' => hq σ' H' W' (w1.trans w') ho' fr'
def gqTup (n : Nat) (g : TGMs) : TGM := fun d ρ S => match sqA S d with
  | some xs => if xs.length = n then g xs ρ S else none
  | none => none
theorem dgq_tup {k : Nat} (n : Nat) (hc : X.calm = true) (h : DGqs X es g) (hn : (assignEach es X.env).length = n := by rfl) (hst : (assignEach es X.env).findIdx? (·.1) = none := by rfl) : DGq X (.Tuple es k pos) (gqTup n g) := by
  obtain ⟨t, pt, et⟩ := h.ev
  refine ⟨_, pg_or (pg_unl hc pt hn hst) (pg_tup hc pt hn hst), fun W σ H S ρ d v Q ρ' S' fr ho r hf hq => ?_⟩
  unfold gqTup at hf
  cases e : sqA S d with
  | none => rw [e] at hf; cases hf
  | some xs =>
    rw [e] at hf
    simp only at hf
    split at hf
    · rename_i hl
      obtain ⟨a, vs, ev, hs, rl, hz⟩ := sqA_ok ho r e
      rcases hs with hs | hs
      · exact .inl ⟨a, vs, ev, hs, by rw [← rl.length]; exact hl, et W σ H S ρ xs vs Q ρ' S' fr ho rl hf hq⟩
      · exact .inr ⟨a, vs, ev, hs, by rw [← rl.length]; exact hl, et W σ H S ρ xs vs Q ρ' S' fr ho rl hf hq⟩
    · cases hf
end

/-! ### methods -/
/-- a method as the walk wants it: by the classes of the object -/
structure Mth (X : Cx) (k : Nat) (m : Str) (nargs : Nat) (c : Str) (sem : FnS) : Prop where
  ex : ∀ C, X.mg c = some (.ref C) → Cls X.K C ∧ ∃ f fd ps ds dvs dd, Meth X.K C m f ∧ FO X.prog X.w X.K X.mg X.base k f fd ps (fun xs S => if xs.length = ps.length then sem xs S else none) ∧ Binds X.K fd ps ds ∧ Vals dvs ds ∧ dd = dvs.length ∧ nargs + 1 + dd = ps.length
/-- a method, its full promise -/
structure MD (X : Cx) (k : Nat) (m : Str) (c : Str) (ar : Nat) (sem : FnS) (dd : List D) : Prop where
  ex : ∀ C, X.mg c = some (.ref C) → Cls X.K C ∧ ∃ f fd ps ds dvs, Meth X.K C m f ∧ FO X.prog X.w X.K X.mg X.base k f fd ps sem ∧ ps.length = ar ∧ Binds X.K fd ps ds ∧ Vals dvs ds ∧ Stat X.K X.mg dd dvs
/-- what is called, by the class -/
abbrev MTab := List (Str × Nat × FnS × List D)
def gMeth (tab : MTab) (m : Str) (go : EM) (h : AM) : EM := fun ρ S => bd (go ρ S) fun x S1 => match insOf S1 x with
  | some (c, fs) => (match tab.lookup c, fs.lookup m with
    | some (ar, sem, dd), none => bd (h ρ S1) fun xs S2 => if (x :: (xs ++ dd)).length = ar then sem (x :: (xs ++ dd)) S2 else none
    | _, _ => none)
  | none => none
theorem lookup_mem' {α : Type} : ∀ {l : List (Str × α)} {c : Str} {v : α}, l.lookup c = some v → (c, v) ∈ l
  | (a, u) :: r, c, v, h => by
    rw [List.lookup_cons] at h
    cases hb : c == a with
    | true =>
      rw [hb] at h
      cases h
      rw [eq_of_beq hb]
      exact List.mem_cons_self
    | false =>
      rw [hb] at h
      exact List.mem_cons_of_mem _ (lookup_mem' h)
section
variable {X : Cx} {EX : WX} {k : Nat} {o e : Expr} {es : List Expr} {m : Str} {tab : MTab} {pos apos : Pos} {go : EM} {h : AM}
/-- what the walk wants of each class of the table -/
def MOk (X : Cx) (k : Nat) (m : Str) (tab : MTab) : Prop := ∀ t ∈ tab, MD X k m t.1 t.2.1 t.2.2.1 t.2.2.2
theorem de_meth {pl : Sem Bool} (ho : DE X EX o go) (mt : MOk X k m tab) (hr : Room k X.A) (lt : Lets X EX) (ha : DA X EX (e :: es) h)
    (hst : starEach (e :: es) X.env = (false, eval e X.env) :: starEach es X.env := by rfl) (hpl : (backTo pos (starEach es X.env)).any (·.1) = false := by rfl)
    (ht : eval (.Call (.Attribute o m apos) (e :: es) [] pos) X.env = (do
      let ov ← eval o X.env
      standAt apos.atName
      let (f, first) ← holding [ov] (getMethod ov m pl)
      callWith pos f first (backTo pos (starEach (e :: es) X.env)) (backToKw pos (keywordEach [] X.env))) := by rfl) :
    DE X EX (.Call (.Attribute o m apos) (e :: es) [] pos) (gMeth tab m go h) := by
  obtain ⟨to, po, eo⟩ := ho.ev
  obtain ⟨ta, pa, ea⟩ := ha.ev
  refine ⟨fun σ H Q => ∃ t, PE X (.Call (.Attribute o m apos) (e :: es) [] pos) t ∧ t σ H Q, ⟨fun pins s σ H Q I ⟨t, pt, hq⟩ => pt.run pins s σ H Q I hq⟩, ⟨fun W σ H S ρ Q r S' fr hh hf hp => ?_⟩⟩
  cases eg : go ρ S with
  | none => unfold gMeth at hf; rw [eg, bd_none] at hf; cases hf
  | some p =>
    obtain ⟨r1, S1⟩ := p
    unfold gMeth at hf
    rw [eg] at hf
    cases r1 with
    | ex x =>
      rw [bd_ex] at hf
      cases hf
      -- the object's own exception
      refine ⟨fun σ H Q => to σ H fun _ _ => False, ⟨fun pins s σ H Q I hq => ?_⟩, eo.run W σ H S ρ _ _ _ fr hh eg (hp.exn x rfl)⟩
      exact PySem.W.methodCall_KW (pl := pl) (thn (po.run pins s σ H _ I hq) fun u s1 ⟨x, H1, I1, rx, z⟩ => z.elim) ht
    | ok x =>
      rw [bd_ok] at hf
      cases ei : insOf S1 x with
      | none => rw [ei] at hf; cases hf
      | some q =>
        obtain ⟨c, fs⟩ := q
        rw [ei] at hf
        simp only at hf
        cases et : tab.lookup c with
        | none => rw [et] at hf; cases hf
        | some z =>
          obtain ⟨ar, sem, dd⟩ := z
          rw [et] at hf
          cases el : fs.lookup m with
          | some d => rw [el] at hf; cases hf
          | none =>
            rw [el] at hf
            simp only at hf
            have md := mt (c, ar, sem, dd) (lookup_mem' et)
            by_cases hC : ∃ C, X.mg c = some (.ref C)
            · obtain ⟨C, hC⟩ := hC
              obtain ⟨cl, f, fd, ps, ds, dvs, me, F, har, hb, hd, hst'⟩ := md.ex C hC
              refine ⟨fun σ H Q => tMeth C m (spD X.K X.mg ps.length sem) dvs (WE EX σ) to ta σ H Q, ⟨fun pins s σ H Q I hw => (pe_meth (pl := pl) po cl me F hr hb hd (ltk (σ0 := σ) lt) pa hst hpl ht).run pins s σ H Q I hw⟩, ?_⟩
              refine eo.run W σ H S ρ _ _ _ fr hh eg fun v H1 W1 w1 ho1 rx => ?_
              obtain ⟨i, a, C', dx, vs, e1, e2, e3, e4, e5, e6, e7⟩ := insOf_ok ho1 rx ei
              rw [hC] at e5
              cases e5
              refine ⟨a, dx, vs, e2, e6, (fld_look (f := m) e7).2 el, ?_⟩
              refine ea.bd (fr.mono w1) ho1 hf (hp.mono w1).exn fun xs us S2 H2 W2 w2 ho2 rl hk => ?_
              split at hk
              · rename_i hl
                refine sp_of (ds := x :: (xs ++ dd)) ho2 ?_ (hl.trans har.symm) hk (hp.mono (w1.trans w2))
                exact .cons (rx.mono w2) (rl.append (hst' W2))
              · cases hk
            · -- no such class: the object can't be one
              refine ⟨fun σ H Q => to σ H fun _ _ => False, ⟨fun pins s σ H Q I hq => ?_⟩, eo.run W σ H S ρ _ _ _ fr hh eg fun v H1 W1 w1 ho1 rx => ?_⟩
              · exact PySem.W.methodCall_KW (pl := pl) (thn (po.run pins s σ H _ I hq) fun u s1 ⟨x, H1, I1, rx, z⟩ => z.elim) ht
              · obtain ⟨i, a, C', dx, vs, e1, e2, e3, e4, e5, e6, e7⟩ := insOf_ok ho1 rx ei
                exact absurd ⟨C', e5⟩ hC
theorem de_meth0 {pl : Sem Bool} (ho : DE X EX o go) (mt : MOk X k m tab) (hr : Room k X.A) (lt : Lets X EX)
    (ht : eval (.Call (.Attribute o m apos) [] [] pos) X.env = (do
      let ov ← eval o X.env
      standAt apos.atName
      let (f, first) ← holding [ov] (getMethod ov m pl)
      callWith pos f first (backTo pos (starEach [] X.env)) (backToKw pos (keywordEach [] X.env))) := by rfl) :
    DE X EX (.Call (.Attribute o m apos) [] [] pos) (gMeth tab m go aNil) := by
  obtain ⟨to, po, eo⟩ := ho.ev
  refine ⟨fun σ H Q => ∃ t, PE X (.Call (.Attribute o m apos) [] [] pos) t ∧ t σ H Q, ⟨fun pins s σ H Q I ⟨t, pt, hq⟩ => pt.run pins s σ H Q I hq⟩, ⟨fun W σ H S ρ Q r S' fr hh hf hp => ?_⟩⟩
  cases eg : go ρ S with
  | none => unfold gMeth at hf; rw [eg, bd_none] at hf; cases hf
  | some p =>
    obtain ⟨r1, S1⟩ := p
    unfold gMeth at hf
    rw [eg] at hf
    cases r1 with
    | ex x =>
      rw [bd_ex] at hf
      cases hf
      refine ⟨fun σ H Q => to σ H fun _ _ => False, ⟨fun pins s σ H Q I hq => ?_⟩, eo.run W σ H S ρ _ _ _ fr hh eg (hp.exn x rfl)⟩
      exact PySem.W.methodCall_KW (pl := pl) (thn (po.run pins s σ H _ I hq) fun u s1 ⟨x, H1, I1, rx, z⟩ => z.elim) ht
    | ok x =>
      rw [bd_ok] at hf
      cases ei : insOf S1 x with
      | none => rw [ei] at hf; cases hf
      | some q =>
        obtain ⟨c, fs⟩ := q
        rw [ei] at hf
        simp only at hf
        cases et : tab.lookup c with
        | none => rw [et] at hf; cases hf
        | some z =>
          obtain ⟨ar, sem, dd⟩ := z
          rw [et] at hf
          cases el : fs.lookup m with
          | some d => rw [el] at hf; cases hf
          | none =>
            rw [el] at hf
            simp only at hf
            rw [show (aNil ρ S1 : Option (Rs (List D) × Store)) = some (.ok [], S1) from rfl, bd_ok] at hf
            have md := mt (c, ar, sem, dd) (lookup_mem' et)
            by_cases hC : ∃ C, X.mg c = some (.ref C)
            · obtain ⟨C, hC⟩ := hC
              obtain ⟨cl, f, fd, ps, ds, dvs, me, F, har, hb, hd, hst'⟩ := md.ex C hC
              refine ⟨fun σ H Q => tMeth C m (spD X.K X.mg ps.length sem) dvs (WE EX σ) to tNil σ H Q, ⟨fun pins s σ H Q I hw => (pe_meth0 (pl := pl) po cl me F hr hb hd (ltk (σ0 := σ) lt) ht).run pins s σ H Q I hw⟩, ?_⟩
              refine eo.run W σ H S ρ _ _ _ fr hh eg fun v H1 W1 w1 ho1 rx => ?_
              obtain ⟨i, a, C', dx, vs, e1, e2, e3, e4, e5, e6, e7⟩ := insOf_ok ho1 rx ei
              rw [hC] at e5
              cases e5
              refine ⟨a, dx, vs, e2, e6, (fld_look (f := m) e7).2 el, ?_⟩
              split at hf
              · rename_i hl
                refine sp_of (ds := x :: ([] ++ dd)) (vs := v :: ([] ++ dvs)) ho1 ?_ (hl.trans har.symm) hf (hp.mono w1)
                exact .cons rx (hst' W1)
              · cases hf
            · refine ⟨fun σ H Q => to σ H fun _ _ => False, ⟨fun pins s σ H Q I hq => ?_⟩, eo.run W σ H S ρ _ _ _ fr hh eg fun v H1 W1 w1 ho1 rx => ?_⟩
              · exact PySem.W.methodCall_KW (pl := pl) (thn (po.run pins s σ H _ I hq) fun u s1 ⟨x, H1, I1, rx, z⟩ => z.elim) ht
              · obtain ⟨i, a, C', dx, vs, e1, e2, e3, e4, e5, e6, e7⟩ := insOf_ok ho1 rx ei
                exact absurd ⟨C', e5⟩ hC
end

/-! ### new instances -/
theorem Hold.junk {K : PySem.W.Frag} {mg : Str → Option Value} {W : Wd} {S : Store} {H : Hp} {p : Addr} {o : HO} (h : Hold K mg W S H) (np : H p = none) : Hold K mg W S (upd H p o) := (h.priv (o := o) np).privOut
structure Mkr (X : Cx) (k : Nat) (c : Str) (ar : Nat) (sem : FnS) (dd : List D) : Prop where
  ex : ∃ C f fd ps ds dvs, X.mg c = some (.ref C) ∧ Mk X.K C f ∧ FO X.prog X.w X.K X.mg X.base k f fd ps sem ∧ ps.length = ar ∧ Binds X.K fd ps ds ∧ Vals dvs ds ∧ Stat X.K X.mg dd dvs
def mkI (c : Str) (ar : Nat) (sem : FnS) (xs : List D) (S : Store) : Option (Rs D × Store) :=
  if (D.box S.length :: xs).length = ar then (match sem (.box S.length :: xs) (S ++ [.ins c []]) with
    | some (.ok .non, S') => some (.ok (.box S.length), S')
    | some (.ex e, S') => some (.ex e, S')
    | _ => none) else none
def gMake (c : Str) (ar : Nat) (sem : FnS) (dd : List D) (h : AM) : EM := fun ρ S => bd (h ρ S) fun xs S1 => mkI c ar sem (xs ++ dd) S1
section
variable {X : Cx} {EX : WX} {k : Nat} {c : Str} {ar : Nat} {sem : FnS} {dd : List D} {e : Expr} {es : List Expr} {p pos : Pos} {h : AM}
theorem make_runG {W : Wd} {S S' : Store} {H : Hp} {xs : List D} {al : List V} {σ : L2.St} {Q : VK} {r : Rs D} {C : Addr} {ps : List Str} {x dx : Addr} (hC : X.mg c = some (.ref C)) (har : ps.length = ar) (ho : Hold X.K X.mg W S H) (rl : ∀ W', Wle W W' → Rep X.K X.mg W' (.box S.length) (.ref x) → RepL X.K X.mg W' (.box S.length :: xs) al) (hk : mkI c ar sem xs S = some (r, S')) (hp : Post X.K X.mg EX (RD X) W σ Q r S')
    (nx : H x = none) (nd : H dx = none) (ne : dx ≠ x) : spD X.K X.mg ps.length sem al (upd (upd H dx (.own x)) x (.ins C dx [])) (fun v H2 => v = .non ∧ Q (.ref x) H2) (WE EX σ) := by
  unfold mkI at hk
  split at hk
  · rename_i hl
    have ho1 := ho.junk (o := .own x) nd
    obtain ⟨W2, w2, ho2, r2⟩ := ho1.newB (p := x) (o := .ins C dx []) (c := .ins c []) (by rw [upd_ne (Ne.symm ne)]; exact nx) fun W' w' => ⟨C, dx, [], hC, upd_same, .nil⟩
    have rl2 := rl W2 w2 r2
    have hll : al.length = ps.length := by rw [har, ← hl, rl2.length]
    cases es : sem (.box S.length :: xs) (S ++ [.ins c []]) with
    | none => rw [es] at hk; cases hk
    | some q =>
      obtain ⟨r1, S1⟩ := q
      rw [es] at hk
      refine ⟨W2, S ++ [.ins c []], .box S.length :: xs, r1, S1, hll, ho2, rl2, es, ?_⟩
      cases r1 with
      | ex x1 => cases hk; exact fun cls d H' W' w' ho' xr => hp cls d H' W' (w2.trans w') ho' xr
      | ok d1 =>
        cases d1 with
        | non =>
          cases hk
          intro v H' W' w' ho' rv
          cases rv
          exact ⟨rfl, hp _ H' W' (w2.trans w') ho' (r2.mono w')⟩
        | _ => cases hk
  · cases hk
theorem make_run {W : Wd} {S S' : Store} {H : Hp} {xs : List D} {us : List V} {σ : L2.St} {Q : VK} {r : Rs D} {C : Addr} {ps : List Str} (hC : X.mg c = some (.ref C)) (har : ps.length = ar) (ho : Hold X.K X.mg W S H) (rl : RepL X.K X.mg W xs us) (hk : mkI c ar sem xs S = some (r, S')) (hp : Post X.K X.mg EX (RD X) W σ Q r S')
    {x dx : Addr} (nx : H x = none) (nd : H dx = none) (ne : dx ≠ x) : spD X.K X.mg ps.length sem (.ref x :: us) (upd (upd H dx (.own x)) x (.ins C dx [])) (fun v H2 => v = .non ∧ Q (.ref x) H2) (WE EX σ) :=
  make_runG hC har ho (fun W' w' r => .cons r (rl.mono w')) hk hp nx nd ne
theorem de_make (M : Mkr X k c ar sem dd) (hr : Room (k + 1) X.A) (lt : Lets X EX) (ha : DA X EX (e :: es) h)
    (hg : Gl X c := by rfl) (hdb : (c == ("__debug__" : Str)) = false := by decide) (he : starEach (e :: es) X.env = (false, eval e X.env) :: starEach es X.env := by rfl) (hpl : (backTo pos (starEach es X.env)).any (·.1) = false := by rfl) :
    DE X EX (.Call (.Name c p) (e :: es) [] pos) (gMake c ar sem dd h) := by
  obtain ⟨ta, pa, ea⟩ := ha.ev
  obtain ⟨C, f, fd, ps, ds, dvs, hC, mk, F, har, hb, hd, hst⟩ := M.ex
  refine ⟨fun σ H Q => tMake C (spD X.K X.mg ps.length sem) dvs (WE EX σ) ta σ H Q, ⟨fun pins s σ H Q I hw => (pe_make mk F hr hg hC hb hd (ltk (σ0 := σ) lt) pa hdb he hpl).run pins s σ H Q I hw⟩, ⟨fun W σ H S ρ Q r S' fr ho hf hp => ?_⟩⟩
  refine ea.bd fr ho hf hp.exn fun xs vs S1 H1 W1 w1 ho1 rl hk => ?_
  intro x dx nx nd ne
  exact make_run hC har ho1 (rl.append (hst W1)) hk (hp.mono w1) nx nd ne
theorem de_make0 (M : Mkr X k c ar sem dd) (hr : Room (k + 1) X.A) (lt : Lets X EX)
    (hg : Gl X c := by rfl) (hdb : (c == ("__debug__" : Str)) = false := by decide) : DE X EX (.Call (.Name c p) [] [] pos) (gMake c ar sem dd aNil) := by
  obtain ⟨C, f, fd, ps, ds, dvs, hC, mk, F, har, hb, hd, hst⟩ := M.ex
  refine ⟨fun σ H Q => tMake C (spD X.K X.mg ps.length sem) dvs (WE EX σ) tNil σ H Q, ⟨fun pins s σ H Q I hw => (pe_make0 mk F hr hg hC hb hd (ltk (σ0 := σ) lt) hdb).run pins s σ H Q I hw⟩, ⟨fun W σ H S ρ Q r S' fr ho hf hp => ?_⟩⟩
  unfold gMake at hf
  rw [show (aNil ρ S : Option (Rs (List D) × Store)) = some (.ok [], S) from rfl, bd_ok] at hf
  intro x dx nx nd ne
  exact make_run (xs := [] ++ dd) (us := [] ++ dvs) hC har ho (hst W) hf hp nx nd ne
/-- C(e, .., k = v) -/
structure MkrN (X : Cx) (k : Nat) (c : Str) (n : Nat) (ks : List Str) (ar : Nat) (sem : FnS) (gD : List D → List D → List D) : Prop where
  ex : ∃ C f fd ps gg gV, X.mg c = some (.ref C) ∧ Mk X.K C f ∧ FO X.prog X.w X.K X.mg X.base k f fd ps sem ∧ ps.length = ar ∧ KBn X.K fd ps (n + 1) ks gg gV ∧ (∀ W x v xs vs zs us, Rep X.K X.mg W x v → RepL X.K X.mg W xs vs → RepL X.K X.mg W zs us → vs.length = n → us.length = ks.length → RepL X.K X.mg W (x :: gD xs zs) (gV (v :: vs) us))
def gMakeN (c : Str) (n m ar : Nat) (sem : FnS) (gD : List D → List D → List D) (h h2 : AM) : EM := fun ρ S => bd (h ρ S) fun xs S1 => bd (h2 ρ S1) fun zs S2 => if xs.length = n ∧ zs.length = m then mkI c ar sem (gD xs zs) S2 else none
theorem de_makeN {kws : List Keyword} {h2 : AM} {n : Nat} {ks : List Str} {gD : List D → List D → List D} (M : MkrN X k c n ks ar sem gD) (hr : Room (k + 1) X.A) (lt : Lets X EX) (ha : DA X EX (e :: es) h) (hkw : DK X EX kws h2)
    (hg : Gl X c := by rfl) (hall : (backToKw pos (keywordEach kws X.env)).all (·.1.isSome) = true := by rfl) (hks : (backToKw pos (keywordEach kws X.env)).filterMap (·.1) = ks := by rfl) (hdb : (c == ("__debug__" : Str)) = false := by decide)
    (he : starEach (e :: es) X.env = (false, eval e X.env) :: starEach es X.env := by rfl) (hpl : ((backTo pos (starEach (e :: es) X.env)).any (·.1) || (backToKw pos (keywordEach kws X.env)).any (·.1.isNone)) = false := by rfl) :
    DE X EX (.Call (.Name c p) (e :: es) kws pos) (gMakeN c n ks.length ar sem gD h h2) := by
  obtain ⟨ta, pa, ea⟩ := ha.ev
  obtain ⟨tb, pb, eb⟩ := hkw.ev
  obtain ⟨C, f, fd, ps, gg, gV, hC, mk, F, har, hb, od⟩ := M.ex
  refine ⟨fun σ H Q => tMakeK C n ks.length (spD X.K X.mg ps.length sem) gV (WE EX σ) ta tb σ H Q, ⟨fun pins s σ H Q I hw => (pe_makeK mk F hr hg hC hb (ltk (σ0 := σ) lt) pa pb hall hks hdb he hpl).run pins s σ H Q I hw⟩, ⟨fun W σ H S ρ Q r S' fr ho hf hp => ?_⟩⟩
  refine ea.bd fr ho hf hp.exn fun xs vs S1 H1 W1 w1 ho1 rl hk1 => ?_
  refine eb.bd (fr.mono w1) ho1 hk1 (hp.mono w1).exn fun zs us S2 H2 W2 w2 ho2 rz hk2 => ?_
  split at hk2
  · rename_i hl
    have l1 : vs.length = n := by rw [← rl.length]; exact hl.1
    have l2 : us.length = ks.length := by rw [← rz.length]; exact hl.2
    refine ⟨l1, l2, fun x dx nx nd ne => ?_⟩
    exact make_runG hC har ho2 (fun W' w' rx => od W' _ _ _ _ _ _ rx ((rl.mono w2).mono w') (rz.mono w') l1 l2) hk2 (hp.mono (w1.trans w2)) nx nd ne
  · cases hk2
end
end Dm
set_option linter.all false
set_option maxRecDepth 100000
set_option maxHeartbeats 2000000
namespace Dm
open PySem L2 PySem.W PyProof.Rows PySem.Calls

section
variable {X : Cx} {EX : WX} {a b c o e : Expr} {es rest : List Expr} {g ga gb : EM} {h : AM} {pos p p2 : Pos}

/-! ### f-strings -/
def fmtD : D → Option Str
  | .str y => if y.length ≤ sizeLine then some y else none
  | .int i => if i.natAbs.log2 < 1920 ∧ (strI i).length ≤ sizeLine then some (strI i) else none
  | _ => none
def gFmt (g : EM) : EM := fun ρ S => bd (g ρ S) fun x S1 => match fmtD x with
  | some y => some (.ok (.str y), S1)
  | none => none
theorem de_fmt (he : DE X EX e g) : DE X EX (.FormattedValue e (-1) none pos) (gFmt g) := by
  obtain ⟨te, pe, ee⟩ := he.ev
  refine ⟨_, pe_fmt pe, ⟨fun W σ H S ρ Q r S' fr ho hf hp => ?_⟩⟩
  refine ee.bd fr ho hf hp.exn fun d v S1 H1 W1 w1 ho1 rd hk => ?_
  cases d with
  | str y =>
    by_cases z : y.length ≤ sizeLine
    · have e : fmtD (.str y) = some y := by unfold fmtD; exact if_pos z
      rw [e] at hk
      cases hk
      cases rd
      exact .inl ⟨y, rfl, z, hp _ H1 W1 w1 ho1 (.str z)⟩
    · have e : fmtD (.str y) = none := by unfold fmtD; exact if_neg z
      rw [e] at hk; cases hk
  | int i =>
    by_cases z : i.natAbs.log2 < 1920 ∧ (strI i).length ≤ sizeLine
    · have e : fmtD (.int i) = some (strI i) := by unfold fmtD; exact if_pos z
      rw [e] at hk
      cases hk
      cases rd
      exact .inr ⟨i, rfl, z.1, hp _ H1 W1 w1 ho1 (.str z.2)⟩
    · have e : fmtD (.int i) = none := by unfold fmtD; exact if_neg z
      rw [e] at hk; cases hk
  | _ => cases hk
structure DJ (X : Cx) (EX : WX) (es : List Expr) (gs : List EM) : Prop where
  ev : ∃ ts, PJ X es ts ∧ PySem.Paired (fun t g => Ev X.K X.mg EX (RD X) t g) ts gs
theorem dj_nil : DJ X EX [] [] := ⟨[], .nil, .nil⟩
theorem dj_cons {gs : List EM} (he : DE X EX e g) (hr : DJ X EX es gs) : DJ X EX (e :: es) (g :: gs) := by
  obtain ⟨t, pt, et⟩ := he.ev
  obtain ⟨ts, ps, ets⟩ := hr.ev
  exact ⟨t :: ts, .cons pt ps, .cons et ets⟩
def jsD : List EM → Str → Env → M D
  | [], acc => fun _ S => some (.ok (.str acc), S)
  | g :: gs, acc => fun ρ S => bd (g ρ S) fun x S1 => match x with
    | .str y => if (acc ++ y).length ≤ sizeLine then jsD gs (acc ++ y) ρ S1 else none
    | _ => none
theorem js_run : ∀ {ts : List TE} {gs : List EM}, PySem.Paired (fun t g => Ev X.K X.mg EX (RD X) t g) ts gs → ∀ (acc : Str) W σ H S ρ (Q : V → Hp → Prop) r S', acc.length ≤ sizeLine → Fr X.K X.mg W ρ σ → Hold X.K X.mg W S H → jsD gs acc ρ S = some (r, S') → Post X.K X.mg EX (RD X) W σ Q r S' →
    tJs ts acc σ H fun out H1 => Q (.str out) H1
  | _, _, .nil, acc, W, σ, H, S, ρ, Q, r, S', hz, fr, ho, hf, hp => by
    cases hf
    exact hp _ H W (Wle.refl W) ho (.str hz)
  | _, _, .cons et rr, acc, W, σ, H, S, ρ, Q, r, S', hz, fr, ho, hf, hp => by
    refine et.bd fr ho hf hp.exn fun d v S1 H1 W1 w1 ho1 rd hk => ?_
    cases d with
    | str y =>
      simp only at hk
      split at hk
      · rename_i z
        cases rd
        exact ⟨y, rfl, z, js_run rr (acc ++ y) W1 σ H1 S1 ρ Q r S' z (fr.mono w1) ho1 hk (hp.mono w1)⟩
      · cases hk
    | _ => cases hk
theorem de_joined {v1 v2 : Expr} {gs : List EM} (h : DJ X EX (v1 :: v2 :: rest) gs) : DE X EX (.JoinedStr (v1 :: v2 :: rest) pos) (jsD gs Str.empty) := by
  obtain ⟨ts, ps, ets⟩ := h.ev
  exact ⟨_, pe_joined ps, ⟨fun W σ H S ρ Q r S' fr ho hf hp => js_run ets Str.empty W σ H S ρ Q r S' (Nat.zero_le _) fr ho hf hp⟩⟩
theorem de_joined1 (he : DE X EX e g) : DE X EX (.JoinedStr [e] pos) g := by
  obtain ⟨t, pt, et⟩ := he.ev
  exact ⟨t, pe_joined1 pt, et⟩

/-! ### xs[a:b:c] of a list -/
def pickD {α : Type} (xs : List α) (lo hi st : Option Int) : List α := (sliceRange (sliceBounds lo hi st xs.length).1 (sliceBounds lo hi st xs.length).2.1 (sliceBounds lo hi st xs.length).2.2).filterMap (xs[·]?)
theorem RepL.pickI {K : PySem.W.Frag} {mg : Str → Option Value} {W : Wd} {ds : List D} {vs : List V} (r : RepL K mg W ds vs) : ∀ is : List Nat, RepL K mg W (is.filterMap (ds[·]?)) (is.filterMap (vs[·]?))
  | [] => .nil
  | i :: is => by
    rw [List.filterMap_cons, List.filterMap_cons]
    cases e : ds[i]? with
    | none =>
      have hv : vs[i]? = none := List.getElem?_eq_none (by rw [← r.length]; exact List.getElem?_eq_none_iff.mp e)
      rw [hv]
      exact r.pickI is
    | some d =>
      obtain ⟨v, h1, h2⟩ := r.get e
      rw [h1]
      exact .cons h2 (r.pickI is)
theorem vals_pick {vs : List V} {us : List Value} (r : Vals vs us) : ∀ is : List Nat, Vals (is.filterMap (vs[·]?)) (is.filterMap (us[·]?))
  | [] => .nil
  | i :: is => by
    rw [List.filterMap_cons, List.filterMap_cons]
    cases e : vs[i]? with
    | none =>
      have hv : us[i]? = none := List.getElem?_eq_none (by rw [← r.length]; exact List.getElem?_eq_none_iff.mp e)
      rw [hv]
      exact vals_pick r is
    | some d =>
      obtain ⟨v, h1, h2⟩ := r.get e
      rw [h1]
      exact .cons h2 (vals_pick r is)
theorem pick_arr (its : List Value) (lo hi st : Option Int) : slicePick its.toArray lo hi st = (pickD its lo hi st).toArray := by
  unfold slicePick pickD
  simp
def tSl3 (K : PySem.W.Frag) (te : TE) (tl th tk : TO) : TE := fun σ H Q => te σ H fun x H1 => tl σ H1 fun l H2 => th σ H2 fun u H3 => tk σ H3 fun k H4 => ∃ a xs, x = .ref a ∧ SqL K H4 a xs ∧ k ≠ some 0 ∧ (pickD xs l u k).length ≤ sizeLine ∧ ∀ q, H4 q = none → Q (.ref q) (upd H4 q (.lst (pickD xs l u k)))
theorem pe_sl3 {te : TE} {lo hi st : Option Expr} {tl th tk : TO} (hs : ∀ x y, ∃ ops, subscripted (.Slice lo hi st p2) false (.ref x) (.ref y) = operate ops (getItem (.ref x) (.ref y))) (he : PE X e te) (hl : PO X lo tl) (hu : PO X hi th) (hk : PO X st tk) : PE X (.Subscript e (.Slice lo hi st p2) pos) (tSl3 X.K te tl th tk) := by
  refine ⟨fun pins s σ H Q I h => ?_⟩
  refine Subscript_ (thn (he.run pins s σ H _ I h) fun v s1 ⟨x, H1, I1, r1, q1⟩ => ?_)
  refine wpAny_Slice (thn (hl.run pins s1 σ H1 _ I1 q1) fun vl s2 ⟨l, H2, I2, pl, q2⟩ => thn (hu.run pins s2 σ H2 _ I2 q2) fun vu s3 ⟨u, H3, I3, pu, q3⟩ => thn (hk.run pins s3 σ H3 _ I3 q3) fun vk s4 ⟨k, H4, I4, pk, q4⟩ => ?_)
  obtain ⟨a, xs, ex, hq, h0, hz, q⟩ := q4
  subst ex
  obtain rfl : v = Value.ref a := r1
  obtain ⟨its, rv, pa, hzz⟩ := I4.list hq
  have I5 : Inv X pins σ H4 { s4 with heap := s4.heap.push { cls := .type "slice", data := .fields #[vl, vu, vk] } } := I4.kept (t' := s4.toks) fun b ob q => Heap.get?_push_of_some _ q
  obtain ⟨its2, rv2, pa2, hz2⟩ := I5.list hq
  have hl2 : Heap.IsList (s4.heap.push { cls := .type "slice", data := .fields #[vl, vu, vk] }) a its2.toArray := pa2.isList
  have hlen : its2.length = xs.length := rv2.length.symm
  have hzi : its2.toArray.size ≤ sizeLine := by rw [List.size_toArray, hlen]; exact hz2
  obtain ⟨ops, hops⟩ := hs a s4.heap.objs.size
  refine tail_any (T := "list") (ops := ops) hl2.typeIs list_getitem_lookup (wpAny_getItem_list_slice (s := { s4 with heap := s4.heap.push { cls := .type "slice", data := .fields #[vl, vu, vk] } }) hl2 (Heap.IsSliceOf.new ..) pl pu pk h0 ?_ hzi) hops
  rw [pick_arr]
  have np := I5.hok.fresh (Nat.le_refl _)
  refine ⟨V.ref _, _, I5.laid (t' := s4.toks) (o := .lst (pickD xs l u k)) (fun b ob q => Heap.get?_push_of_some _ q) (Nat.le_refl _) ?_, rfl, q _ np⟩
  refine ⟨hz, pickD its2 l u k, 0, ?_, Heap.get?_push_size _ rfl⟩
  unfold pickD
  rw [hlen]
  exact vals_pick rv2 _
def gSl3 (bx : Bool) (g : EM) (pl ph pk : Env → M (Option Int)) : EM := fun ρ S => bd (g ρ S) fun x S1 => bd (pl ρ S1) fun l S2 => bd (ph ρ S2) fun u S3 => bd (pk ρ S3) fun k S4 => match sqL S4 x with
  | some xs => if k ≠ some 0 ∧ (pickD xs l u k).length ≤ sizeLine then okM (some (mkL bx (pickD xs l u k) S4)) else none
  | none => none
theorem de_sl3 (bx : Bool) {lo hi st : Option Expr} {pl ph pk : Env → M (Option Int)} (ha : DE X EX a ga) (hl : DO X EX lo pl) (hh : DO X EX hi ph) (hk : DO X EX st pk) (hs : ∀ x y, ∃ ops, subscripted (.Slice lo hi st p2) false (.ref x) (.ref y) = operate ops (getItem (.ref x) (.ref y)) := by exact fun _ _ => ⟨_, by with_unfolding_all rfl⟩) : DE X EX (.Subscript a (.Slice lo hi st p2) pos) (gSl3 bx ga pl ph pk) := by
  obtain ⟨ta, pa, ea⟩ := ha.ev
  obtain ⟨tl, ql, el⟩ := hl.ev
  obtain ⟨th, qh, eh⟩ := hh.ev
  obtain ⟨tk, qk, ek⟩ := hk.ev
  refine ⟨_, pe_sl3 hs pa ql qh qk, ⟨fun W σ H S ρ Q r S' fr ho hf hp => ?_⟩⟩
  refine ea.bd fr ho hf hp.exn fun x v S1 H1 W1 w1 ho1 rx hk1 => ?_
  refine el.bd (fr.mono w1) ho1 hk1 (hp.mono w1).exn fun l l' S2 H2 W2 w2 ho2 rl hk2 => ?_
  have w12 := w1.trans w2
  refine eh.bd (fr.mono w12) ho2 hk2 (hp.mono w12).exn fun u u' S3 H3 W3 w3 ho3 ru hk3 => ?_
  have w13 := w12.trans w3
  refine ek.bd (fr.mono w13) ho3 hk3 (hp.mono w13).exn fun k k' S4 H4 W4 w4 ho4 rk hk4 => ?_
  have w14 := w13.trans w4
  cases rl
  cases ru
  cases rk
  cases e : sqL S4 x with
  | none => rw [e] at hk4; cases hk4
  | some xs =>
    rw [e] at hk4
    simp only at hk4
    split at hk4
    · rename_i hz
      obtain ⟨a0, vs, e1, e2, e3, _⟩ := sqL_ok ho4 (((rx.mono w2).mono w3).mono w4) e
      have hpl : pickD vs l u k = (sliceRange (sliceBounds l u k xs.length).1 (sliceBounds l u k xs.length).2.1 (sliceBounds l u k xs.length).2.2).filterMap (vs[·]?) := by unfold pickD; rw [e3.length]
      have rp : RepL X.K X.mg W4 (pickD xs l u k) (pickD vs l u k) := by rw [hpl]; exact e3.pickI _
      refine ⟨a0, vs, e1, e2, hz.1, by rw [← rp.length]; exact hz.2, fun q nq => ?_⟩
      obtain ⟨W5, w5, ho5, r5⟩ := ho4.newL nq hz.2 rp bx
      have e' : (Rs.ok (mkL bx (pickD xs l u k) S4).1, (mkL bx (pickD xs l u k) S4).2) = (r, S') := Option.some.inj hk4
      cases e'
      exact hp _ _ W5 (w14.trans w5) ho5 r5
    · cases hk4

/-! ### the written tables: a text's number -/
/-- at x a written dict of the module whose keys are texts, its values ints -/
structure KTab (K : PySem.W.Frag) (mg : Str → Option Value) (w : World) (x : Str) (tb : List (Str × Int)) : Prop where
  ex : ∃ d es n, mg x = some (.ref d) ∧ KDict K w d es n ∧ ∀ z, ∃ u, PySem.W.nsIn K d z = some u ∧ match tb.lookup z with
    | some i => ∃ t, u = some (.int i t)
    | none => u = none
def oTIn (x : Str) (tb : List (Str × Int)) (neg : Bool) : D → D → Store → Option (D × Store)
  | .str z, .glb y, S => if y = x then some (.bl (if neg = true then !(tb.lookup z).isSome else (tb.lookup z).isSome), S) else none
  | _, _, _ => none
theorem ref_of {v : V} {a : Addr} (r : RelV v (.ref a)) : v = .ref a := by
  cases v with
  | ref b => cases r; rfl
  | non => cases r
  | bl _ => cases r
  | int _ => obtain ⟨t, q⟩ := r; cases q
  | str _ => obtain ⟨t, q⟩ := r; cases q
  | byt _ => obtain ⟨t, q⟩ := r; cases q
  | flt _ => obtain ⟨t, q⟩ := r; cases q
  | ty _ => cases r
theorem ktab_in {x : Str} {tb : List (Str × Int)} (kt : KTab X.K X.mg X.w x tb) : ∃ r, OpR X (compareOp .In) r ∧ Op2 X r (oTIn x tb false) := by
  obtain ⟨d, es, n, hm, kd, hz⟩ := kt.ex
  refine ⟨_, op_in_kd kd, ?_⟩
  intro W H S vx vy d1 d2 Q d0 S' ho r1 r2 hg hq
  cases d1 with
  | str z =>
    cases d2 with
    | glb y =>
      by_cases e : y = x
      · have hg' : (if y = x then some (D.bl (tb.lookup z).isSome, S) else none) = some (d0, S') := hg
        rw [if_pos e] at hg'
        clear hg
        subst e
        cases hg'
        cases r1
        cases r2 with
        | glb hm2 rr =>
          rw [hm] at hm2
          cases hm2
          obtain ⟨u, hu, hv⟩ := hz z
          have ev : vy = .ref d := ref_of rr
          refine ⟨z, u, rfl, ev, hu, ?_⟩
          have eb : u.isSome = (tb.lookup z).isSome := by
            cases el : tb.lookup z with
            | none => rw [el] at hv; rw [hv]; rfl
            | some i => rw [el] at hv; obtain ⟨t, q⟩ := hv; rw [q]; rfl
          rw [eb]
          exact hq _ H W (Wle.refl W) ho .bl
      · have hg : (if y = x then some (D.bl (tb.lookup z).isSome, S) else none) = some (d0, S') := hg
        rw [if_neg e] at hg
        cases hg
    | _ => cases hg
  | _ => cases hg
/-- d.get(key, n) -/
def oTGet (x : Str) (tb : List (Str × Int)) : D → List D → Store → Option (D × Store)
  | .glb y, [.str z, .int n], S => if y = x then some (.int ((tb.lookup z).getD n), S) else none
  | _, _, _ => none
def rTGet (K : PySem.W.Frag) (d : Addr) : V → List V → Hp → VK → Prop := fun x xs H Q => ∃ (z : Str) (n : Int) (u : Option Value), x = .ref d ∧ xs = [.str z, .int n] ∧ PySem.W.nsIn K d z = some u ∧ ((u = none ∧ Q (.int n) H) ∨ ∃ i t, u = some (.int i t) ∧ Q (.int i) H)
theorem mt_tget {d : Addr} {es : Array DictEntry} {n : Nat} (kd : KDict X.K X.w d es n) : MtR X "dict.get" (rTGet X.K d) := by
  intro pins s σ H x xs v us Q I rx rs h
  obtain ⟨z, m, u, rfl, rfl, hu, hq⟩ := h
  obtain rfl : v = Value.ref d := rx
  obtain ⟨u1, u2, rfl, ry, rz⟩ := Vals.two rs
  obtain ⟨t1, rfl⟩ := (show ∃ t, u1 = Value.str z t from ry)
  obtain ⟨t2, rfl⟩ := (show ∃ t, u2 = Value.int m t from rz)
  have hmap := PySem.W.mapOf_K (prog := X.prog) (w := X.w) I.kIn kd.at_ kd.lit
  refine call_meetsIn PySem.F.slot_dict_get hmap.typeIs PySem.F.entry_dict_get (PySem.F.args_dict_get_3 _ _ _) (meets_dict_get_default (strKind X.prog X.w) d (strKind_is X.prog X.w z t1) kd.low (.int m t2)) ⟨_, hmap, ?_⟩
  rw [PySem.W.find_K kd.at_ hu]
  rcases hq with ⟨e, q⟩ | ⟨i, t, e, q⟩
  · subst e
    exact ⟨.int m, H, I.tok _, ⟨t2, rfl⟩, q⟩
  · subst e
    exact ⟨.int i, H, I.tok _, ⟨t, rfl⟩, q⟩
theorem ktab_get {x : Str} {tb : List (Str × Int)} (kt : KTab X.K X.mg X.w x tb) : ∃ r, MtR X "dict.get" r ∧ MtO X r (oTGet x tb) := by
  obtain ⟨d, es, n, hm, kd, hz⟩ := kt.ex
  refine ⟨_, mt_tget kd, ?_⟩
  intro W H S v vs d1 ds Q d0 S' ho r1 r2 hg hq
  unfold oTGet at hg
  split at hg
  · rename_i y z m
    split at hg
    · rename_i e
      subst e
      cases hg
      obtain ⟨u1, u2, rfl, ry, rz⟩ := repL2 r2
      cases ry
      cases rz
      cases r1 with
      | glb hm2 rr =>
        rw [hm] at hm2
        cases hm2
        obtain ⟨u, hu, hv⟩ := hz z
        refine ⟨z, m, u, ref_of rr, rfl, hu, ?_⟩
        cases el : tb.lookup z with
        | none => rw [el] at hv; rw [el] at hq; exact .inl ⟨hv, hq _ H W (Wle.refl W) ho .int⟩
        | some i => rw [el] at hv; rw [el] at hq; obtain ⟨t, q⟩ := hv; exact .inr ⟨i, t, q, hq _ H W (Wle.refl W) ho .int⟩
    · cases hg
  · cases hg
end
end Dm
set_option linter.all false
set_option maxRecDepth 100000
set_option maxHeartbeats 2000000
namespace Dm
open PySem L2 PySem.W PyProof.Rows PySem.Calls

/-! ### what an operator, a call, a method does: relation and data together -/
def OO (X : Cx) (f : Value → Value → Sem Value) (o : D → D → Store → Option (D × Store)) : Prop := ∃ r, OpR X f r ∧ Op2 X r o
def CO (X : Cx) (f : Value) (o : List D → Store → Option (D × Store)) : Prop := ∃ r, CallR X f r ∧ CallO X r o
def MO (X : Cx) (m : String) (o : D → List D → Store → Option (D × Store)) : Prop := ∃ r, MtR X m r ∧ MtO X r o
section
variable {X : Cx} {EX : WX} {a b c o e : Expr} {es rest : List Expr} {g ga gb gc go : EM} {h : AM} {pos p p2 : Pos}
theorem OO.or {f : Value → Value → Sem Value} {o o' : D → D → Store → Option (D × Store)} (h : OO X f o) (h' : OO X f o') : OO X f (orO o o') := by
  obtain ⟨r, h1, h2⟩ := h
  obtain ⟨r', h3, h4⟩ := h'
  exact ⟨_, h1.or h3, h2.or h4⟩
theorem CO.or {f : Value} {o o' : List D → Store → Option (D × Store)} (h : CO X f o) (h' : CO X f o') : CO X f (orC o o') := by
  obtain ⟨r, h1, h2⟩ := h
  obtain ⟨r', h3, h4⟩ := h'
  exact ⟨_, CallR.or h1 h3, CallO.or h2 h4⟩
/-! ### arithmetic -/
def oMul (bx : Bool) := orO (orO (oI CMul fun i j => i * j) (oI CMulW fun i j => i * j)) (orO (oRep bx) oRepT)
theorem oo_mul (bx : Bool) : OO X (binaryOp .Mult) (oMul bx) := OO.or (OO.or ⟨_, op_mul, op2_I⟩ ⟨_, op_mulW, op2_I⟩) (OO.or ⟨_, op_rep, op2_rep bx⟩ ⟨_, op_repT, op2_repT⟩)
def oAdd (bx : Bool) := orO (orO (oI0 fun i j => i + j) oAddS) (orO (oCat bx) oCatT)
theorem oo_add (bx : Bool) : OO X (binaryOp .Add) (oAdd bx) := OO.or (OO.or ⟨_, op_add, op2_I0⟩ ⟨_, op_add_str, op2_addS⟩) (OO.or ⟨_, op_cat, op2_cat bx⟩ ⟨_, op_catA, op2_catT⟩)
def oSub := oI0 fun i j => i - j
theorem oo_sub : OO X (binaryOp .Sub) oSub := ⟨_, op_sub, op2_I0⟩
def oDiv := oI CDivW fun i j => i / j
theorem oo_div : OO X (binaryOp .FloorDiv) oDiv := ⟨_, op_fdivW, op2_I⟩
def oMod := oI (fun _ j => 0 < j) fun i j => i % j
theorem oo_mod : OO X (binaryOp .Mod) oMod := ⟨_, op_mod, op2_I⟩
def oPow := oI CPow fun i j => i ^ j.toNat
theorem oo_pow : OO X (binaryOp .Pow) oPow := ⟨_, op_pow, op2_I⟩
def oXor := oI0 fun i j => Builtin.bitXor i j
theorem oo_xor : OO X (binaryOp .BitXor) oXor := ⟨_, op_xor, op2_I0⟩
def oNeg : D → Store → Option (D × Store)
  | .int i, S => some (.int (-i), S)
  | _, _ => none
theorem de_neg (ha : DE X EX a ga) : DE X EX (.UnaryOp .USub a pos) (g1 oNeg ga) := by
  refine de_un un_neg ?_ ha
  intro W H S x d1 Q d S' ho r1 hg hq
  cases d1 with
  | int i =>
    cases hg
    cases r1
    exact ⟨i, rfl, hq _ H W (Wle.refl W) ho .int⟩
  | _ => cases hg
/-! ### comparisons -/
def oLt := oB0 fun i j => decide (i < j)
def oLe := oB0 fun i j => decide (i ≤ j)
def oGt := oB0 fun i j => decide (j < i)
def oGe := oB0 fun i j => decide (j ≤ i)
theorem oo_lt : OO X (compareOp .Lt) oLt := ⟨_, op_lt, op2_B0⟩
theorem oo_le : OO X (compareOp .LtE) oLe := ⟨_, op_le, op2_B0⟩
theorem oo_gt : OO X (compareOp .Gt) oGt := ⟨_, op_gt, op2_B0⟩
theorem oo_ge : OO X (compareOp .GtE) oGe := ⟨_, op_ge, op2_B0⟩
theorem oo_eq (hu : X.A.units + 64 < cLine) : OO X (compareOp .Eq) oEq := ⟨_, opr_eq hu, op2_eq⟩
theorem oo_ne (hu : X.A.units + 64 < cLine) : OO X (compareOp .NotEq) oNe := ⟨_, opr_ne hu, op2_ne⟩
theorem oo_in (hu : X.A.units + 1 < cLine) : OO X (compareOp .In) oInA := ⟨_, opr_in hu, op2_inA⟩
theorem oo_notin (hu : X.A.units + 1 < cLine) : OO X (compareOp .NotIn) oNotInA := ⟨_, opr_notin hu, op2_notinA⟩
theorem oo_is : OO X (compareOp .Is) oIsN := ⟨_, op_isN, op2_isN⟩
theorem oo_isnot : OO X (compareOp .IsNot) oNotN := ⟨_, op_notN, op2_notN⟩
theorem oo_tin {x : Str} {tb : List (Str × Int)} (kt : KTab X.K X.mg X.w x tb) : OO X (compareOp .In) (oTIn x tb false) := ktab_in kt
theorem de_op {op : Operator} {o : D → D → Store → Option (D × Store)} (h : OO X (binaryOp op) o) (ha : DE X EX a ga) (hb : DE X EX b gb) : DE X EX (.BinOp a op b pos) (g2 o ga gb) := let ⟨_, h1, h2⟩ := h; de_bin h1 h2 ha hb
theorem de_co {op : CmpOp} {o : D → D → Store → Option (D × Store)} (h : OO X (compareOp op) o) (ha : DE X EX a ga) (hb : DE X EX b gb) (hm : behindInMarks op b = false := by first | exact nomark _ | rfl) : DE X EX (.Compare a [op] [b] pos) (g2 o ga gb) := let ⟨_, h1, h2⟩ := h; de_cmp h1 h2 ha hb hm
theorem dt_co {op : CmpOp} {o : D → D → Store → Option (D × Store)} (h : OO X (compareOp op) o) (ha : DE X EX a ga) (hb : DE X EX b gb) (hm : behindInMarks op b = false := by first | exact nomark _ | rfl) : DT X EX (.Compare a [op] [b] pos) (gB (g2 o ga gb)) := let ⟨_, h1, h2⟩ := h; dt_cmp h1 h2 ha hb hm
/-- a op b op' c -/
def gChain (o o' : D → D → Store → Option (D × Store)) (ga gb gc : EM) : EM := fun ρ S => bd (ga ρ S) fun x S1 => bd (gb ρ S1) fun y S2 => match o x y S2 with
  | some (.bl true, S3) => bd (gc ρ S3) fun z S4 => okM (o' y z S4)
  | some (.bl false, S3) => some (.ok (.bl false), S3)
  | _ => none
theorem chain_run {ta tb tc : TE} {r r' : R2} {o o' : D → D → Store → Option (D × Store)} (h1 : Op2 X r o) (h2 : Op2 X r' o') (ea : Ev X.K X.mg EX (RD X) ta ga) (eb : Ev X.K X.mg EX (RD X) tb gb) (ec : Ev X.K X.mg EX (RD X) tc gc) :
    Ev X.K X.mg EX (RD X) (tChain r r' ta tb tc) (gChain o o' ga gb gc) := by
  refine ⟨fun W σ H S ρ Q r0 S' fr ho hf hp => ?_⟩
  refine ea.bd fr ho hf hp.exn fun x v S1 H1 W1 w1 ho1 rx hk1 => ?_
  refine eb.bd (fr.mono w1) ho1 hk1 (hp.mono w1).exn fun y u S2 H2 W2 w2 ho2 ry hk2 => ?_
  have w12 := w1.trans w2
  cases e : o x y S2 with
  | none => rw [e] at hk2; cases hk2
  | some q =>
    obtain ⟨d, S3⟩ := q
    rw [e] at hk2
    cases d with
    | bl k =>
      refine h1 W2 H2 S2 v u x y _ (.bl k) S3 ho2 (rx.mono w2) ry e fun z H3 W3 w3 ho3 rz => ?_
      cases rz
      refine ⟨k, rfl, ?_⟩
      have w13 := w12.trans w3
      cases k with
      | false =>
        rw [if_neg (by decide)]
        cases hk2
        exact hp _ H3 W3 w13 ho3 .bl
      | true =>
        rw [if_pos rfl]
        refine ec.bd (fr.mono w13) ho3 hk2 (hp.mono w13).exn fun z2 w2' S4 H4 W4 w4 ho4 rz2 hk4 => ?_
        cases e2 : o' y z2 S4 with
        | none => rw [e2] at hk4; cases hk4
        | some q =>
          obtain ⟨d5, S5⟩ := q
          rw [e2] at hk4
          cases hk4
          exact h2 W4 H4 S4 u w2' y z2 _ d5 _ ho4 ((ry.mono w3).mono w4) rz2 e2 fun z H' W' w' h' rz => hp z H' W' ((w13.trans w4).trans w') h' rz
    | _ => cases hk2
theorem de_chain {op op' : CmpOp} {o o' : D → D → Store → Option (D × Store)} (h : OO X (compareOp op) o) (h' : OO X (compareOp op') o') (ha : DE X EX a ga) (hb : DE X EX b gb) (hc : DE X EX c gc) (hm : lastMarks [op, op'] [b, c] = false := by with_unfolding_all rfl) :
    DE X EX (.Compare a [op, op'] [b, c] pos) (gChain o o' ga gb gc) := by
  obtain ⟨_, h1, h2⟩ := h
  obtain ⟨_, h3, h4⟩ := h'
  obtain ⟨ta, pa, ea⟩ := ha.ev
  obtain ⟨tb, pb, eb⟩ := hb.ev
  obtain ⟨tc, pc, ec⟩ := hc.ev
  exact ⟨_, pe_chain h1 h3 pa pb pc hm, chain_run h2 h4 ea eb ec⟩
theorem dt_chain {op op' : CmpOp} {o o' : D → D → Store → Option (D × Store)} (h : OO X (compareOp op) o) (h' : OO X (compareOp op') o') (ha : DE X EX a ga) (hb : DE X EX b gb) (hc : DE X EX c gc) (hm : lastMarks [op, op'] [b, c] = false := by with_unfolding_all rfl) :
    DT X EX (.Compare a [op, op'] [b, c] pos) (gB (gChain o o' ga gb gc)) := by
  obtain ⟨_, h1, h2⟩ := h
  obtain ⟨_, h3, h4⟩ := h'
  obtain ⟨ta, pa, ea⟩ := ha.ev
  obtain ⟨tb, pb, eb⟩ := hb.ev
  obtain ⟨tc, pc, ec⟩ := hc.ev
  refine ⟨_, pt_chain h1 h3 pa pb pc hm, ⟨fun W σ H S ρ Q r0 S' fr ho hf hp => ?_⟩⟩
  refine (chain_run h2 h4 ea eb ec).bd fr ho hf hp.exn fun x v S1 H1 W1 w1 ho1 rx hk => ?_
  cases x with
  | bl k =>
    cases hk
    cases rx
    exact ⟨k, rfl, hp k H1 W1 w1 ho1 rfl⟩
  | _ => cases hk

/-! ### and, or, not as values -/
def gAndV (g h : EM) : EM := fun ρ S => bd (g ρ S) fun x S1 => match truD S1 x with
  | some true => h ρ S1
  | some false => some (.ok x, S1)
  | none => none
def gOrV (g h : EM) : EM := fun ρ S => bd (g ρ S) fun x S1 => match truD S1 x with
  | some true => some (.ok x, S1)
  | some false => h ρ S1
  | none => none
def gNotV (g : EM) : EM := fun ρ S => bd (g ρ S) fun x S1 => match truD S1 x with
  | some k => some (.ok (.bl (!k)), S1)
  | none => none
theorem de_one {op : BoolOp} (h : DE X EX a g) : DE X EX (.BoolOp op [a] pos) g := let ⟨t, p, e⟩ := h.ev; ⟨t, pe_one p, e⟩
theorem de_and (ha : DE X EX a ga) (hb : DE X EX (.BoolOp .And (b :: rest) pos) gb) : DE X EX (.BoolOp .And (a :: b :: rest) pos) (gAndV ga gb) := by
  obtain ⟨ta, pa, ea⟩ := ha.ev
  obtain ⟨tb, pb, eb⟩ := hb.ev
  refine ⟨_, pe_andT pa pb, ⟨fun W σ H S ρ Q r S' fr ho hf hp => ?_⟩⟩
  refine ea.bd fr ho hf hp.exn fun x v S1 H1 W1 w1 ho1 rx hk => ?_
  cases e : truD S1 x with
  | none => rw [e] at hk; cases hk
  | some k =>
    rw [e] at hk
    refine ⟨k, truD_ok ho1 rx e, ?_⟩
    cases k with
    | true => rw [if_pos rfl]; exact eb.run W1 σ H1 S1 ρ Q r S' (fr.mono w1) ho1 hk (hp.mono w1)
    | false => rw [if_neg (by decide)]; cases hk; exact hp v H1 W1 w1 ho1 rx
theorem de_or (ha : DE X EX a ga) (hb : DE X EX (.BoolOp .Or (b :: rest) pos) gb) : DE X EX (.BoolOp .Or (a :: b :: rest) pos) (gOrV ga gb) := by
  obtain ⟨ta, pa, ea⟩ := ha.ev
  obtain ⟨tb, pb, eb⟩ := hb.ev
  refine ⟨_, pe_orT pa pb, ⟨fun W σ H S ρ Q r S' fr ho hf hp => ?_⟩⟩
  refine ea.bd fr ho hf hp.exn fun x v S1 H1 W1 w1 ho1 rx hk => ?_
  cases e : truD S1 x with
  | none => rw [e] at hk; cases hk
  | some k =>
    rw [e] at hk
    refine ⟨k, truD_ok ho1 rx e, ?_⟩
    cases k with
    | false => rw [if_neg (by decide)]; exact eb.run W1 σ H1 S1 ρ Q r S' (fr.mono w1) ho1 hk (hp.mono w1)
    | true => rw [if_pos rfl]; cases hk; exact hp v H1 W1 w1 ho1 rx
theorem de_not (ha : DE X EX a ga) : DE X EX (.UnaryOp .Not a pos) (gNotV ga) := by
  obtain ⟨ta, pa, ea⟩ := ha.ev
  refine ⟨_, pe_notT pa, ⟨fun W σ H S ρ Q r S' fr ho hf hp => ?_⟩⟩
  refine ea.bd fr ho hf hp.exn fun x v S1 H1 W1 w1 ho1 rx hk => ?_
  cases e : truD S1 x with
  | none => rw [e] at hk; cases hk
  | some k =>
    rw [e] at hk
    cases hk
    exact ⟨k, truD_ok ho1 rx e, hp _ H1 W1 w1 ho1 .bl⟩

/-! ### built-in calls -/
theorem co_len : CO X (.builtin "len") oLen := ⟨_, call_len, callO_len⟩
theorem co_abs : CO X (.builtin "abs") oAbs := ⟨_, call_abs, callO_abs⟩
def oMax := orC (oI2 fun i j => if j > i then j else i) oMaxL
def oMin := orC (oI2 fun i j => if j < i then j else i) oMinL
theorem co_max (hc : X.calm = true) : CO X (.builtin "max") oMax := CO.or ⟨_, call_max2 hc, callO_I2⟩ ⟨_, cr_max hc, callO_maxL⟩
theorem co_min (hc : X.calm = true) : CO X (.builtin "min") oMin := CO.or ⟨_, call_min2 hc, callO_I2⟩ ⟨_, cr_min hc, callO_minL⟩
theorem co_sum (hc : X.calm = true) : CO X (.builtin "sum") oSum := ⟨_, cr_sum hc, callO_sum⟩
theorem co_any (hc : X.calm = true) : CO X (.builtin "any") oAny := ⟨_, cr_any hc, callO_any⟩
theorem co_all (hc : X.calm = true) : CO X (.builtin "all") oAll := ⟨_, cr_all hc, callO_all⟩
theorem co_int : CO X (.type "int") oInt := ⟨_, call_int1, callO_int⟩
theorem co_str : CO X (.type "str") oStr := ⟨_, call_str_int, callO_str⟩
theorem co_tuple : CO X (.type "tuple") oTuple := ⟨_, call_tuple_of, callO_tuple⟩
theorem co_dict : CO X (.type "dict") oDict := ⟨_, call_dictD, callO_dict⟩
def oLst (bx : Bool) := orC (oList bx) (oListD bx)
theorem co_list (hc : X.calm = true) (bx : Bool) : CO X (.type "list") (oLst bx) := CO.or ⟨_, call_list_of, callO_list bx⟩ ⟨_, call_listD hc, callO_listD bx⟩
theorem de_cb {bi : String} {x : Str} {op : List D → Store → Option (D × Store)} (hc : CO X (.builtin bi) op) (hm : X.mg x = none) (ha : DA X EX (e :: es) h) (hv : bootBuiltins x = some (.builtin bi)) (hg : Gl X x := by rfl) (hn : x ≠ "__name__" := by decide) (hdb : (x == ("__debug__" : Str)) = false := by decide)
    (he : starEach (e :: es) X.env = (false, eval e X.env) :: starEach es X.env := by rfl) (hpl : (backTo pos (starEach es X.env)).any (·.1) = false := by rfl) : DE X EX (.Call (.Name x p) (e :: es) [] pos) (gCB op h) := let ⟨_, h1, h2⟩ := hc; de_callB h1 h2 hm ha hg hv hn hdb he hpl
theorem de_ct {T : String} {x : Str} {op : List D → Store → Option (D × Store)} (hc : CO X (.type T) op) (hm : X.mg x = none) (ha : DA X EX (e :: es) h) (hv : bootBuiltins x = some (.type T)) (hg : Gl X x := by rfl) (hn : x ≠ "__name__" := by decide) (hdb : (x == ("__debug__" : Str)) = false := by decide)
    (he : starEach (e :: es) X.env = (false, eval e X.env) :: starEach es X.env := by rfl) (hpl : (backTo pos (starEach es X.env)).any (·.1) = false := by rfl) : DE X EX (.Call (.Name x p) (e :: es) [] pos) (gCB op h) := let ⟨_, h1, h2⟩ := hc; de_callTy h1 h2 hm ha hg hv hn hdb he hpl

/-! ### isinstance -/
def nmD (S : Store) : D → Option String
  | .non => some "NoneType"
  | .bl _ => some "bool"
  | .int _ => some "int"
  | .str _ => some "str"
  | .tup _ => some "tuple"
  | .wtup _ => some "tuple"
  | .lst _ => some "list"
  | .wlst _ => none
  | .box i => (match S[i]? with
    | some (.lst _) => some "list"
    | some (.ro _) => some "list"
    | some (.dic _ false _) => some "dict"
    | _ => none)
  | .glb _ => none
theorem nmD_ok {K : PySem.W.Frag} {mg : Str → Option Value} {W : Wd} {S : Store} {H : Hp} {d : D} {v : V} {n : String} (ho : Hold K mg W S H) (r : Rep K mg W d v) (h : nmD S d = some n) : TyX K H v (.type n) := by
  cases r with
  | non => cases h; exact .base .non
  | bl => cases h; exact .base (.bl _)
  | int => cases h; exact .base (.int _)
  | str z => cases h; exact .base (.str _)
  | tup q z r => cases h; exact .base (.tup (ho.ex _ _ q))
  | wtup q z r =>
    cases h
    rcases q (fun _ => none) with (q | ⟨o, q⟩) | ⟨o, its, n, h1, h2, _⟩
    · cases q
    · cases q
    · exact .kTuple h1 h2
  | lst q z r => cases h; exact .base (.lst (ho.ex _ _ q))
  | wlst q z r => cases h
  | @box i a q =>
    unfold nmD at h
    simp only at h
    cases e : S[i]? with
    | none => rw [e] at h; cases h
    | some c =>
      rw [e] at h
      cases c with
      | lst ds => cases h; obtain ⟨z, vs, h1, h2⟩ := ho.cell q e; exact .base (.lst h1)
      | ro ds => cases h; obtain ⟨z, o, vs, h1, h2⟩ := ho.cell q e; exact .base (.frz h1)
      | dic kd lk kvs =>
        cases lk with
        | true => cases h
        | false =>
          cases h
          obtain ⟨u, h1, h2⟩ := ho.cell q e
          rcases h1 with ⟨_, kk, e1, p⟩ | ⟨_, kk, e1, p⟩
          · subst e1; exact .base (.dK h2)
          · subst e1; exact .base (.dT h2)
      | ins c fs => cases h
      | dead => cases h
  | glb q r => cases h
def gIsi (T : String) (g : EM) : EM := fun ρ S => bd (g ρ S) fun x S1 => match (nmD S1 x).bind fun n => kitB n T with
  | some r => some (.ok (.bl r), S1)
  | none => none
theorem de_isi {T : String} {x : Str} (he : DE X EX e g) (hm : X.mg "isinstance" = none) (hmx : X.mg x = none) (hv : bootBuiltins x = some (.type T)) (hg : Gl X "isinstance" := by rfl) (hgx : Gl X x := by rfl) (hnx : x ≠ "__name__" := by decide) (hdx : (x == ("__debug__" : Str)) = false := by decide)
    (hs : starEach [e, .Name x p2] X.env = (false, eval e X.env) :: starEach [.Name x p2] X.env := by rfl) (hs2 : starEach [.Name x p2] X.env = (false, eval (.Name x p2) X.env) :: starEach [] X.env := by rfl)
    (hpl : (backTo pos (starEach [.Name x p2] X.env)).any (·.1) = false := by rfl) : DE X EX (.Call (.Name "isinstance" p) [e, .Name x p2] [] pos) (gIsi T g) := by
  obtain ⟨te, pe, ee⟩ := he.ev
  refine ⟨_, pe_callB call_isi hg hm boot_isinstance (pa_cons pe (pa_cons (pe_bltn (v := .ty T) hgx hmx hv rfl hnx hdx) pa_nil hs2) hs) (by decide) (by decide) hs hpl, ⟨fun W σ H S ρ Q r S' fr ho hf hp => ?_⟩⟩
  refine ee.bd fr ho hf hp.exn fun d v S1 H1 W1 w1 ho1 rd hk => ?_
  cases e1 : nmD S1 d with
  | none => rw [e1] at hk; cases hk
  | some n =>
    rw [e1] at hk
    have hk : (match kitB n T with
      | some r => some (Rs.ok (D.bl r), S1)
      | none => none) = some (r, S') := hk
    cases e2 : kitB n T with
    | none => rw [e2] at hk; cases hk
    | some k =>
      rw [e2] at hk
      cases hk
      exact ⟨v, .ty T, .type n, .type T, k, rfl, .ty T, nmD_ok ho1 rd e1, kit_ty e2, hp _ H1 W1 w1 ho1 .bl⟩

/-! ### methods of lists, texts, dicts -/
section
variable {name : Str} {apos cpos : Pos} {bi : String} {op : D → List D → Store → Option (D × Store)}
theorem mo_append : MO X "list.append" oAppend := ⟨_, mt_append, mtO_append⟩
theorem mo_extend : MO X "list.extend" oExtend := ⟨_, mt_extend, mtO_extend⟩
theorem mo_pop0 : MO X "list.pop" oPop := ⟨_, mt_pop, mtO_pop⟩
theorem mo_popAt : MO X "list.pop" oPopAt := ⟨_, mt_popAt, mtO_popAt⟩
theorem mo_clear : MO X "list.clear" oClear := ⟨_, mt_clear, mtO_clear⟩
theorem mo_join : MO X "str.join" oJoin := ⟨_, mt_join, mtO_join⟩
theorem mo_split (bx : Bool) : MO X "str.split" (oSplit bx) := ⟨_, mt_split, mtO_split bx⟩
theorem mo_get (hu : X.A.units + 1 < cLine) : MO X "dict.get" oGet := ⟨_, mt_get hu, mtO_get⟩
theorem mo_tget {x : Str} {tb : List (Str × Int)} (kt : KTab X.K X.mg X.w x tb) : MO X "dict.get" (oTGet x tb) := ktab_get kt
theorem de_m (ty : Ty) (pa : PlainAttrs ty.nm) (slot : Slot ty.nm name bi) (hty : typeOf (.builtin bi) = pure (.type "method_descriptor")) (hm : MO X bi op)
    (ho : DE X EX o go) (ha : DA X EX (e :: es) h)
    (hbase : attributeBase o name X.env (eval o X.env) = eval o X.env := by rfl)
    (hfew : ((backTo cpos (starEach (e :: es) X.env)).all (fun x => !x.1) && (backToKw cpos (keywordEach [] X.env)).all (fun x => x.1.isSome)
      && decide ((e :: es).length + ([] : List Keyword).length + (if ([] : List Keyword).isEmpty then 0 else 1) < 30)) = true := by rfl)
    (hline : (apos.endLine == cpos.line) = true := by rfl) (hs : starEach (e :: es) X.env = (false, eval e X.env) :: starEach es X.env := by rfl) (hplain : (backTo cpos (starEach es X.env)).any (·.1) = false := by rfl) :
    DE X EX (.Call (.Attribute o name apos) (e :: es) [] cpos) (gMt ty op go h) := let ⟨_, h1, h2⟩ := hm; de_bm pa slot hty h1 h2 ho ha hbase hfew hline hs hplain
theorem de_m0 (ty : Ty) (pa : PlainAttrs ty.nm) (slot : Slot ty.nm name bi) (hty : typeOf (.builtin bi) = pure (.type "method_descriptor")) (hm : MO X bi op)
    (ho : DE X EX o go) (hbase : attributeBase o name X.env (eval o X.env) = eval o X.env := by rfl) (hline : (apos.endLine == cpos.line) = true := by rfl) :
    DE X EX (.Call (.Attribute o name apos) [] [] cpos) (gMt ty op go aNil) := let ⟨_, h1, h2⟩ := hm; de_bm0 pa slot hty h1 h2 ho hbase hline
end
end
end Dm
set_option linter.all false
set_option maxRecDepth 100000
set_option maxHeartbeats 2000000
namespace Dm
open PySem L2 PySem.W PyProof.Rows PySem.Calls

section
variable {X : Cx} {EX : WX} {a b c o e f : Expr} {es rest : List Expr} {g ga gb gc go : EM} {h : AM} {pos p p2 cpos apos : Pos}
/-! ### D.get(key, n), D a written dict -/
def gTGet (tb : List (Str × Int)) (ga gb : EM) : EM := fun ρ S => bd (ga ρ S) fun x S1 => bd (gb ρ S1) fun y S2 => match x, y with
  | .str z, .int n => some (.ok (.int ((tb.lookup z).getD n)), S2)
  | _, _ => none
theorem de_tget {x : Str} {tb : List (Str × Int)} (kt : KTab X.K X.mg X.w x tb) (ha : DE X EX e ga) (hb : DE X EX f gb) (m : M2 X (.Name x p) "get" apos e f cpos) (hg : Gl X x := by rfl) (hdb : (x == ("__debug__" : Str)) = false := by decide) :
    DE X EX (.Call (.Attribute (.Name x p) "get" apos) [e, f] [] cpos) (gTGet tb ga gb) := by
  obtain ⟨d, es, n, hm, kd, hz⟩ := kt.ex
  obtain ⟨ta, pa, ea⟩ := ha.ev
  obtain ⟨tb', pb, eb⟩ := hb.ev
  refine ⟨fun σ H Q => ta σ H fun y H1 => tb' σ H1 fun z H2 => ∃ (w : Str) (m : Int) (u : Option Value), y = .str w ∧ z = .int m ∧ PySem.W.nsIn X.K d w = some u ∧ ((u = none ∧ Q (.int m) H2) ∨ ∃ i t, u = some (.int i t) ∧ Q (.int i) H2), ⟨fun pins s σ H Q I hq => ?_⟩, ⟨fun W σ H S ρ Q r S' fr ho hf hp => ?_⟩⟩
  · refine wpAny_Call_method m.base m.few m.line PySem.F.plainAttrs_dict PySem.F.slot_dict_get PySem.F.type_dict_get (ld_glob I hg hm ?_ hdb)
    have hmap := PySem.W.mapOf_K (prog := X.prog) (w := X.w) I.kIn kd.at_ kd.lit
    refine ⟨hmap.typeIs, hmap.noDict, ?_⟩
    rw [m.trees]
    refine Calls.callWith_builtin rfl (Calls.evalArgs_plain (Calls.spliced_cons (thn (pa.run pins s σ H _ I hq) fun iv s2 ⟨y, H2, I2, ry, q2⟩ =>
      Calls.spliced_cons (thn (pb.run pins s2 σ H2 _ I2 q2) fun fv s3 ⟨z, H3, I3, rz, wz, mz, u, e1, e2, hu, q3⟩ => Calls.spliced_nil ?_))))
    subst e1
    subst e2
    obtain ⟨t1, rfl⟩ := (show ∃ t, iv = Value.str wz t from ry)
    obtain ⟨t2, rfl⟩ := (show ∃ t, fv = Value.int mz t from rz)
    have hmap := PySem.W.mapOf_K (prog := X.prog) (w := X.w) I3.kIn kd.at_ kd.lit
    refine call_meetsIn PySem.F.slot_dict_get hmap.typeIs PySem.F.entry_dict_get (PySem.F.args_dict_get_3 _ _ _) (meets_dict_get_default (strKind X.prog X.w) d (strKind_is X.prog X.w wz t1) kd.low (.int mz t2)) ⟨_, hmap, ?_⟩
    rw [PySem.W.find_K kd.at_ hu]
    rcases q3 with ⟨e, q⟩ | ⟨i, t, e, q⟩
    · subst e
      exact ⟨.int mz, H3, I3.tok _, ⟨t2, rfl⟩, q⟩
    · subst e
      exact ⟨.int i, H3, I3.tok _, ⟨t, rfl⟩, q⟩
  · refine ea.bd fr ho hf hp.exn fun x v S1 H1 W1 w1 ho1 rx hk1 => ?_
    refine eb.bd (fr.mono w1) ho1 hk1 (hp.mono w1).exn fun y u S2 H2 W2 w2 ho2 ry hk2 => ?_
    have w12 := w1.trans w2
    cases x with
    | str z =>
      cases y with
      | int m =>
        cases hk2
        cases rx
        cases ry
        obtain ⟨u, hu, hv⟩ := hz z
        refine ⟨z, m, u, rfl, rfl, hu, ?_⟩
        cases el : tb.lookup z with
        | none => rw [el] at hv hp; exact .inl ⟨hv, hp _ H2 W2 w12 ho2 .int⟩
        | some i => rw [el] at hv hp; obtain ⟨t, q⟩ := hv; exact .inr ⟨i, t, q, hp _ H2 W2 w12 ho2 .int⟩
      | _ => cases hk2
    | _ => cases hk2

/-! ### {k: v, ..} with text keys -/
structure DPP (X : Cx) (EX : WX) (pos : Pos) (keys : List (Option Expr)) (vs : List Expr) (ks : List Str) (gs : List EM) : Prop where
  ev : ∃ trs, PPs X pos keys vs trs ∧ PySem.Paired (fun (t : TE × TE) (q : Str × EM) => (∀ σ H Q, t.1 σ H Q ↔ Q (.str q.1) H) ∧ Ev X.K X.mg EX (RD X) t.2 q.2) trs (ks.zip gs)
  len : ks.length = gs.length
theorem dpp_nil : DPP X EX pos [] [] [] [] := ⟨⟨[], pps_nil, .nil⟩, rfl⟩
theorem dpp_cons {k : Str} {j : Nat} {kp : Pos} {v : Expr} {keys : List (Option Expr)} {vs : List Expr} {ks : List Str} {gs : List EM} (hv : DE X EX v g) (hr : DPP X EX pos keys vs ks gs) :
    DPP X EX pos (some (.Constant (.str k) j kp) :: keys) (v :: vs) (k :: ks) (g :: gs) := by
  obtain ⟨tv, pv, ev⟩ := hv.ev
  obtain ⟨trs, ps, es⟩ := hr.ev
  exact ⟨⟨(tC (.str k), tv) :: trs, pps_cons pe_str pv ps, .cons ⟨fun σ H Q => Iff.rfl, ev⟩ es⟩, congrArg (· + 1) hr.len⟩
def ppD : List (Str × EM) → Env → Store → Option (Rs (List (D × D)) × Store)
  | [], _, S => some (.ok [], S)
  | (k, g) :: r, ρ, S => bd (g ρ S) fun v S1 => bd (ppD r ρ S1) fun kvs S2 => if k.length ≤ sizeLine then some (.ok ((.str k, v) :: kvs), S2) else none
abbrev RKv (X : Cx) (ks : List Str) : Wd → List (D × D) → List (V × V) → Prop := fun W' kvs ps => ∃ kk : List (Key × V), ps = kk.map (fun kv => (kV kv.1, kv.2)) ∧ kk.map (·.1) = ks.map (fun q => (Sum.inr q : Key)) ∧ PySem.Paired (fun (p : D × D) (q : Key × V) => (keyK p.1 = some q.1 ∧ RK0 X.K X.mg W' p.1 q.1) ∧ Rep X.K X.mg W' p.2 q.2) kvs kk
theorem pp_ev : ∀ {trs : List (TE × TE)} {qs : List (Str × EM)}, PySem.Paired (fun (t : TE × TE) (q : Str × EM) => (∀ σ H Q, t.1 σ H Q ↔ Q (.str q.1) H) ∧ Ev X.K X.mg EX (RD X) t.2 q.2) trs qs → Ev X.K X.mg EX (RKv X (qs.map (·.1))) (tPairs trs) (ppD qs)
  | _, _, .nil => ⟨fun W σ H S ρ Q r S' fr ho hf hp => by
    cases hf
    exact hp [] H W (Wle.refl W) ho ⟨[], rfl, rfl, .nil⟩⟩
  | _, _, .cons (a := t) (b := q) hh rr => ⟨fun W σ H S ρ Q r S' fr ho hf hp => by
    obtain ⟨h1, h2⟩ := hh
    obtain ⟨k, g⟩ := q
    refine (h1 σ H _).mpr ?_
    refine h2.bd fr ho hf hp.exn fun d v S1 H1 W1 w1 ho1 rd hk1 => ?_
    refine (pp_ev rr).bd (fr.mono w1) ho1 hk1 (hp.mono w1).exn fun kvs ps S2 H2 W2 w2 ho2 rk hk2 => ?_
    split at hk2
    · rename_i hz
      cases hk2
      obtain ⟨kk, e1, e2, e3⟩ := rk
      refine hp _ H2 W2 (w1.trans w2) ho2 ⟨((Sum.inr k : Key), v) :: kk, by rw [e1]; rfl, by rw [List.map_cons, List.map_cons, e2]; rfl, .cons ⟨⟨rfl, ?_⟩, rd.mono w2⟩ e3⟩
      exact .str hz
    · cases hk2⟩
/-- the display: its keys are unlike -/
def gDisp (ks : List Str) (gs : List EM) : EM := fun ρ S => bd (ppD (ks.zip gs) ρ S) fun kvs S1 => some (.ok (.box S1.length), S1 ++ [.dic 0 false kvs])
theorem merge_new : ∀ {more acc : List (Key × V)}, ((acc ++ more).map (·.1)).Nodup → mergeK acc more = acc ++ more
  | [], acc, _ => by unfold mergeK; simp
  | (k, v) :: r, acc, h => by
    have e : putK acc k v = acc ++ [(k, v)] := by
      unfold putK
      rw [if_neg]
      intro q
      rw [List.any_eq_true] at q
      obtain ⟨p, hp, e⟩ := q
      have e : p.1 = k := by simpa using e
      rw [List.map_append, List.nodup_append] at h
      exact h.2.2 p.1 (List.mem_map_of_mem hp) k (by simp) e
    show mergeK (putK acc k v) r = _
    rw [e, merge_new (by rw [List.append_assoc]; exact h), List.append_assoc]
    rfl
theorem de_disp {keys : List (Option Expr)} {vs : List Expr} {ks : List Str} {gs : List EM} (h : DPP X EX pos keys vs ks gs) (nd : ks.Nodup := by decide) (h15 : keys.length ≤ 15 := by decide) (hk15 : ks.length ≤ 15 := by decide) (h0 : keys ≠ [] := by intro z; cases z) (hall : keys.all (·.isSome) = true := by rfl) (hl : keys.length = vs.length := by rfl) :
    DE X EX (.Dict keys vs pos) (gDisp ks gs) := by
  obtain ⟨trs, ps, es⟩ := h.ev
  refine ⟨_, pe_disp ps hall hl h0 h15, ⟨fun W σ H S ρ Q r S' fr ho hf hp => ?_⟩⟩
  intro pp np
  have npv : ∀ q ∈ W.pv, q.1 ≠ pp := fun q hq => ne_of_none (ho.pvt q hq).1 np
  have ho1 := ho.priv (o := .dK []) np
  have fr1 : Fr X.K X.mg ⟨W.Hf, W.eta, (pp, .dK []) :: W.pv⟩ ρ σ := ⟨fr.1, fun i d e => by
    obtain ⟨v, k1, k2⟩ := fr.2 i d e
    exact ⟨v, k1, Rep.monoV (W := W) (W' := ⟨W.Hf, W.eta, (pp, .dK []) :: W.pv⟩) (fun _ _ z => z) (fun _ _ z => z) k2⟩⟩
  have down : ∀ {W1 : Wd}, Wle ⟨W.Hf, W.eta, (pp, .dK []) :: W.pv⟩ W1 → Wle W ⟨W1.Hf, W1.eta, W.pv⟩ := fun w => ⟨w.hf, w.et, rfl⟩
  refine (pp_ev es).bd fr1 ho1 hf (fun x ex cls dd H' W' w' ho' xr => ?_) fun kvs pss S1 H1 W1 w1 ho2 rk hk => ?_
  · subst ex
    have e : W'.pv = (pp, .dK []) :: W.pv := w'.pv
    have ho3 : Hold X.K X.mg ⟨W'.Hf, W'.eta, (pp, .dK []) :: W.pv⟩ S' H' := by rw [← e]; exact ho'
    refine hp cls dd H' ⟨W'.Hf, W'.eta, W.pv⟩ (down w') ho3.privOut ?_
    obtain ⟨C, x1, x2, x3⟩ := xr
    refine ⟨C, x1, x2, ?_⟩
    rcases x3 with x3 | ⟨d, vs, y1, y2, y3⟩
    · exact .inl x3
    · exact .inr ⟨d, vs, y1, y2, Paired.mapP y3 fun _ _ q => ⟨q.1, Rep.monoV (W := W') (W' := ⟨W'.Hf, W'.eta, W.pv⟩) (fun _ _ z => z) (fun _ _ z => z) q.2⟩⟩
  · cases hk
    have e : W1.pv = (pp, .dK []) :: W.pv := w1.pv
    have ho3 : Hold X.K X.mg ⟨W1.Hf, W1.eta, (pp, .dK []) :: W.pv⟩ S1 H1 := by rw [← e]; exact ho2
    obtain ⟨kk, e1, e2, e3⟩ := rk
    have hd : H1 pp = some (.dK []) := (ho3.pvt (pp, .dK []) List.mem_cons_self).1
    have hlen : kk.length ≤ 15 := by
      have q := congrArg List.length e2
      rw [List.length_map, List.length_map, List.length_map, List.length_zip, h.len, Nat.min_self, ← h.len] at q
      rw [q]; exact hk15
    refine ⟨hd, kk, e1, hlen, ?_⟩
    have hkey : (ks.zip gs).map (·.1) = ks := List.map_fst_zip (by rw [h.len]; exact Nat.le_refl _)
    have mg : mergeK [] kk = kk := by
      refine (merge_new (acc := []) ?_).trans (List.nil_append _)
      rw [List.nil_append, e2, hkey]
      exact List.Pairwise.map _ (fun a b hab z => hab (by cases z; rfl)) nd
    rw [mg]
    have ho4 := ho3.privSet (o' := .dK kk) npv
    have up : ∀ (i : Nat) a, W1.eta[i]? = some a → (W1.eta ++ [pp])[i]? = some a := fun i a z => by
      rw [List.getElem?_append_left (List.getElem?_eq_some_iff.mp z).1]; exact z
    have e3' : PySem.Paired (fun (p : D × D) (q : Key × V) => (keyK p.1 = some q.1 ∧ RK0 X.K X.mg ⟨W1.Hf, W1.eta ++ [pp], W.pv⟩ p.1 q.1) ∧ Rep X.K X.mg ⟨W1.Hf, W1.eta ++ [pp], W.pv⟩ p.2 q.2) kvs kk :=
      Paired.mapP e3 fun _ _ q => ⟨⟨q.1.1, Rep.monoV (W := W1) (W' := ⟨W1.Hf, W1.eta ++ [pp], W.pv⟩) (fun _ _ z => z) up q.1.2⟩, Rep.monoV (W := W1) (W' := ⟨W1.Hf, W1.eta ++ [pp], W.pv⟩) (fun _ _ z => z) up q.2⟩
    have ho5 := ho4.privBox (c := .dic 0 false kvs) npv ⟨.dK kk, .inl ⟨rfl, kk, rfl, e3'⟩, upd_same⟩
    refine hp _ _ ⟨W1.Hf, W1.eta ++ [pp], W.pv⟩ ⟨w1.hf, ?_, rfl⟩ ho5 (.box ?_)
    · obtain ⟨t, et⟩ := w1.et
      exact ⟨t ++ [pp], by show W1.eta ++ [pp] = _; rw [et, List.append_assoc]⟩
    · have hl : W1.eta.length = S1.length := ho2.len
      show (W1.eta ++ [pp])[S1.length]? = some pp
      rw [← hl, List.getElem?_append_right (Nat.le_refl _), Nat.sub_self]; rfl
end
end Dm
set_option linter.all false
set_option maxRecDepth 100000
set_option maxHeartbeats 2000000
namespace Dm
open PySem L2 PySem.W PyProof.Rows PySem.Calls

/-! ### what a def leaves behind in the store is cut off where nobody can see it -/
mutual
def undD (n : Nat) : D → Bool
  | .box i => decide (i < n)
  | .tup xs => undL n xs
  | .wtup xs => undL n xs
  | .lst xs => undL n xs
  | .wlst xs => undL n xs
  | _ => true
def undL (n : Nat) : List D → Bool
  | [] => true
  | d :: ds => undD n d && undL n ds
end
def undP (n : Nat) : List (D × D) → Bool
  | [] => true
  | (a, b) :: r => undD n a && undD n b && undP n r
def undF (n : Nat) : List (Str × D) → Bool
  | [] => true
  | (_, b) :: r => undD n b && undF n r
def undC (n : Nat) : Cell → Bool
  | .lst ds => undL n ds
  | .ro ds => undL n ds
  | .dic _ _ kvs => undP n kvs
  | .ins _ fs => undF n fs
  | .dead => true
section
variable {K : PySem.W.Frag} {mg : Str → Option Value} {W W' : Wd}
mutual
theorem Rep.und : ∀ {d : D} {v : V}, Rep K mg W d v → undD W.eta.length d = true
  | _, _, .non => rfl
  | _, _, .bl => rfl
  | _, _, .int => rfl
  | _, _, .str _ => rfl
  | _, _, .tup _ _ r => by unfold undD; exact RepL.und r
  | _, _, .wtup _ _ r => by unfold undD; exact RepL.und r
  | _, _, .lst _ _ r => by unfold undD; exact RepL.und r
  | _, _, .wlst _ _ r => by unfold undD; exact RepL.und r
  | _, _, .box h => by unfold undD; exact decide_eq_true (List.getElem?_eq_some_iff.mp h).1
  | _, _, .glb _ _ => rfl
theorem RepL.und : ∀ {ds : List D} {vs : List V}, RepL K mg W ds vs → undL W.eta.length ds = true
  | _, _, .nil => rfl
  | _, _, .cons h r => by unfold undL; rw [Rep.und h, RepL.und r]; rfl
end
/-- the world with fewer boxes -/
structure Few (n : Nat) (W W' : Wd) : Prop where
  hf : ∀ a o, W.Hf a = some o → W'.Hf a = some o
  et : ∀ (i : Nat) a, i < n → W.eta[i]? = some a → W'.eta[i]? = some a
mutual
theorem Rep.few {n : Nat} (w : Few n W W') : ∀ {d : D} {v : V}, Rep K mg W d v → undD n d = true → Rep K mg W' d v
  | _, _, .non, _ => .non
  | _, _, .bl, _ => .bl
  | _, _, .int, _ => .int
  | _, _, .str z, _ => .str z
  | _, _, .tup h z r, u => .tup (w.hf _ _ h) z (RepL.few w r (by unfold undD at u; exact u))
  | _, _, .wtup h z r, u => .wtup h z (RepL.few w r (by unfold undD at u; exact u))
  | _, _, .lst h z r, u => .lst (w.hf _ _ h) z (RepL.few w r (by unfold undD at u; exact u))
  | _, _, .wlst h z r, u => .wlst (fun H q => h H fun b o e => q b o (w.hf b o e)) z (RepL.few w r (by unfold undD at u; exact u))
  | _, _, .box h, u => .box (w.et _ _ (by unfold undD at u; exact of_decide_eq_true u) h)
  | _, _, .glb h r, _ => .glb h r
theorem RepL.few {n : Nat} (w : Few n W W') : ∀ {ds : List D} {vs : List V}, RepL K mg W ds vs → undL n ds = true → RepL K mg W' ds vs
  | _, _, .nil, _ => .nil
  | _, _, .cons h r, u => by
    unfold undL at u
    rw [Bool.and_eq_true] at u
    exact .cons (Rep.few w h u.1) (RepL.few w r u.2)
end
theorem undF_paired {n : Nat} (w : Few n W W') : ∀ {fs : List (Str × D)} {vs : List (Str × V)}, PySem.Paired (fun (p : Str × D) (q : Str × V) => p.1 = q.1 ∧ Rep K mg W p.2 q.2) fs vs → undF n fs = true → PySem.Paired (fun (p : Str × D) (q : Str × V) => p.1 = q.1 ∧ Rep K mg W' p.2 q.2) fs vs
  | _, _, .nil, _ => .nil
  | (a, b) :: r, _, .cons h t, u => by
    unfold undF at u
    rw [Bool.and_eq_true] at u
    exact .cons ⟨h.1, h.2.few w u.1⟩ (undF_paired w t u.2)
theorem undP_paired {n : Nat} {κ : Type} (w : Few n W W') {J J' : D → κ → Prop} (hJ : ∀ d k, undD n d = true → J d k → J' d k) {f : D → Option κ} : ∀ {kvs : List (D × D)} {kk : List (κ × V)}, PySem.Paired (fun (p : D × D) (q : κ × V) => (f p.1 = some q.1 ∧ J p.1 q.1) ∧ Rep K mg W p.2 q.2) kvs kk → undP n kvs = true →
    PySem.Paired (fun (p : D × D) (q : κ × V) => (f p.1 = some q.1 ∧ J' p.1 q.1) ∧ Rep K mg W' p.2 q.2) kvs kk
  | _, _, .nil, _ => .nil
  | (a, b) :: r, _, .cons h t, u => by
    unfold undP at u
    rw [Bool.and_eq_true, Bool.and_eq_true] at u
    exact .cons ⟨⟨h.1.1, hJ _ _ u.1.1 h.1.2⟩, h.2.few w u.1.2⟩ (undP_paired w hJ t u.2)
theorem DicO.few {n : Nat} (w : Few n W W') {kd : Nat} {kvs : List (D × D)} {u : HO} (h : DicO K mg W kd kvs u) (q : undP n kvs = true) : DicO K mg W' kd kvs u := by
  rcases h with ⟨e, kk, e', p⟩ | ⟨e, kk, e', p⟩
  · exact .inl ⟨e, kk, e', undP_paired w (fun d k u r => r.few w u) p q⟩
  · refine .inr ⟨e, kk, e', undP_paired w (fun d k u r => ?_) p q⟩
    obtain ⟨ds, h1, h0, h2⟩ := r
    subst h1
    exact ⟨ds, rfl, h0, h2.few w (by unfold undD at u; exact u)⟩
theorem CellOk.few {n : Nat} (w : Few n W W') {H : Hp} {a : Addr} : ∀ {c : Cell}, CellOk K mg W H a c → undC n c = true → CellOk K mg W' H a c
  | .lst ds, ⟨z, vs, h, r⟩, u => ⟨z, vs, h, r.few w u⟩
  | .ro ds, ⟨z, o, vs, h, r⟩, u => ⟨z, o, vs, h, r.few w u⟩
  | .dic kd false kvs, ⟨o, h, q⟩, u => ⟨o, h.few w u, q⟩
  | .dic kd true kvs, ⟨o, o', h, q⟩, u => ⟨o, o', h.few w u, q⟩
  | .ins c fs, ⟨C, dx, vs, h1, h2, p⟩, u => ⟨C, dx, vs, h1, h2, undF_paired w p u⟩
  | .dead, _, _ => True.intro
theorem undF_of : ∀ {fs : List (Str × D)} {vs : List (Str × V)}, PySem.Paired (fun (p : Str × D) (q : Str × V) => p.1 = q.1 ∧ Rep K mg W p.2 q.2) fs vs → undF W.eta.length fs = true
  | _, _, .nil => rfl
  | (a, b) :: r, _, .cons h t => by unfold undF; rw [h.2.und, undF_of t]; rfl
theorem undP_of {κ : Type} {J : D → κ → Prop} (hJ : ∀ d k, J d k → undD W.eta.length d = true) {f : D → Option κ} : ∀ {kvs : List (D × D)} {kk : List (κ × V)}, PySem.Paired (fun (p : D × D) (q : κ × V) => (f p.1 = some q.1 ∧ J p.1 q.1) ∧ Rep K mg W p.2 q.2) kvs kk → undP W.eta.length kvs = true
  | _, _, .nil => rfl
  | (a, b) :: r, _, .cons h t => by unfold undP; rw [hJ _ _ h.1.2, h.2.und, undP_of hJ t]; rfl
theorem CellOk.und {H : Hp} {a : Addr} : ∀ {c : Cell}, CellOk K mg W H a c → undC W.eta.length c = true
  | .lst ds, ⟨z, vs, h, r⟩ => r.und
  | .ro ds, ⟨z, o, vs, h, r⟩ => r.und
  | .dic kd lk kvs, h => by
    have : ∃ u, DicO K mg W kd kvs u := by
      cases lk with
      | false => obtain ⟨u, h, _⟩ := h; exact ⟨u, h⟩
      | true => obtain ⟨_, u, h, _⟩ := h; exact ⟨u, h⟩
    obtain ⟨u, h⟩ := this
    rcases h with ⟨e, kk, e', p⟩ | ⟨e, kk, e', p⟩
    · exact undP_of (J := RK0 K mg W) (fun d k r => Rep.und r) p
    · refine undP_of (fun d k r => ?_) p
      obtain ⟨ds, h1, h0, h2⟩ := r
      subst h1
      unfold undD
      exact h2.und
  | .ins c fs, ⟨C, dx, vs, h1, h2, p⟩ => undF_of p
  | .dead, _ => rfl
end
/-- the cells are as they were, or look at nothing that is cut off -/
def CutOk (S S' : Store) (b : Bool) : Prop := b = true ∧ (S'.take S.length = S ∨ (S'.take S.length).all (undC S.length) = true)
def rsU (n : Nat) : Rs D → Bool
  | .ok d => undD n d
  | .ex e => undF n e.fl
noncomputable def pureS (sem : FnS) : FnS := by
  classical
  exact fun xs S => match sem xs S with
    | some (r, S') => if CutOk S S' (rsU S.length r) then some (r, S'.take S.length) else some (r, S')
    | none => none
theorem Hold.cutS {K : PySem.W.Frag} {mg : Str → Option Value} {W W' : Wd} {S S' : Store} {H H' : Hp} (ho : Hold K mg W S H) (w : Wle W W') (ho' : Hold K mg W' S' H') (hc : S'.take S.length = S ∨ (S'.take S.length).all (undC S.length) = true) :
    Few S.length W' ⟨W'.Hf, W.eta, W'.pv⟩ ∧ Wle W ⟨W'.Hf, W.eta, W'.pv⟩ ∧ Hold K mg ⟨W'.Hf, W.eta, W'.pv⟩ (S'.take S.length) H' := by
  obtain ⟨t, et⟩ := w.et
  have up : ∀ (i : Nat) a, W.eta[i]? = some a → W'.eta[i]? = some a := fun i a e => by
    rw [et, List.getElem?_append_left (List.getElem?_eq_some_iff.mp e).1]; exact e
  have fw : Few S.length W' ⟨W'.Hf, W.eta, W'.pv⟩ := ⟨fun _ _ e => e, fun i a hi e => by
    rw [et, List.getElem?_append_left (by rw [ho.len]; exact hi)] at e; exact e⟩
  have hle : S.length ≤ S'.length := by
    rw [← ho.len, ← ho'.len, et, List.length_append]; omega
  refine ⟨fw, ⟨w.hf, ⟨[], (List.append_nil _).symm⟩, w.pv⟩, ⟨ho'.ex, ?_, fun i j a e1 e2 => ho'.nd i j a (up i a e1) (up j a e2), fun i a c e1 e2 => ?_, fun i a e1 => ho'.there i a (up i a e1), fun p hp => ?_⟩⟩
  · show W.eta.length = (S'.take S.length).length
    rw [List.length_take, ho.len]; omega
  · have hi : i < S.length := by
      have := (List.getElem?_eq_some_iff.mp e1).1
      rw [← ho.len]; exact this
    have e2' : S'[i]? = some c := by rw [List.getElem?_take_of_lt hi] at e2; exact e2
    rcases ho'.cells i a c (up i a e1) e2' with k | ⟨k1, k2⟩
    · exact .inl k
    · refine .inr ⟨k1, k2.few fw ?_⟩
      rcases hc with hc | hc
      · rw [hc] at e2
        rcases ho.cells i a c e1 e2 with q | ⟨_, q⟩
        · subst q; rfl
        · have z := q.und
          rw [ho.len] at z
          exact z
      · exact List.all_eq_true.mp hc c (List.mem_of_getElem? e2)
  · obtain ⟨k1, k2, k3⟩ := ho'.pvt p hp
    exact ⟨k1, k2, fun i e => k3 i (up i p.1 e)⟩
theorem FO.pure {P : Program} {w : World} {K : PySem.W.Frag} {mg : Str → Option Value} {base : Heap} {k : Nat} {f : Addr} {fd : FuncData} {ps : List Str} {sem : FnS} (F : FO P w K mg base k f fd ps sem) : FO P w K mg base k f fd ps (pureS sem) := by
  refine F.imp fun vs H Q E h => ?_
  obtain ⟨W, S, ds, r, S', h1, ho, rl, hs, hp⟩ := h
  unfold pureS at hs
  cases e : sem ds S with
  | none => rw [e] at hs; cases hs
  | some q =>
    obtain ⟨r0, S0⟩ := q
    rw [e] at hs
    simp only at hs
    refine ⟨W, S, ds, r0, S0, h1, ho, rl, e, ?_⟩
    split at hs
    · rename_i hc
      cases hs
      obtain ⟨hu, hc⟩ := hc
      cases r with
      | ok d =>
        intro v H' W' w' ho' rv
        obtain ⟨fw, w2, ho2⟩ := ho.cutS w' ho' hc
        exact hp v H' _ w2 ho2 (rv.few fw hu)
      | ex x =>
        intro cls dd H' W' w' ho' xr
        obtain ⟨fw, w2, ho2⟩ := ho.cutS w' ho' hc
        refine hp cls dd H' _ w2 ho2 ?_
        obtain ⟨C, x1, x2, x3⟩ := xr
        refine ⟨C, x1, x2, ?_⟩
        rcases x3 with x3 | ⟨d, vs, y1, y2, y3⟩
        · exact .inl x3
        · exact .inr ⟨d, vs, y1, y2, undF_paired fw y3 hu⟩
    · cases hs
      exact hp
theorem pureS_eq {sem : FnS} {xs : List D} {S J : Store} {r : Rs D} (h : sem xs S = some (r, S ++ J)) (hu : rsU S.length r = true) : pureS sem xs S = some (r, S) := by
  unfold pureS
  rw [h]
  simp only
  rw [if_pos ⟨hu, .inl (by rw [List.take_left])⟩, List.take_left]
theorem pureS_cut {sem : FnS} {xs : List D} {S S1 J : Store} {r : Rs D} (h : sem xs S = some (r, S1 ++ J)) (hl : S1.length = S.length) (hu : rsU S.length r = true) (hs : S1.all (undC S.length) = true) : pureS sem xs S = some (r, S1) := by
  unfold pureS
  rw [h]
  simp only
  have e : (S1 ++ J).take S.length = S1 := by rw [← hl, List.take_left]
  rw [e, if_pos ⟨hu, .inr (by rw [e]; exact hs)⟩]

/-! ### a def of the module, with its promise -/
structure Fo (P : Program) (w : World) (K : PySem.W.Frag) (mg : Str → Option Value) (base : Heap) (k : Nat) (x : Str) (ps : List Str) (sem : FnS) : Prop where
  ex : ∃ f fd, mg x = some (.ref f) ∧ PySem.W.keepIn K (.ref f) = true ∧ Binds K fd ps [] ∧ FO P w K mg base k f fd ps sem
/-- what the top has made of a def -/
structure Df (K : PySem.W.Frag) (mg : Str → Option Value) (x : Str) (st : Stmt) (ps : List Str) : Prop where
  ex : ∃ f fd, mg x = some (.ref f) ∧ Fun K x x st f fd ∧ Binds K fd ps []
/-- what a body's derivation is -/
abbrev Body (P : Program) (w : World) (K : PySem.W.Frag) (mg : Str → Option Value) (base : Heap) (k : Nat) (N : List Str) (qual : Str) (scope : Scope) (body : List Stmt) (fb : SM) : Prop :=
  ∀ (f : Addr) (cdv : Value) (A : Around) (outer : List PySem.Env) (s : Shared) (H : Hp) (E : XK), Room k (A.deeper (envOfC qual scope s.heap.objs.size f cdv)) → Takes (cxOf (L2.CX P w) P w K mg base N qual scope f cdv A outer s H E) (ExOf E) →
      PassesOwn (model P w) (cxOf (L2.CX P w) P w K mg base N qual scope f cdv A outer s H E).A (cxOf (L2.CX P w) P w K mg base N qual scope f cdv A outer s H E).env (cxOf (L2.CX P w) P w K mg base N qual scope f cdv A outer s H E).xe →
      DSs (cxOf (L2.CX P w) P w K mg base N qual scope f cdv A outer s H E) (ExOf E) body fb
section
variable {P : Program} {w : World} {K : PySem.W.Frag} {mg : Str → Option Value} {base : Heap} {x : Str} {st : Stmt} {ps N : List Str} {k j : Nat} {fb : SM} {sem : FnS}
theorem fo_of (Dx : Df K mg x st ps) (S : FnScope N ps (defScope st)) (hb : Body P w K mg base k N x (defScope st) (defBody st) fb) : Fo P w K mg base (k + 1) x ps (semD ps.length N.length fb) := by
  obtain ⟨f, fd, hm, F, b⟩ := Dx.ex
  exact ⟨f, fd, hm, F.kp, b, def_ok F S fun cdv A outer s H E hr tk pw => hb f cdv A outer s H E hr tk pw⟩
theorem Fo.pure (h : Fo P w K mg base k x ps sem) : Fo P w K mg base k x ps (pureS sem) := let ⟨f, fd, h1, h2, h3, h4⟩ := h.ex; ⟨f, fd, h1, h2, h3, FO.pure h4⟩
theorem Fo.mono (h : Fo P w K mg base j x ps sem) (hk : j ≤ k) : Fo P w K mg base k x ps sem := let ⟨f, fd, h1, h2, h3, h4⟩ := h.ex; ⟨f, fd, h1, h2, h3, FnOk.mono h4 hk⟩
theorem fo_none (Dx : Df K mg x st ps) : Fo P w K mg base k x ps (fun _ _ => none) := let ⟨f, fd, hm, F, b⟩ := Dx.ex; ⟨f, fd, hm, F.kp, b, FO.none⟩
end
section
variable {X : Cx} {EX : WX} {k : Nat} {ps : List Str} {sem : FnS} {x : Str} {p pos : Pos} {e : Expr} {es : List Expr} {h : AM}
theorem de_fo (F : Fo X.prog X.w X.K X.mg X.base k x ps sem) (hr : Room k X.A) (tk : Takes X EX) (ha : DA X EX (e :: es) h)
    {ar : Nat} (hl : ps.length = ar := by rfl) (hg : Gl X x := by rfl) (hdb : (x == ("__debug__" : Str)) = false := by decide) (he : starEach (e :: es) X.env = (false, eval e X.env) :: starEach es X.env := by rfl) (hpl : (backTo pos (starEach es X.env)).any (·.1) = false := by rfl) :
    DE X EX (.Call (.Name x p) (e :: es) [] pos) (gCall ar sem h) := by
  subst hl
  obtain ⟨f, fd, h1, h2, h3, h4⟩ := F.ex
  exact de_call h4 hr h1 h2 h3 tk ha hg hdb he hpl
theorem hu64 {k : Nat} {A : Around} (hr : Room k A) : A.units + 64 < cLine := hr.units
theorem hu1 {k : Nat} {A : Around} (hr : Room k A) : A.units + 1 < cLine := hu_of hr
end
end Dm
set_option linter.all false
set_option maxRecDepth 100000
set_option maxHeartbeats 2000000
namespace Dm
open PySem L2 PySem.W PyProof.Rows PySem.Calls

/-! ### zip of two things, each a list or a tuple, strict or not -/
inductive Kd where
  | l | t
def Kd.It (k : Kd) (h : Heap) (i a : Addr) (n : Nat) : Prop := match k with
  | .l => h.IsListIter i a n
  | .t => h.IsTupleIter i a n
def Kd.Sq (k : Kd) (h : Heap) (a : Addr) (its : Array Value) : Prop := match k with
  | .l => h.IsList a its
  | .t => h.IsTuple a its
theorem Kd.It.keep {k : Kd} {h h' : Heap} {i a : Addr} {n : Nat} (x : k.It h i a n) (q : ∀ o, h.get? i = some o → h'.get? i = some o) : k.It h' i a n := by
  cases k with
  | l => exact Heap.IsListIter.at x q
  | t => exact Heap.IsTupleIter.at x q
theorem Kd.Sq.keep {k : Kd} {h h' : Heap} {a : Addr} {its : Array Value} (x : k.Sq h a its) (q : ∀ o, h.get? a = some o → h'.get? a = some o) : k.Sq h' a its := by
  cases k with
  | l => exact Heap.IsList.at x q
  | t =>
    obtain ⟨o, e, r⟩ := x
    exact ⟨o, q o e, r⟩
theorem Kd.It.there {k : Kd} {h : Heap} {i a : Addr} {n : Nat} (x : k.It h i a n) : ∃ o, h.get? i = some o ∧ ∀ v, o.data ≠ .cell v := by
  cases k with
  | l => obtain ⟨o, e, _, d⟩ := x; exact ⟨o, e, fun v z => by rw [d] at z; cases z⟩
  | t => obtain ⟨o, e, _, d⟩ := x; exact ⟨o, e, fun v z => by rw [d] at z; cases z⟩
abbrev ZipB (h : Heap) (z TI TO : Addr) (f0 : Value) (b : Bool) : Prop :=
  h.get? z = some { cls := .type "zip", dict := none, data := .fields #[f0, .bool false, .bool b, .ref TI, .ref TO], slots := #[] }
section
variable {prog : Program} {w : World} {A : Around} {E : Value → Shared → Prop} {s : Shared}
theorem nextK_item {k : Kd} {i a : Addr} {n : Nat} {its : Array Value} {x : Value} {Q : Value → Shared → Prop} (hi : k.It s.heap i a n) (ha : k.Sq s.heap a its) (hx : its[n]? = some x)
    (hQ : ∀ h', k.It h' i a (n + 1) → Heap.SameBut i s.heap h' → Q x { s with heap := h' }) : wpAny (model prog w) A (Builtin.SmallTypes.nextOf (.ref i)) Q E s := by
  cases k with
  | l => exact wpAny_nextOf_list_item hi ha hx hQ
  | t => exact RZ.nextOf_tuple_item hi ha hx hQ
theorem nextK_end {k : Kd} {i a : Addr} {n : Nat} {its : Array Value} {Q : Value → Shared → Prop} (hh : A.handled = none) (hi : k.It s.heap i a n) (ha : k.Sq s.heap a its) (hx : its[n]? = none)
    (hE : ∀ h' e, Heap.ExtBut i s.heap h' → (∃ o, h'.get? e = some o ∧ o.cls = .type "StopIteration") → E (.ref e) { s with heap := h' }) : wpAny (model prog w) A (Builtin.SmallTypes.nextOf (.ref i)) Q E s := by
  cases k with
  | l => exact wpAny_nextOf_list_end hh hi ha hx hE
  | t => exact RZ.nextOf_tuple_end hh hi ha hx hE
theorem orEndK_item {k : Kd} {i a : Addr} {n : Nat} {its : Array Value} {x : Value} {Q : Option Value → Shared → Prop} (hi : k.It s.heap i a n) (ha : k.Sq s.heap a its) (hx : its[n]? = some x)
    (hQ : ∀ h', k.It h' i a (n + 1) → Heap.SameBut i s.heap h' → Q (some x) { s with heap := h' }) : wpAny (model prog w) A (Builtin.SmallTypes.nextOrEnd (.ref i)) Q E s := by
  unfold Builtin.SmallTypes.nextOrEnd
  exact wpAny_bind (wpAny_attempt (nextK_item hi ha hx fun h' a b => wpAny_pure (hQ h' a b)))
theorem orEndK_end {k : Kd} {i a : Addr} {n : Nat} {its : Array Value} {Q : Option Value → Shared → Prop} (hh : A.handled = none) (hi : k.It s.heap i a n) (ha : k.Sq s.heap a its) (hx : its[n]? = none)
    (hQ : ∀ h', Heap.ExtBut i s.heap h' → Q none { s with heap := h' }) : wpAny (model prog w) A (Builtin.SmallTypes.nextOrEnd (.ref i)) Q E s := by
  unfold Builtin.SmallTypes.nextOrEnd
  refine wpAny_bind (wpAny_attempt (nextK_end hh hi ha hx fun h' e hk he => ?_))
  obtain ⟨o, ho, hc⟩ := he
  refine wpAny_bind (wpAny_isInstance (T := "StopIteration") (b := true) ⟨o, ho, hc⟩ isSubtype_stop ?_)
  exact wpAny_pure (hQ _ hk)
theorem stop_raise {α : Type} {Q : α → Shared → Prop} (hh : A.handled = none) (hE : ∀ h' e, (∀ b o, s.heap.get? b = some o → h'.get? b = some o) → (∃ o, h'.get? e = some o ∧ o.cls = .type "StopIteration") → E (.ref e) { s with heap := h' }) :
    wpAny (model prog w) A (Builtin.SmallTypes.stopIteration : Sem α) Q E s := by
  unfold Builtin.SmallTypes.stopIteration
  refine wpAny_bind ?_
  simp only [newExc, newTuple]
  refine wpAny_bind (wpAny_newObj_type ?_ (by size_fits))
  refine wpAny_bind (m := firstArgMember _ _) (wpAny_of_eq (a := Value.none) (by first | rfl | (simp only [firstArgMember]; rfl)) ?_)
  refine wpAny_newObj_type ?_ (by size_fits)
  simp only [raiseNew]
  refine wpAny_bind (wpAny_handled ?_)
  rw [hh]
  refine wpAny_bind (wpAny_pure (wpAny_throw ?_))
  exact hE _ _ (fun b o e => Heap.get?_push_of_some _ (Heap.get?_push_of_some _ e)) ⟨_, Heap.get?_push_size _ rfl, rfl⟩

theorem zipB_item {z TI TO i1 i2 l1 l2 : Addr} {k1 k2 : Nat} {K1 K2 : Kd} {st : Bool} {xs ys : Array Value} {x y a b : Value} {Q : Value → Shared → Prop} (D : ZipApart z TI TO i1 i2 l1 l2)
    (hz : ZipB s.heap z TI TO .none st) (hTI : IsPair s.heap TI (.ref i1) (.ref i2)) (hTO : IsPair s.heap TO a b)
    (h1 : K1.It s.heap i1 l1 k1) (h2 : K2.It s.heap i2 l2 k2) (hl1 : K1.Sq s.heap l1 xs) (hl2 : K2.Sq s.heap l2 ys) (hx : xs[k1]? = some x) (hy : ys[k2]? = some y)
    (hQ : ∀ h', ZipB h' z TI TO (rawInt s.heap.objs.size) st → IsPair h' TO x y → K1.It h' i1 l1 (k1 + 1) → K2.It h' i2 l2 (k2 + 1) → IsPair h' s.heap.objs.size x y → h'.objs.size = s.heap.objs.size + 1 →
      (∀ c o, c ≠ z → c ≠ TO → c ≠ i1 → c ≠ i2 → s.heap.get? c = some o → h'.get? c = some o) → Q (.ref s.heap.objs.size) { s with heap := h' }) :
    wpAny (model prog w) A (Builtin.«zip.__next__» ⟨[.ref z], []⟩) (fun fin s' => ∃ v, fin = .done (.ret v) ∧ Q v s') E s := by
  show wpAny _ _ (field (.ref z) 2 >>= _) _ _ _
  refine wpAny_bind (wpAny_field hz rfl (x := .bool st) rfl ?_)
  show wpAny _ _ (field (.ref z) 3 >>= _) _ _ _
  refine wpAny_bind (wpAny_field hz rfl (x := .ref TI) rfl ?_)
  refine wpAny_bind (wpAny_seqItems hTI rfl ?_)
  show wpAny _ _ (Builtin.SmallTypes.ownedTupleIsFree (.ref z) >>= _) _ _ _
  refine wpAny_bind ?_
  unfold Builtin.SmallTypes.ownedTupleIsFree
  refine wpAny_bind (wpAny_field hz rfl (x := .none) rfl (wpAny_pure ?_))
  simp only [if_true]
  refine wpAny_bind (wpAny_rule ?_)
  refine wpAny_bind (wpAny_field hz rfl (x := .ref TO) rfl ?_)
  refine wpAny_bind (wpAny_setField_rec hz (by simp) fun h₁ hz₁ hs₁ => ?_)
  replace hz₁ : ZipB h₁ z TI TO .ellipsis st := hz₁
  refine wpAny_bind ?_
  simp only [List.zipIdx_cons, List.zipIdx_nil, List.forIn_cons, List.forIn_nil]
  refine wpAny_bind (wpAny_bind (wpAny_onRaise ?_))
  have e1 : ∀ {h' : Heap}, Heap.SameBut z s.heap h' → K1.It h' i1 l1 k1 ∧ K2.It h' i2 l2 k2 ∧ K1.Sq h' l1 xs ∧ K2.Sq h' l2 ys := fun sb => ⟨h1.keep fun o => sb.extBut _ _ D.i1z, h2.keep fun o => sb.extBut _ _ D.i2z, hl1.keep fun o => sb.extBut _ _ D.l1z, hl2.keep fun o => sb.extBut _ _ D.l2z⟩
  obtain ⟨p1, p2, p3, p4⟩ := e1 hs₁
  have dr1 : ∀ {R : Option Value → Shared → Prop} {E' : Value → Shared → Prop}, (∀ h', K1.It h' i1 l1 (k1 + 1) → Heap.SameBut i1 h₁ h' → R (some x) { s with heap := h' }) →
      wpAny (model prog w) A (if (Value.bool st == Value.bool true) = true then Builtin.SmallTypes.nextOrEnd (.ref i1) else (do let v ← Builtin.SmallTypes.nextOf (.ref i1); pure (some v))) R E' { s with heap := h₁ } := fun hR => by
    cases st with
    | true => show wpAny _ _ (Builtin.SmallTypes.nextOrEnd (.ref i1)) _ _ _; exact orEndK_item p1 p3 hx hR
    | false => show wpAny _ _ (Builtin.SmallTypes.nextOf (.ref i1) >>= _) _ _ _; exact wpAny_bind (nextK_item p1 p3 hx fun h' a b => wpAny_pure (hR h' a b))
  refine dr1 fun h₂ q1 hs₂ => ?_
  have hTO₂ : IsPair h₂ TO a b := hs₂.extBut _ _ D.TOi1 (hs₁.extBut _ _ D.TOz hTO)
  refine wpAny_bind (wpAny_seqItems hTO₂ rfl ?_)
  refine wpAny_bind (wpAny_updateSeq_pair hTO₂ fun h₃ hTO₃ hs₃ => ?_)
  replace hTO₃ : IsPair h₃ TO x b := hTO₃
  refine wpAny_bind (wpAny_letGo (wpAny_pure ?_))
  refine wpAny_bind (wpAny_bind (wpAny_onRaise ?_))
  have p2' : K2.It h₃ i2 l2 k2 := p2.keep fun o e => hs₃.extBut _ _ D.TOi2.symm (hs₂.extBut _ _ D.i12.symm e)
  have p4' : K2.Sq h₃ l2 ys := p4.keep fun o e => hs₃.extBut _ _ D.l2TO (hs₂.extBut _ _ D.l2i1 e)
  have dr2 : ∀ {R : Option Value → Shared → Prop} {E' : Value → Shared → Prop}, (∀ h', K2.It h' i2 l2 (k2 + 1) → Heap.SameBut i2 h₃ h' → R (some y) { s with heap := h' }) →
      wpAny (model prog w) A (if (Value.bool st == Value.bool true) = true then Builtin.SmallTypes.nextOrEnd (.ref i2) else (do let v ← Builtin.SmallTypes.nextOf (.ref i2); pure (some v))) R E' { s with heap := h₃ } := fun hR => by
    cases st with
    | true => show wpAny _ _ (Builtin.SmallTypes.nextOrEnd (.ref i2)) _ _ _; exact orEndK_item p2' p4' hy hR
    | false => show wpAny _ _ (Builtin.SmallTypes.nextOf (.ref i2) >>= _) _ _ _; exact wpAny_bind (nextK_item p2' p4' hy fun h' a b => wpAny_pure (hR h' a b))
  refine dr2 fun h₄ q2 hs₄ => ?_
  have hTO₄ : IsPair h₄ TO x b := hs₄.extBut _ _ D.TOi2 hTO₃
  refine wpAny_bind (wpAny_seqItems hTO₄ rfl ?_)
  refine wpAny_bind (wpAny_updateSeq_pair hTO₄ fun h₅ hTO₅ hs₅ => ?_)
  replace hTO₅ : IsPair h₅ TO x y := hTO₅
  refine wpAny_bind (wpAny_letGo (wpAny_pure (wpAny_pure ?_)))
  refine wpAny_bind (wpAny_seqItems hTO₅ rfl ?_)
  refine wpAny_bind (wpAny_newTuple ?_)
  have hsz : h₅.objs.size = s.heap.objs.size := by rw [hs₅.1, hs₄.1, hs₃.1, hs₂.1, hs₁.1]
  have hk₅ : ∀ c o, c ≠ z → c ≠ TO → c ≠ i1 → c ≠ i2 → s.heap.get? c = some o → h₅.get? c = some o := fun c o c1 c2 c3 c4 e =>
    hs₅.extBut _ _ c2 (hs₄.extBut _ _ c4 (hs₃.extBut _ _ c2 (hs₂.extBut _ _ c3 (hs₁.extBut _ _ c1 e))))
  have hz₅ : ZipB h₅ z TI TO .ellipsis st := hs₅.extBut _ _ D.TOz.symm (hs₄.extBut _ _ D.i2z.symm (hs₃.extBut _ _ D.TOz.symm (hs₂.extBut _ _ D.i1z.symm hz₁)))
  have r1 : K1.It h₅ i1 l1 (k1 + 1) := q1.keep fun o e => hs₅.extBut _ _ D.TOi1.symm (hs₄.extBut _ _ D.i12 (hs₃.extBut _ _ D.TOi1.symm e))
  have r2 : K2.It h₅ i2 l2 (k2 + 1) := q2.keep fun o e => hs₅.extBut _ _ D.TOi2.symm e
  have hzlt : z < h₅.objs.size := Heap.lt_size hz₅
  show wpAny _ _ (Builtin.SmallTypes.ownedTupleHandOut (.ref z) (.ref h₅.objs.size) >>= _) _ _ _
  refine wpAny_bind ?_
  unfold Builtin.SmallTypes.ownedTupleHandOut
  have hz₆ : ZipB (h₅.push { cls := .type "tuple", data := .seq #[x, y] }) z TI TO .ellipsis st := Heap.get?_push_of_some _ hz₅
  refine wpAny_bind (wpAny_setField_rec hz₆ (by simp) fun h₇ hz₇ hs₇ => ?_)
  replace hz₇ : ZipB h₇ z TI TO (rawInt h₅.objs.size) st := hz₇
  refine wpAny_setField_rec hz₇ (by simp) fun h₈ hz₈ hs₈ => ?_
  replace hz₈ : ZipB h₈ z TI TO (rawInt h₅.objs.size) st := hz₈
  have up : ∀ c o, c ≠ z → h₅.get? c = some o → h₈.get? c = some o := fun c o c1 e => hs₈.extBut _ _ c1 (hs₇.extBut _ _ c1 (Heap.get?_push_of_some _ e))
  have hT₈ : IsPair h₈ h₅.objs.size x y := hs₈.extBut _ _ (Nat.ne_of_gt hzlt) (hs₇.extBut _ _ (Nat.ne_of_gt hzlt) (Heap.get?_push_size _ rfl))
  have hz8 : h₈.objs.size = h₅.objs.size + 1 := by rw [hs₈.1, hs₇.1, Heap.size_push]
  rw [hsz] at hz₈ hT₈ hz8
  refine wpAny_pure ⟨_, rfl, ?_⟩
  show Q (.ref h₅.objs.size) _
  rw [hsz]
  exact hQ h₈ hz₈ (up _ _ D.TOz hTO₅) (r1.keep fun o e => up _ o D.i1z e) (r2.keep fun o e => up _ o D.i2z e) hT₈ hz8 fun c o c1 c2 c3 c4 e => up c o c1 (hk₅ c o c1 c2 c3 c4 e)
/-- the end: of the first of them that has no more; strict: of both at once -/
theorem zipB_end {z TI TO i1 i2 l1 l2 : Addr} {k1 k2 : Nat} {K1 K2 : Kd} {st : Bool} {xs ys : Array Value} {a b : Value} {Q : Fin → Shared → Prop} (hh : A.handled = none) (D : ZipApart z TI TO i1 i2 l1 l2)
    (hz : ZipB s.heap z TI TO .none st) (hTI : IsPair s.heap TI (.ref i1) (.ref i2)) (hTO : IsPair s.heap TO a b)
    (h1 : K1.It s.heap i1 l1 k1) (h2 : K2.It s.heap i2 l2 k2) (hl1 : K1.Sq s.heap l1 xs) (hl2 : K2.Sq s.heap l2 ys) (hend : (st = false ∧ (xs[k1]? = none ∨ ys[k2]? = none)) ∨ (xs[k1]? = none ∧ ys[k2]? = none))
    (hE : ∀ h' e, (∀ c o, c ≠ z → c ≠ TO → c ≠ i1 → c ≠ i2 → s.heap.get? c = some o → h'.get? c = some o) → (∃ o, h'.get? e = some o ∧ o.cls = .type "StopIteration") → E (.ref e) { s with heap := h' }) :
    wpAny (model prog w) A (Builtin.«zip.__next__» ⟨[.ref z], []⟩) Q E s := by
  show wpAny _ _ (field (.ref z) 2 >>= _) _ _ _
  refine wpAny_bind (wpAny_field hz rfl (x := .bool st) rfl ?_)
  show wpAny _ _ (field (.ref z) 3 >>= _) _ _ _
  refine wpAny_bind (wpAny_field hz rfl (x := .ref TI) rfl ?_)
  refine wpAny_bind (wpAny_seqItems hTI rfl ?_)
  show wpAny _ _ (Builtin.SmallTypes.ownedTupleIsFree (.ref z) >>= _) _ _ _
  refine wpAny_bind ?_
  unfold Builtin.SmallTypes.ownedTupleIsFree
  refine wpAny_bind (wpAny_field hz rfl (x := .none) rfl (wpAny_pure ?_))
  simp only [if_true]
  refine wpAny_bind (wpAny_rule ?_)
  refine wpAny_bind (wpAny_field hz rfl (x := .ref TO) rfl ?_)
  refine wpAny_bind (wpAny_setField_rec hz (by simp) fun h₁ hz₁ hs₁ => ?_)
  replace hz₁ : ZipB h₁ z TI TO .ellipsis st := hz₁
  refine wpAny_bind ?_
  simp only [List.zipIdx_cons, List.zipIdx_nil, List.forIn_cons, List.forIn_nil]
  refine wpAny_bind (wpAny_bind (wpAny_onRaise ?_))
  have p1 : K1.It h₁ i1 l1 k1 := h1.keep fun o => hs₁.extBut _ _ D.i1z
  have p2 : K2.It h₁ i2 l2 k2 := h2.keep fun o => hs₁.extBut _ _ D.i2z
  have p3 : K1.Sq h₁ l1 xs := hl1.keep fun o => hs₁.extBut _ _ D.l1z
  have p4 : K2.Sq h₁ l2 ys := hl2.keep fun o => hs₁.extBut _ _ D.l2z
  have kp1 : ∀ c o, c ≠ z → s.heap.get? c = some o → h₁.get? c = some o := fun c o => hs₁.extBut c o
  have fin : ∀ {h' : Heap} {e : Addr}, ZipB h' z TI TO .ellipsis st → (∀ c o, c ≠ z → c ≠ TO → c ≠ i1 → c ≠ i2 → s.heap.get? c = some o → h'.get? c = some o) → (∃ o, h'.get? e = some o ∧ o.cls = .type "StopIteration") →
      wpAny (model prog w) A (setField (.ref z) 0 .none) (fun _ s'' => E (.ref e) s'') E { s with heap := h' } := fun {h' e} hz' hk he => by
    obtain ⟨oe, hoe, hce⟩ := he
    have hez : e ≠ z := fun x => by subst x; rw [hz'] at hoe; cases hoe; simp at hce
    exact wpAny_setField_rec hz' (by simp) fun h₃ _ hs₃ => hE h₃ e (fun c o c1 c2 c3 c4 x => hs₃.extBut _ _ c1 (hk c o c1 c2 c3 c4 x)) ⟨oe, hs₃.extBut _ _ hez hoe, hce⟩
  cases st with
  | false =>
    show wpAny _ _ (Builtin.SmallTypes.nextOf (.ref i1) >>= _) _ _ _
    have hend : xs[k1]? = none ∨ ys[k2]? = none := by
      rcases hend with ⟨_, q⟩ | ⟨q, _⟩
      · exact q
      · exact .inl q
    cases hx : xs[k1]? with
    | none =>
      refine wpAny_bind (nextK_end hh p1 p3 hx fun h₂ e hs₂ he => ?_)
      exact fin (hs₂ _ _ D.i1z.symm hz₁) (fun c o c1 c2 c3 c4 x => hs₂ _ _ c3 (kp1 c o c1 x)) he
    | some x =>
      have hy : ys[k2]? = none := by rcases hend with h | h; rw [hx] at h; cases h; exact h
      refine wpAny_bind (nextK_item p1 p3 hx fun h₂ q1 hs₂ => wpAny_pure ?_)
      have hTO₂ : IsPair h₂ TO a b := hs₂.extBut _ _ D.TOi1 (hs₁.extBut _ _ D.TOz hTO)
      refine wpAny_bind (wpAny_seqItems hTO₂ rfl ?_)
      refine wpAny_bind (wpAny_updateSeq_pair hTO₂ fun h₃ hTO₃ hs₃ => ?_)
      refine wpAny_bind (wpAny_letGo (wpAny_pure ?_))
      refine wpAny_bind (wpAny_bind (wpAny_onRaise ?_))
      show wpAny _ _ (Builtin.SmallTypes.nextOf (.ref i2) >>= _) _ _ _
      have p2' : K2.It h₃ i2 l2 k2 := p2.keep fun o e => hs₃.extBut _ _ D.TOi2.symm (hs₂.extBut _ _ D.i12.symm e)
      have p4' : K2.Sq h₃ l2 ys := p4.keep fun o e => hs₃.extBut _ _ D.l2TO (hs₂.extBut _ _ D.l2i1 e)
      refine wpAny_bind (nextK_end hh p2' p4' hy fun h₄ e hs₄ he => ?_)
      exact fin (hs₄ _ _ D.i2z.symm (hs₃.extBut _ _ D.TOz.symm (hs₂.extBut _ _ D.i1z.symm hz₁))) (fun c o c1 c2 c3 c4 x => hs₄ _ _ c4 (hs₃.extBut _ _ c2 (hs₂.extBut _ _ c3 (kp1 c o c1 x)))) he
  | true =>
    obtain ⟨hx, hy⟩ : xs[k1]? = none ∧ ys[k2]? = none := by
      rcases hend with ⟨q, _⟩ | q
      · cases q
      · exact q
    show wpAny _ _ (Builtin.SmallTypes.nextOrEnd (.ref i1)) _ _ _
    refine orEndK_end hh p1 p3 hx fun h₂ hs₂ => ?_
    have hz₂ : ZipB h₂ z TI TO .ellipsis true := hs₂ _ _ D.i1z.symm hz₁
    refine wpAny_bind (wpAny_setField_rec hz₂ (by simp) fun h₃ hz₃ hs₃ => ?_)
    have p2' : K2.It h₃ i2 l2 k2 := p2.keep fun o e => hs₃.extBut _ _ D.i2z (hs₂ _ _ D.i12.symm e)
    have p4' : K2.Sq h₃ l2 ys := p4.keep fun o e => hs₃.extBut _ _ D.l2z (hs₂ _ _ D.l2i1 e)
    refine wpAny_bind ?_
    show wpAny _ _ (forIn (([Value.ref i1, Value.ref i2].drop 1).zipIdx 1) _ _ >>= _) _ _ _
    refine wpAny_bind ?_
    simp only [List.drop_succ_cons, List.drop_zero, List.zipIdx_cons, List.zipIdx_nil, List.forIn_cons, List.forIn_nil]
    refine wpAny_bind (wpAny_bind ?_)
    refine orEndK_end hh p2' p4' hy fun h₄ hs₄ => ?_
    simp only [Option.isSome_none, Bool.false_eq_true, if_false]
    refine wpAny_pure ?_
    refine wpAny_pure ?_
    refine wpAny_bind (wpAny_rule ?_)
    refine stop_raise hh fun h₅ e hk₅ he => ?_
    refine hE h₅ e (fun c o c1 c2 c3 c4 x => hk₅ c o (hs₄ _ _ c4 (hs₃.extBut _ _ c1 (hs₂ _ _ c3 (kp1 c o c1 x))))) he
theorem pyNextB_item {z TI TO i1 i2 l1 l2 : Addr} {k1 k2 : Nat} {K1 K2 : Kd} {st : Bool} {xs ys : Array Value} {x y a b : Value} {Q : Option Value → Shared → Prop} (D : ZipApart z TI TO i1 i2 l1 l2)
    (hz : ZipB s.heap z TI TO .none st) (hTI : IsPair s.heap TI (.ref i1) (.ref i2)) (hTO : IsPair s.heap TO a b)
    (h1 : K1.It s.heap i1 l1 k1) (h2 : K2.It s.heap i2 l2 k2) (hl1 : K1.Sq s.heap l1 xs) (hl2 : K2.Sq s.heap l2 ys) (hx : xs[k1]? = some x) (hy : ys[k2]? = some y)
    (hQ : ∀ h', ZipB h' z TI TO (rawInt s.heap.objs.size) st → IsPair h' TO x y → K1.It h' i1 l1 (k1 + 1) → K2.It h' i2 l2 (k2 + 1) → IsPair h' s.heap.objs.size x y → h'.objs.size = s.heap.objs.size + 1 →
      (∀ c o, c ≠ z → c ≠ TO → c ≠ i1 → c ≠ i2 → s.heap.get? c = some o → h'.get? c = some o) → Q (some (.ref s.heap.objs.size)) { s with heap := h' }) :
    wpAny (model prog w) A (pyNext (.ref z)) Q E s := by
  have hT : s.TypeIs (.ref z) "zip" := ⟨_, hz, rfl⟩
  unfold pyNext
  exact wpAny_bind (wpAny_attempt (wpAny_callSpecial?_slot (name := Str.ofString "__next__") hT F.slot_zip_next
    (wpAny_call_entry F.slot_zip_next hT F.entry_zip_next
      (zipB_item D hz hTI hTO h1 h2 hl1 hl2 hx hy fun h' a1 a2 a3 a4 a5 a6 a7 => wpAny_pure (hQ h' a1 a2 a3 a4 a5 a6 a7)) (F.args_zip_next_1 _))))
theorem pyNextB_end {z TI TO i1 i2 l1 l2 : Addr} {k1 k2 : Nat} {K1 K2 : Kd} {st : Bool} {xs ys : Array Value} {a b : Value} {Q : Option Value → Shared → Prop} (hh : A.handled = none) (D : ZipApart z TI TO i1 i2 l1 l2)
    (hz : ZipB s.heap z TI TO .none st) (hTI : IsPair s.heap TI (.ref i1) (.ref i2)) (hTO : IsPair s.heap TO a b)
    (h1 : K1.It s.heap i1 l1 k1) (h2 : K2.It s.heap i2 l2 k2) (hl1 : K1.Sq s.heap l1 xs) (hl2 : K2.Sq s.heap l2 ys) (hend : (st = false ∧ (xs[k1]? = none ∨ ys[k2]? = none)) ∨ (xs[k1]? = none ∧ ys[k2]? = none))
    (hQ : ∀ h', (∀ c o, c ≠ z → c ≠ TO → c ≠ i1 → c ≠ i2 → s.heap.get? c = some o → h'.get? c = some o) → Q none { s with heap := h' }) : wpAny (model prog w) A (pyNext (.ref z)) Q E s := by
  have hT : s.TypeIs (.ref z) "zip" := ⟨_, hz, rfl⟩
  unfold pyNext
  refine wpAny_bind (wpAny_attempt (wpAny_callSpecial?_slot (name := Str.ofString "__next__") hT F.slot_zip_next
    (wpAny_call_entry F.slot_zip_next hT F.entry_zip_next (zipB_end hh D hz hTI hTO h1 h2 hl1 hl2 hend fun h' e hk he => ?_) (F.args_zip_next_1 _))))
  obtain ⟨o, ho, hc⟩ := he
  refine wpAny_bind (wpAny_isInstance (T := "StopIteration") (b := true) ⟨o, ho, hc⟩ isSubtype_stop ?_)
  exact wpAny_pure (hQ _ hk)
theorem ownGoB {elts : List Expr} {x1} {pos : Pos} {z TI TO T : Addr} {st : Bool} {Q : Unit → Shared → Prop} (hz : ZipB s.heap z TI TO (rawInt T) st)
    (hQ : ∀ h', ZipB h' z TI TO .none st → Heap.SameBut z s.heap h' → Q () { s with heap := h' }) :
    wpAny (model prog w) A (letOwnedTupleGo (.Tuple elts x1 pos) (.ref z) (.ref T)) Q E s := by
  unfold letOwnedTupleGo
  refine wpAny_bind (wpAny_load hz ?_)
  show wpAny _ _ (if (["enumerate", "zip", "dict_itemiterator", "dict_reverseitemiterator", "odict_iterator", "itertools.zip_longest", "itertools.pairwise"].contains "zip" &&
      (#[rawInt T, .bool false, .bool st, .ref TI, .ref TO] : Array Value)[0]? == some (rawInt T)) = true then _ else _) Q E s
  rw [if_pos (by simp)]
  refine wpAny_bind (wpAny_rule ?_)
  show wpAny _ _ (setField (.ref z) 0 .none) Q E s
  exact wpAny_setField_rec hz (by simp) fun h' hz' hs' => hQ h' hz' hs'
theorem pyIterB {z TI TO : Addr} {f0 : Value} {st : Bool} {Q : Value → Shared → Prop} (hz : ZipB s.heap z TI TO f0 st) (h : Q (.ref z) s) : wpAny (model prog w) A (pyIter (.ref z)) Q E s := by
  have hT : s.TypeIs (.ref z) "zip" := ⟨_, hz, rfl⟩
  refine wpAny_pyIter_slot hT F.slot_zip_iter (wpAny_call_entry F.slot_zip_iter hT F.entry_zip_iter ?_ (F.args_zip_iter_1 _))
  show wpAny _ _ (ret (.ref z)) _ _ s
  exact wpAny_pure ⟨_, rfl, "zip", _, hT, F.slot_zip_next.lookup, h⟩

/-! ### the call, with a keyword or without -/
theorem callWith_typeKw {M : Model} {A : Around} {E : Value → Shared → Prop} {s : Shared} {pos : Pos} {T : String} {args : List (Bool × Sem Value)} {kws : List (Option Str × Sem Value)} {Q : Value → Shared → Prop}
    (hplain : (args.any (·.1) || kws.any (·.1.isNone)) = false)
    (h : wpAny M A (evalArgs (.type T) true args kws) (fun a s₁ => wpAny M A (call (.type T) a.pos a.kw) Q E s₁) E s) :
    wpAny M A (callWith pos (.type T) [] args kws) Q E s := by
  unfold callWith
  refine wpAny_bind (wpAny_holding (wpAny_mono h (fun a s₁ h₁ => wpAny_bind (wpAny_standAt ?_)) fun _ _ x => x))
  simp only [hplain]
  refine wpAny_bind (wpAny_pure ?_)
  exact wpAny_bind (wpAny_mono h₁ (fun r s₂ hr => wpAny_bind (wpAny_holding (wpAny_point (wpAny_pure hr)))) fun _ _ x => x)
theorem callTypeKw_meets {T newId : String} {Bn : Builtin} {args : List Value} {kw : List (Str × Value)} {S : PySem.Spec} {Q : Value → Shared → Prop} (ft : TypeCalled T newId "object.__init__") (hne : (some newId != some "object.__new__") = true)
    (hct : checkTypeCall T ⟨args, kw⟩ = pure ()) (hcn : checkBuiltinCall newId ⟨.type T :: args, kw⟩ = pure ())
    (entryN : entryFor table newId = some Bn) (g : Meets (Bn ⟨.type T :: args, kw⟩) S) (hok : ∀ obj, argsOk "object.__init__" ⟨obj :: args, kw⟩) (gi : ∀ obj, Meets (Builtin.«object.__init__» ⟨obj :: args, kw⟩) (fun _ R s => s.TypeIs obj T ∧ R (.ok (.ret .none)) s))
    (h : S A.in1 (wants (fun obj s₁ => s₁.TypeIs obj T ∧ Q obj s₁) E) s) :
    wpAny (model prog w) A (call (.type T) args kw) Q E s := by
  obtain ⟨c, tl, hmro⟩ := ft.mro
  have hmade := ft.made
  have hsub := ft.sub
  refine wpAny_call (codeAny_of_tree ?_)
  show wpAny _ _ (callAny (.type T) _) _ _ _
  refine wpAny_pure ⟨Code.quiet_builtin _ (by decide +kernel), codeAny_builtin F.entry_type_call ?_⟩
  rw [Around.under_plain (weight_type_call_type T args kw) (units_type_call_type T args kw)]
  have h1 := ft.notType
  have h2 := ft.canCreate
  repeat (any_goals (first | assumption | wp_step))
  refine codeAny_mono (codeAny_call_builtin ft.plain entryN (wpAny_of_eq hcn (g prog w A.in1 _ s h))) fun r s₁ hr => ?_
  cases r with
  | error e => exact hr
  | ok fl =>
    cases fl with
    | ret obj =>
      obtain ⟨hT, hq⟩ := hr
      have hli := ft.init.lookup
      have hbi := ft.init.bind obj
      repeat (any_goals (first | assumption | wp_step))
      refine codeAny_mono (codeAny_call_builtin ft.init.plain F.entry_object_init (ft.init.check _ _ _ _ _ _ _ _ hT (hok obj) (gi obj prog w A.in1 (wants (fun r s₂ => r = .none ∧ Q obj s₂) E) s₁ ⟨hT, rfl, hq⟩))) fun r₂ s₂ hr₂ => ?_
      cases r₂ with
      | error e => exact hr₂
      | ok fl₂ =>
        cases fl₂ with
        | ret r =>
          obtain ⟨rfl, hq⟩ := hr₂
          repeat (any_goals (first | assumption | wp_step))
        | _ => exact hr₂.elim
    | _ => exact hr.elim
theorem init2_meets {T newId : String} {self a : Value} {rest : List Value} {kw : List (Str × Value)} (hl : typeLookup (.type T) "__init__" = pure (some (.builtin "object.__init__")))
    (hm : Bind.madeBy (.type T) = pure (some newId)) (hne : (some newId != some "object.__new__") = true) :
    Meets (Builtin.«object.__init__» ⟨self :: a :: rest, kw⟩) (fun _ R s => s.TypeIs self T ∧ R (.ok (.ret .none)) s) := by
  refine Meets.of_wp fun prog w A R s hs => ?_
  obtain ⟨hT, hq⟩ := hs
  repeat (any_goals (first | assumption | wp_step))
  exact ⟨_, rfl, hq⟩
def sKw (st : Bool) : List (Str × Value) := if st = true then [("strict", .bool true)] else []
theorem typeCall_zipS (a b : Value) (st : Bool) : checkTypeCall "zip" ⟨[a, b], sKw st⟩ = pure () := by cases st <;> kernel_rfl
theorem newCall_zipS (a b : Value) (st : Bool) : checkBuiltinCall "zip.__new__" ⟨[.type "zip", a, b], sKw st⟩ = pure () := by cases st <;> kernel_rfl
theorem initArgs_zipS (a b c : Value) (st : Bool) : argsOk "object.__init__" ⟨[a, b, c], sKw st⟩ := by
  unfold argsOk; rw [signature?_of (id := "object.__init__") (n := ['_', '_', 't', 'i', 'n', 'i', '_', '_']) (o := ['t', 'c', 'e', 'j', 'b', 'o']) (by kernel_rfl) F.owner_object]
  cases st <;> kernel_rfl
def Kd.tn : Kd → String
  | .l => "list_iterator"
  | .t => "tuple_iterator"
def Kd.h1 (k : Kd) (h : Heap) (a : Addr) : Heap := h.push { cls := .type k.tn, data := .fields #[.ref a, .int 0 0] }
def zh (K1 K2 : Kd) (h : Heap) (l1 l2 : Addr) : Heap := (((K2.h1 (K1.h1 h l1) l2).push { cls := .type "tuple", data := .seq #[.ref h.objs.size, .ref (K1.h1 h l1).objs.size] }).push { cls := .type "tuple", data := .seq #[.none, .none] })
def zh5 (K1 K2 : Kd) (st : Bool) (h : Heap) (l1 l2 : Addr) : Heap := (zh K1 K2 h l1 l2).push { cls := .type "zip", data := .fields #[.none, .bool false, .bool st, .ref (K2.h1 (K1.h1 h l1) l2).objs.size, .ref ((K2.h1 (K1.h1 h l1) l2).push { cls := .type "tuple", data := .seq #[.ref h.objs.size, .ref (K1.h1 h l1).objs.size] }).objs.size] }
theorem zipS_new (K1 K2 : Kd) (st : Bool) (l1 l2 : Addr) (xs ys : Array Value) :
    Meets (Builtin.«zip.__new__» ⟨[.type "zip", .ref l1, .ref l2], sKw st⟩) (fun _ R s => K1.Sq s.heap l1 xs ∧ K2.Sq s.heap l2 ys ∧
      R (.ok (.ret (.ref (zh K1 K2 s.heap l1 l2).objs.size))) { s with heap := zh5 K1 K2 st s.heap l1 l2 }) :=
  .of_wp fun prog w A R s h => by
    obtain ⟨hp, g, d, tk, os⟩ := s; obtain ⟨hl1, hl2, h⟩ := h
    have hsub := sub_zip
    have hL1 : K1.Sq (Shared.heap ⟨hp, g, d, tk, os⟩) l1 xs := hl1
    have hL2 : K2.Sq (Shared.heap ⟨K1.h1 hp l1, g, d, tk, os⟩) l2 ys := hl2.keep fun o e => Heap.get?_push_of_some _ e
    have i1 : ∀ {A : Around} {E : Value → Shared → Prop} {Q : Value → Shared → Prop}, Q (.ref hp.objs.size) ⟨K1.h1 hp l1, g, d, tk, os⟩ → wpAny (model prog w) A (pyIter (.ref l1)) Q E ⟨hp, g, d, tk, os⟩ := fun q => by
      cases K1 with
      | l => exact wpAny_pyIter_list hL1 q
      | t => exact wpAny_pyIter_tuple hL1 q
    have i2 : ∀ {A : Around} {E : Value → Shared → Prop} {Q : Value → Shared → Prop}, Q (.ref (K1.h1 hp l1).objs.size) ⟨K2.h1 (K1.h1 hp l1) l2, g, d, tk, os⟩ → wpAny (model prog w) A (pyIter (.ref l2)) Q E ⟨K1.h1 hp l1, g, d, tk, os⟩ := fun q => by
      cases K2 with
      | l => exact wpAny_pyIter_list hL2 q
      | t => exact wpAny_pyIter_tuple hL2 q
    cases st with
    | false =>
      show wpAny _ _ (Builtin.«zip.__new__» ⟨[.type "zip", .ref l1, .ref l2], []⟩) _ _ _
      wp_walk using i1, i2
      exact ⟨_, rfl, h⟩
    | true =>
      show wpAny _ _ (Builtin.«zip.__new__» ⟨[.type "zip", .ref l1, .ref l2], [("strict", .bool true)]⟩) _ _ _
      wp_walk using i1, i2
      exact ⟨_, rfl, h⟩
end
end Dm
set_option linter.all false
set_option maxRecDepth 100000
set_option maxHeartbeats 2000000
namespace Dm
open PySem L2 PySem.W PyProof.Rows PySem.Calls
section
variable {prog : Program} {w : World} {A : Around} {E : Value → Shared → Prop} {s : Shared}
theorem call_zipS {K1 K2 : Kd} {st : Bool} {l1 l2 : Addr} {xs ys : Array Value} {Q : Value → Shared → Prop} (hl1 : K1.Sq s.heap l1 xs) (hl2 : K2.Sq s.heap l2 ys)
    (h : ∀ h', ZipB h' (s.heap.objs.size + 4) (s.heap.objs.size + 2) (s.heap.objs.size + 3) .none st → IsPair h' (s.heap.objs.size + 2) (.ref s.heap.objs.size) (.ref (s.heap.objs.size + 1)) →
      IsPair h' (s.heap.objs.size + 3) .none .none → K1.It h' s.heap.objs.size l1 0 → K2.It h' (s.heap.objs.size + 1) l2 0 → h'.objs.size = s.heap.objs.size + 5 →
      (∀ c o, s.heap.get? c = some o → h'.get? c = some o) → Q (.ref (s.heap.objs.size + 4)) { s with heap := h' }) :
    wpAny (model prog w) A (call (.type "zip") [.ref l1, .ref l2] (sKw st)) Q E s := by
  refine callTypeKw_meets F.called_zip (by decide) (typeCall_zipS _ _ st) (newCall_zipS _ _ st) F.entry_zip_new (zipS_new K1 K2 st l1 l2 xs ys) (fun obj => initArgs_zipS obj _ _ st)
    (fun obj => init2_meets F.called_zip.init.lookup F.called_zip.made (by decide)) ⟨hl1, hl2, ?_⟩
  have z1 : (K1.h1 s.heap l1).objs.size = s.heap.objs.size + 1 := Heap.size_push ..
  have z2 : (K2.h1 (K1.h1 s.heap l1) l2).objs.size = s.heap.objs.size + 2 := by unfold Kd.h1; rw [Heap.size_push]; unfold Kd.h1 at z1; rw [z1]
  have z3 : ((K2.h1 (K1.h1 s.heap l1) l2).push { cls := .type "tuple", data := .seq #[.ref s.heap.objs.size, .ref (K1.h1 s.heap l1).objs.size] }).objs.size = s.heap.objs.size + 3 := by rw [Heap.size_push, z2]
  have z4 : (zh K1 K2 s.heap l1 l2).objs.size = s.heap.objs.size + 4 := by unfold zh; rw [Heap.size_push, z3]
  have z5 : (zh5 K1 K2 st s.heap l1 l2).objs.size = s.heap.objs.size + 5 := by unfold zh5; rw [Heap.size_push, z4]
  have k5 : ∀ c o, (zh K1 K2 s.heap l1 l2).get? c = some o → (zh5 K1 K2 st s.heap l1 l2).get? c = some o := fun c o e => Heap.get?_push_of_some _ e
  have g5 : (zh5 K1 K2 st s.heap l1 l2).get? (zh K1 K2 s.heap l1 l2).objs.size = some _ := Heap.get?_push_size _ rfl
  have g4 : (zh5 K1 K2 st s.heap l1 l2).get? ((K2.h1 (K1.h1 s.heap l1) l2).push { cls := .type "tuple", data := .seq #[.ref s.heap.objs.size, .ref (K1.h1 s.heap l1).objs.size] }).objs.size = some _ := k5 _ _ (Heap.get?_push_size _ rfl)
  have g3 : (zh5 K1 K2 st s.heap l1 l2).get? (K2.h1 (K1.h1 s.heap l1) l2).objs.size = some _ := k5 _ _ (Heap.get?_push_of_some _ (Heap.get?_push_size _ rfl))
  have g2 : (zh5 K1 K2 st s.heap l1 l2).get? (K1.h1 s.heap l1).objs.size = some { cls := .type K2.tn, data := .fields #[.ref l2, .int 0 0] } := k5 _ _ (Heap.get?_push_of_some _ (Heap.get?_push_of_some _ (Heap.get?_push_size _ rfl)))
  have g1 : (zh5 K1 K2 st s.heap l1 l2).get? s.heap.objs.size = some { cls := .type K1.tn, data := .fields #[.ref l1, .int 0 0] } := k5 _ _ (Heap.get?_push_of_some _ (Heap.get?_push_of_some _ (Heap.get?_push_of_some _ (Heap.get?_push_size _ rfl))))
  show _ ∧ _
  rw [z2, z3, z4] at g5
  rw [z1, z2] at g3
  rw [z3] at g4
  rw [z1] at g2
  rw [z4]
  refine ⟨⟨_, g5, rfl⟩, h _ g5 g3 g4 ?_ ?_ z5 fun c o x => k5 _ _ (Heap.get?_push_of_some _ (Heap.get?_push_of_some _ (Heap.get?_push_of_some _ (Heap.get?_push_of_some _ x))))⟩
  · cases K1 with
    | l => exact ⟨_, g1, rfl, rfl⟩
    | t => exact ⟨_, g1, rfl, rfl⟩
  · cases K2 with
    | l => exact ⟨_, g2, rfl, rfl⟩
    | t => exact ⟨_, g2, rfl, rfl⟩
end

/-! ### the walk -/
def Kd.Sv (k : Kd) (K : PySem.W.Frag) (H : Hp) (a : Addr) (xs : List V) : Prop := match k with
  | .l => SqL K H a xs
  | .t => SqT K H a xs
theorem Inv.kd {X : Cx} {pins : List (Addr × Obj)} {σ : L2.St} {H : Hp} {s : Shared} {k : Kd} {a : Addr} {xs : List V} (I : L2.Inv X pins σ H s) (h : k.Sv X.K H a xs) : ∃ its : List Value, Vals xs its ∧ k.Sq s.heap a its.toArray ∧ a < s.heap.objs.size := by
  cases k with
  | l =>
    obtain ⟨its, rv, p, hz⟩ := I.list h
    exact ⟨its, rv, p.isList, p.lt⟩
  | t =>
    obtain ⟨its, rv, p, hz⟩ := I.tuple h
    obtain ⟨o, e, r⟩ := id p
    exact ⟨its, rv, p, Heap.lt_size e⟩
theorem Inv.kd_inj {X : Cx} {pins : List (Addr × Obj)} {σ : L2.St} {H : Hp} {s : Shared} {k : Kd} {a : Addr} {xs ys : List V} (I : L2.Inv X pins σ H s) (h : k.Sv X.K H a xs) (h' : k.Sv X.K H a ys) : xs = ys := by
  cases k with
  | l => exact I.list_inj h h'
  | t => exact I.tuple_inj h h'
def ItB (K : PySem.W.Frag) (k1 k2 : Kd) (st : Bool) (a b : Addr) : It :=
  ⟨fun i H => ∃ (xs ys : List V) (x y : V), k1.Sv K H a xs ∧ k2.Sv K H b ys ∧ xs[i]? = some x ∧ ys[i]? = some y,
    fun i H v H' => ∃ T x y, v = .ref T ∧ H T = none ∧ H' = upd H T (.tup [x, y]) ∧ (∀ xs, k1.Sv K H a xs → xs[i]? = some x) ∧ ∀ ys, k2.Sv K H b ys → ys[i]? = some y,
    fun i H => ∃ xs ys : List V, k1.Sv K H a xs ∧ k2.Sv K H b ys ∧ ((st = false ∧ (xs.length ≤ i ∨ ys.length ≤ i)) ∨ (xs.length ≤ i ∧ ys.length ≤ i))⟩
theorem turn_B {P : Program} {w : World} {K : PySem.W.Frag} {elts : List Expr} {kk : Nat} {tpos : Pos} {k1 k2 : Kd} {st : Bool} {a b z TI TO i1 i2 : Addr} (D : ZipApart z TI TO i1 i2 a b) :
    Turn P w K (.Tuple elts kk tpos) (ItB K k1 k2 st a b) [z, TI, TO, i1, i2] z (fun i h => ZipB h z TI TO .none st ∧ IsPair h TI (.ref i1) (.ref i2) ∧ (∃ x y, IsPair h TO x y) ∧ k1.It h i1 a i ∧ k2.It h i2 b i) where
  mem := by simp
  obj := fun i h q c hc => by
    obtain ⟨hz, hTI, ⟨x, y, hTO⟩, h1, h2⟩ := q
    have e' : c = z ∨ c = TI ∨ c = TO ∨ c = i1 ∨ c = i2 := by simpa using hc
    rcases e' with q | q | q | q | q
    · rw [q]; exact ⟨_, hz, fun v q => nomatch q⟩
    · rw [q]; exact ⟨_, hTI, fun v q => nomatch q⟩
    · rw [q]; exact ⟨_, hTO, fun v q => nomatch q⟩
    · rw [q]; exact h1.there
    · rw [q]; exact h2.there
  keep := fun i h h' q k => by
    obtain ⟨hz, hTI, ⟨x, y, hTO⟩, h1, h2⟩ := q
    exact ⟨k z (by simp) _ hz, k TI (by simp) _ hTI, ⟨x, y, k TO (by simp) _ hTO⟩, h1.keep fun o q => k i1 (by simp) o q, h2.keep fun o q => k i2 (by simp) o q⟩
  item := by
    intro X hP hw hK hc i pins s σ H E I hf q hg
    subst hP hw hK
    obtain ⟨hz, hTI, ⟨x0, y0, hTO⟩, h1, h2⟩ := q
    obtain ⟨xs, ys, x, y, hqx, hqy, hx, hy⟩ := hg
    obtain ⟨its, rv, p, la⟩ := Inv.kd I hqx
    obtain ⟨its2, rv2, p2, lb⟩ := Inv.kd I hqy
    obtain ⟨u, hu, ru⟩ := rv.get hx
    obtain ⟨u2, hu2, ru2⟩ := rv2.get hy
    have hzl : z < s.heap.objs.size := Heap.lt_size hz
    refine pyNextB_item D hz hTI hTO h1 h2 p p2 (x := u) (y := u2) (by simpa using hu) (by simpa using hu2) fun h' z' TO' h1' h2' hT hsz hk => ?_
    refine ⟨_, rfl, ownGoB (s := { s with heap := h' }) z' fun h'' z'' sb => ?_⟩
    have hT2 : h''.get? s.heap.objs.size = some { cls := .type "tuple", data := .seq #[u, u2] } := (sb.2 _ (Nat.ne_of_gt hzl)).trans hT
    have new : ObjOk X.prog X.w (upd H s.heap.objs.size (.tup [x, y])) h'' s.heap.objs.size (.tup [x, y]) :=
      ⟨by show 2 ≤ sizeLine; decide, [u, u2], .cons ru (.cons ru2 .nil), ⟨_, hT2, rfl, _, rfl⟩⟩
    have I1 : L2.Inv X pins σ (upd H s.heap.objs.size (.tup [x, y])) { s with heap := h'' } :=
      I.turnedNew (t' := s.toks) (ch := [z, TI, TO, i1, i2]) (fun c o hb q => (sb.2 c (fun q' => hb (by simp [q']))).trans (hk c o (fun q' => hb (by simp [q'])) (fun q' => hb (by simp [q'])) (fun q' => hb (by simp [q'])) (fun q' => hb (by simp [q'])) q)) hf (Nat.le_refl _) new
    refine ⟨.ref s.heap.objs.size, _, I1, rfl, ⟨_, x, y, rfl, I.hok.fresh (Nat.le_refl _), rfl, fun l hl => by rw [Inv.kd_inj I hl hqx]; exact hx, fun l hl => by rw [Inv.kd_inj I hl hqy]; exact hy⟩, ⟨z'', ?_, ⟨u, u2, ?_⟩, ?_, ?_⟩, fun c hcm => ?_⟩
    · exact (sb.2 _ D.TIz).trans (hk _ _ D.TIz D.TITO D.TIi1 D.TIi2 hTI)
    · exact (sb.2 _ D.TOz).trans TO'
    · exact h1'.keep fun o q => (sb.2 _ D.i1z).trans q
    · exact h2'.keep fun o q => (sb.2 _ D.i2z).trans q
    · have hlt : c < s.heap.objs.size := by
        have e' : c = z ∨ c = TI ∨ c = TO ∨ c = i1 ∨ c = i2 := by simpa using hcm
        rcases e' with q | q | q | q | q
        · rw [q]; exact hzl
        · rw [q]; exact Heap.lt_size hTI
        · rw [q]; exact Heap.lt_size hTO
        · rw [q]; obtain ⟨_, e1, _⟩ := h1.there; exact Heap.lt_size e1
        · rw [q]; obtain ⟨_, e2, _⟩ := h2.there; exact Heap.lt_size e2
      rw [upd_ne (Nat.ne_of_lt hlt)]
      exact (hf c hcm).1
  done := by
    intro X hP hw hK hc i pins s σ H E I hf q hg
    subst hP hw hK
    obtain ⟨hz, hTI, ⟨x0, y0, hTO⟩, h1, h2⟩ := q
    obtain ⟨xs, ys, hqx, hqy, hend⟩ := hg
    obtain ⟨its, rv, p, _⟩ := Inv.kd I hqx
    obtain ⟨its2, rv2, p2, _⟩ := Inv.kd I hqy
    have l1 := rv.length
    have l2 := rv2.length
    have he : (st = false ∧ (its.toArray[i]? = none ∨ its2.toArray[i]? = none)) ∨ (its.toArray[i]? = none ∧ its2.toArray[i]? = none) := by
      rcases hend with ⟨q0, q | q⟩ | ⟨q, q'⟩
      · exact .inl ⟨q0, .inl (by simp; omega)⟩
      · exact .inl ⟨q0, .inr (by simp; omega)⟩
      · exact .inr ⟨by simp; omega, by simp; omega⟩
    exact pyNextB_end (I.ok.hd hc) D hz hTI hTO h1 h2 p p2 he fun h' hk => ⟨rfl, I.turnedL (t' := s.toks) (ch := [z, TI, TO, i1, i2]) (fun c o hb q =>
      hk c o (fun q' => hb (by simp [q'])) (fun q' => hb (by simp [q'])) (fun q' => hb (by simp [q'])) (fun q' => hb (by simp [q'])) q) hf⟩
  self := fun A i s Q E q h => pyIterB q.1 h
def iB (K : PySem.W.Frag) (st : Bool) (ta : TA) : TI := fun σ H R => ta σ H fun vs H1 => ∃ k1 k2 a b xs ys, vs = [.ref a, .ref b] ∧ Kd.Sv k1 K H1 a xs ∧ Kd.Sv k2 K H1 b ys ∧ R (ItB K k1 k2 st a b) H1
section
variable {X : Cx} {EX : WX} {e e2 : Expr} {ta : TA} {p pos tpos : Pos} {elts : List Expr} {kk : Nat} {h : AM}
theorem zip_land {pins : List (Addr × Obj)} {σ : L2.St} {H : Hp} {s : Shared} {R : It → Hp → Prop} {k1 k2 : Kd} {st : Bool} {a b : Addr} {xs ys : List V} (I : L2.Inv X pins σ H s) (hqx : k1.Sv X.K H a xs) (hqy : k2.Sv X.K H b ys) (q : R (ItB X.K k1 k2 st a b) H) :
    wpAny (model X.prog X.w) X.A (call (.type "zip") [.ref a, .ref b] (sKw st)) (fun v s1 => wpAny (model X.prog X.w) X.A (pyIter v) (PIE X pins σ (.Tuple elts kk tpos) R) X.xe s1) X.xe s := by
  obtain ⟨its, rv, p1, la⟩ := Inv.kd I hqx
  obtain ⟨its2, rv2, p2, lb⟩ := Inv.kd I hqy
  refine call_zipS p1 p2 fun h' hz hTI hTO h1 h2 hsz hk => pyIterB hz ?_
  have I2 : L2.Inv X pins σ H { s with heap := h' } := I.kept (t' := s.toks) hk
  refine ⟨s.heap.objs.size + 4, [s.heap.objs.size + 4, s.heap.objs.size + 2, s.heap.objs.size + 3, s.heap.objs.size, s.heap.objs.size + 1], _, _, H, rfl, I2, turn_B (PySem.W.ktu_apart s.heap.objs.size a b la lb), ⟨hz, hTI, ⟨_, _, hTO⟩, h1, h2⟩, fun c hcm => ?_, q⟩
  have e' : c = s.heap.objs.size + 4 ∨ c = s.heap.objs.size + 2 ∨ c = s.heap.objs.size + 3 ∨ c = s.heap.objs.size ∨ c = s.heap.objs.size + 1 := by simpa using hcm
  have hle : s.heap.objs.size ≤ c := by
    rcases e' with z | z | z | z | z
    · rw [z]; exact Nat.le_add_right _ _
    · rw [z]; exact Nat.le_add_right _ _
    · rw [z]; exact Nat.le_add_right _ _
    · rw [z]; exact Nat.le_refl _
    · rw [z]; exact Nat.le_add_right _ _
  exact I.fpOk hle (I.hok.fresh hle)
theorem pi_zipF (hg : Gl X "zip") (hm : X.mg "zip" = none) (ha : PA X [e, e2] ta)
    (hs : starEach [e, e2] X.env = (false, eval e X.env) :: starEach [e2] X.env) (hpl : (backTo pos (starEach [e2] X.env)).any (·.1) = false) :
    PI X (.Tuple elts kk tpos) (.Call (.Name "zip" p) [e, e2] [] pos) (iB X.K false ta) := by
  refine ⟨fun pins s σ H R I h => ?_⟩
  refine Call_ (ld_blt I hg hm PyProof.Rows.boot_zip (PyProof.Rows.callWith_type1 (thn (ha.run pos pins s σ H _ I h) fun us s1 ⟨vs, H1, I1, r1, q1⟩ => ?_) hs hpl))
  obtain ⟨k1, k2, a, b, xs, ys, ex, hqx, hqy, q⟩ := q1
  subst ex
  cases r1 with
  | cons r rr =>
    cases rr with
    | cons r' rr =>
      cases rr
      cases r
      cases r'
      exact zip_land (st := false) I1 hqx hqy q
theorem pi_zipT {kp vp : Pos} {j : Nat} (hg : Gl X "zip") (hm : X.mg "zip" = none) (ha : PA X [e, e2] ta)
    (hs : starEach [e, e2] X.env = (false, eval e X.env) :: starEach [e2] X.env) (hpl : ((backTo pos (starEach [e, e2] X.env)).any (·.1) || (backToKw pos (keywordEach [⟨some "strict", .Constant (.bool true) j vp, kp⟩] X.env)).any (·.1.isNone)) = false)
    (hall : (backToKw pos (keywordEach [⟨some "strict", .Constant (.bool true) j vp, kp⟩] X.env)).all (·.1.isSome) = true) (hks : (backToKw pos (keywordEach [⟨some "strict", .Constant (.bool true) j vp, kp⟩] X.env)).filterMap (·.1) = [("strict" : Str)]) :
    PI X (.Tuple elts kk tpos) (.Call (.Name "zip" p) [e, e2] [⟨some "strict", .Constant (.bool true) j vp, kp⟩] pos) (iB X.K true ta) := by
  refine ⟨fun pins s σ H R I h => ?_⟩
  refine wpAny_Call_Name_kw (ld_blt I hg hm PyProof.Rows.boot_zip (callWith_typeKw hpl (evalArgs_kw2 hall (thn (ha.run pos pins s σ H _ I h) fun us s1 ⟨vs, H1, I1, r1, q1⟩ => ?_) hs)) (by decide) (by decide))
  refine thn ((pk_cons (nm := some "strict") (kpos := kp) (pe_bl (X := X) (b := true) (j := j) (pos := vp)) pk_nil).run pos pins s1 σ H1 (fun ks H2 => ks = [.bl true] ∧ H2 = H1) I1 ⟨rfl, rfl⟩) fun ws s2 ⟨zs, H2, I2, rz, e1, e2⟩ => ?_
  subst e1
  subst e2
  rw [hks]
  obtain ⟨k1, k2, a, b, xs, ys, ex, hqx, hqy, q⟩ := q1
  subst ex
  cases rz with
  | cons rw rz =>
    cases rz
    cases rw
    cases r1 with
    | cons r rr =>
      cases rr with
      | cons r' rr =>
        cases rr
        cases r
        cases r'
        exact zip_land (st := true) I2 hqx hqy q
/-- the pairs -/
def wkZ (st : Bool) (x y : D) : Wk := fun i S => match sqA S x, sqA S y with
  | some xs, some ys => (match xs[i]?, ys[i]? with
    | some a, some b => some (some (.tup [a, b]))
    | none, none => some none
    | _, _ => if st = true then none else some none)
  | _, _ => none
def gZip (st : Bool) (h : AM) : Env → M Wk := fun ρ S => bd (h ρ S) fun ds S1 => match ds with
  | [x, y] => if (sqA S1 x).isSome = true ∧ (sqA S1 y).isSome = true then some (.ok (wkZ st x y), S1) else none
  | _ => none
theorem kd_of {K : PySem.W.Frag} {mg : Str → Option Value} {W : Wd} {d : D} {v : V} {S : Store} {H : Hp} {xs : List D} (ho : Hold K mg W S H) (r : Rep K mg W d v) (h : sqA S d = some xs) :
    ∃ k a, v = .ref a ∧ (∃ vs, Kd.Sv k K H a vs) ∧ ∀ S' H' W' xs', Wsub W W' → Hold K mg W' S' H' → sqA S' d = some xs' → ∃ vs, Kd.Sv k K H' a vs ∧ RepL K mg W' xs' vs := by
  cases ht : sqT d with
  | none =>
    have toL : ∀ S xs, sqA S d = some xs → sqL S d = some xs := fun S xs h => by
      unfold sqA at h
      cases q : sqL S d with
      | some ys => rw [q] at h; exact h
      | none => rw [q] at h; simp only [ht] at h; cases h
    obtain ⟨a, vs, e1, e2, e3, _⟩ := sqL_ok ho r (toL S xs h)
    subst e1
    refine ⟨.l, a, rfl, ⟨vs, e2⟩, fun S' H' W' xs' w ho' h' => ?_⟩
    obtain ⟨b, vs', f1, f2, f3, _⟩ := sqL_ok ho' (r.monoS w) (toL S' xs' h')
    cases f1
    exact ⟨vs', f2, f3⟩
  | some zs =>
    have hA : ∀ S, sqA S d = some zs := fun S => by
      cases d with
      | tup xs => exact ht
      | wtup xs => exact ht
      | _ => cases ht
    obtain ⟨a, vs, e1, e2, e3, _⟩ := sqT_ok ho r ht
    subst e1
    refine ⟨.t, a, rfl, ⟨vs, e2⟩, fun S' H' W' xs' w ho' h' => ?_⟩
    obtain ⟨b, vs', f1, f2, f3, _⟩ := sqT_ok ho' (r.monoS w) ht
    cases f1
    rw [hA] at h'
    cases h'
    exact ⟨vs', f2, f3⟩
theorem ev_zip (st : Bool) (ea : Ev X.K X.mg EX (RL X) ta h) : Ev X.K X.mg EX (RW X) (iB X.K st ta) (gZip st h) := by
  refine ⟨fun W σ H S ρ Q r S' fr ho hf hp => ?_⟩
  refine ea.bd fr ho hf hp.exn fun ds vs S1 H1 W1 w1 ho1 rl hk => ?_
  split at hk
  · rename_i x y
    split at hk
    · rename_i hq
      cases hk
      obtain ⟨vx, vy, e1, rx, ry⟩ := repL2 rl
      obtain ⟨xs, hx⟩ := Option.isSome_iff_exists.mp hq.1
      obtain ⟨ys, hy⟩ := Option.isSome_iff_exists.mp hq.2
      obtain ⟨k1, a, rfl, ⟨ux, sx⟩, fx⟩ := kd_of ho1 rx hx
      obtain ⟨k2, b, rfl, ⟨uy, sy⟩, fy⟩ := kd_of ho1 ry hy
      refine ⟨k1, k2, a, b, ux, uy, e1, sx, sy, hp _ H1 W1 w1 ho1 fun i S2 H2 W2 w2 ho2 => ?_⟩
      have inj : ∀ {k : Kd} {a : Addr} {us vs : List V}, k.Sv X.K H2 a us → k.Sv X.K H2 a vs → True := fun _ _ => trivial
      refine ⟨fun hn => ?_, fun d hd => ?_⟩
      · unfold wkZ at hn
        cases ex : sqA S2 x with
        | none => rw [ex] at hn; cases hn
        | some xs2 =>
          cases ey : sqA S2 y with
          | none => rw [ex, ey] at hn; cases hn
          | some ys2 =>
            rw [ex, ey] at hn
            obtain ⟨vs1, q1, q2⟩ := fx S2 H2 W2 xs2 w2 ho2 ex
            obtain ⟨vs2, q3, q4⟩ := fy S2 H2 W2 ys2 w2 ho2 ey
            have l1 := q2.length
            have l2 := q4.length
            refine ⟨vs1, vs2, q1, q3, ?_⟩
            simp only at hn
            cases c1 : xs2[i]? with
            | none =>
              have k1 := List.getElem?_eq_none_iff.mp c1
              cases c2 : ys2[i]? with
              | none =>
                have k2 := List.getElem?_eq_none_iff.mp c2
                exact .inr ⟨by omega, by omega⟩
              | some v2 =>
                rw [c1, c2] at hn
                cases st with
                | true => cases hn
                | false => exact .inl ⟨rfl, .inl (by omega)⟩
            | some v1 =>
              cases c2 : ys2[i]? with
              | none =>
                have k2 := List.getElem?_eq_none_iff.mp c2
                rw [c1, c2] at hn
                cases st with
                | true => cases hn
                | false => exact .inl ⟨rfl, .inr (by omega)⟩
              | some v2 => rw [c1, c2] at hn; cases hn
      · unfold wkZ at hd
        cases ex : sqA S2 x with
        | none => rw [ex] at hd; cases hd
        | some xs2 =>
          cases ey : sqA S2 y with
          | none => rw [ex, ey] at hd; cases hd
          | some ys2 =>
            rw [ex, ey] at hd
            obtain ⟨vs1, q1, q2⟩ := fx S2 H2 W2 xs2 w2 ho2 ex
            obtain ⟨vs2, q3, q4⟩ := fy S2 H2 W2 ys2 w2 ho2 ey
            simp only at hd
            cases c1 : xs2[i]? with
            | none =>
              cases c2 : ys2[i]? with
              | none => rw [c1, c2] at hd; cases hd
              | some v2 => rw [c1, c2] at hd; cases st <;> cases hd
            | some d1 =>
              cases c2 : ys2[i]? with
              | none => rw [c1, c2] at hd; cases st <;> cases hd
              | some d2 =>
                rw [c1, c2] at hd
                cases hd
                obtain ⟨v1, g1, g2⟩ := q2.get c1
                obtain ⟨v2, g3, g4⟩ := q4.get c2
                refine ⟨⟨vs1, vs2, v1, v2, q1, q3, g1, g3⟩, fun z H' hz => ?_⟩
                obtain ⟨T, y1, y2, e1, e2, e3, e4, e5⟩ := hz
                subst e1
                subst e3
                have k1 := e4 vs1 q1
                have k2 := e5 vs2 q3
                rw [g1] at k1
                rw [g3] at k2
                cases k1
                cases k2
                obtain ⟨W3, w3, ho3, r3⟩ := ho2.newT (p := T) (ds := [d1, d2]) (vs := [v1, v2]) e2 (by show 2 ≤ sizeLine; decide) (.cons g2 (.cons g4 .nil))
                exact ⟨W3, w3, ho3, r3⟩
    · cases hk
  · cases hk
theorem di_zip (hm : X.mg "zip" = none) (ha : DA X EX [e, e2] h) (hg : Gl X "zip" := by rfl) (hs : starEach [e, e2] X.env = (false, eval e X.env) :: starEach [e2] X.env := by rfl) (hpl : (backTo pos (starEach [e2] X.env)).any (·.1) = false := by rfl) :
    DI X EX (.Tuple elts kk tpos) (.Call (.Name "zip" p) [e, e2] [] pos) (gZip false h) := by
  obtain ⟨ta, pa, ea⟩ := ha.ev
  exact ⟨_, pi_zipF hg hm pa hs hpl, ev_zip false ea⟩
theorem di_zipS {kp vp : Pos} {j : Nat} (hm : X.mg "zip" = none) (ha : DA X EX [e, e2] h) (hg : Gl X "zip" := by rfl) (hs : starEach [e, e2] X.env = (false, eval e X.env) :: starEach [e2] X.env := by rfl) (hpl : ((backTo pos (starEach [e, e2] X.env)).any (·.1) || (backToKw pos (keywordEach [⟨some "strict", .Constant (.bool true) j vp, kp⟩] X.env)).any (·.1.isNone)) = false := by rfl)
    (hall : (backToKw pos (keywordEach [⟨some "strict", .Constant (.bool true) j vp, kp⟩] X.env)).all (·.1.isSome) = true := by rfl) (hks : (backToKw pos (keywordEach [⟨some "strict", .Constant (.bool true) j vp, kp⟩] X.env)).filterMap (·.1) = [("strict" : Str)] := by rfl) :
    DI X EX (.Tuple elts kk tpos) (.Call (.Name "zip" p) [e, e2] [⟨some "strict", .Constant (.bool true) j vp, kp⟩] pos) (gZip true h) := by
  obtain ⟨ta, pa, ea⟩ := ha.ev
  exact ⟨_, pi_zipT hg hm pa hs hpl hall hks, ev_zip true ea⟩
end
end Dm
set_option linter.all false
set_option maxRecDepth 100000
set_option maxHeartbeats 2000000
namespace Dm
open PySem L2 PySem.W PyProof.Rows PySem.Calls

/-! ### enumerate of a list, a tuple, a text -/
theorem drawsK {prog : Program} {w : World} {A : Around} (hh : A.handled = none) (k : Kd) (it a : Addr) (hne : a ≠ it) (its : Array Value) :
    Draws prog w A it [it, a] its.size (fun i v => its[i]? = some v) (fun i h => k.It h it a i ∧ k.Sq h a its) where
  live := fun _ _ q => let ⟨o, ho, _⟩ := q.1.there; ⟨o, ho⟩
  frame := fun _ _ _ q hk => ⟨q.1.keep fun o e => hk it (by simp) o e, q.2.keep fun o e => hk a (by simp) o e⟩
  item := fun i s Q E hi q hQ => by
    refine nextK_item q.1 q.2 (x := its[i]) (by simp [hi]) fun h' hit' hs' => ?_
    exact hQ _ h' s.toks (by simp [hi]) ⟨hit', q.2.keep fun o e => hs'.extBut _ _ hne e⟩ hs'
  done := fun s Q E q hE => nextK_end hh q.1 q.2 (by simp) hE
theorem enK_new (k : Kd) (a : Addr) (its : Array Value) :
    Meets (Builtin.«enumerate.__new__» ⟨[.type "enumerate", .ref a], []⟩) (fun _ R s => k.Sq s.heap a its ∧
      R (.ok (.ret (.ref (k.h1 s.heap a).objs.size)))
        { s with heap := (k.h1 s.heap a).push { cls := .type "enumerate", data := .fields #[.none, .bool false, .ref s.heap.objs.size, rawInt 0, .none, .none] } }) :=
  .of_wp fun prog w A R s h => by
    obtain ⟨hp, g, d, tk, os⟩ := s; obtain ⟨hl, h⟩ := h
    have hsub := sub_enumerate
    have hL : k.Sq (Shared.heap ⟨hp, g, d, tk, os⟩) a its := hl
    have i1 : ∀ {A : Around} {E : Value → Shared → Prop} {Q : Value → Shared → Prop}, Q (.ref hp.objs.size) ⟨k.h1 hp a, g, d, tk, os⟩ → wpAny (model prog w) A (pyIter (.ref a)) Q E ⟨hp, g, d, tk, os⟩ := fun q => by
      cases k with
      | l => exact wpAny_pyIter_list hL q
      | t => exact wpAny_pyIter_tuple hL q
    wp_walk using i1
    refine wpAny_stack_any fun st => wpAny_pure ?_
    split
    · rename_i c _ _ _ _ _
      cases (c == Value.type "enumerate")
      · wp_walk using i1
        exact ⟨_, rfl, h⟩
      · wp_walk using i1
        exact ⟨_, rfl, h⟩
    · wp_walk using i1
      exact ⟨_, rfl, h⟩
theorem call_enK {prog : Program} {w : World} {A : Around} {E : Value → Shared → Prop} {s : Shared} {k : Kd} {a : Addr} {its : Array Value} {Q : Value → Shared → Prop} (hL : k.Sq s.heap a its)
    (h : ∀ h', IsEnum h' (s.heap.objs.size + 1) s.heap.objs.size 0 .none → k.It h' s.heap.objs.size a 0 → h'.objs.size = s.heap.objs.size + 2 →
      (∀ b o, s.heap.get? b = some o → h'.get? b = some o) → Q (.ref (s.heap.objs.size + 1)) { s with heap := h' }) :
    wpAny (model prog w) A (call (.type "enumerate") [.ref a]) Q E s := by
  refine callType_new F.called_enumerate (by decide) (F.typeCall_enumerate_1 _) (F.newCall_enumerate_1 _) (fun obj => F.args_object_init_2 obj _) F.entry_enumerate_new
    (enK_new k a its) ⟨hL, ?_⟩
  have hz : (k.h1 s.heap a).objs.size = s.heap.objs.size + 1 := Heap.size_push ..
  show _ ∧ _
  rw [hz]
  have he : IsEnum ((k.h1 s.heap a).push { cls := .type "enumerate", data := .fields #[.none, .bool false, .ref s.heap.objs.size, rawInt 0, .none, .none] }) (s.heap.objs.size + 1) s.heap.objs.size 0 .none := by
    have := Heap.get?_push_size (k.h1 s.heap a) (o := { cls := .type "enumerate", data := .fields #[.none, .bool false, .ref s.heap.objs.size, rawInt 0, .none, .none] }) rfl
    rw [hz] at this; exact this
  have g1 : ((k.h1 s.heap a).push { cls := .type "enumerate", data := .fields #[.none, .bool false, .ref s.heap.objs.size, rawInt 0, .none, .none] }).get? s.heap.objs.size = some { cls := .type k.tn, data := .fields #[.ref a, .int 0 0] } := Heap.get?_push_of_some _ (Heap.get?_push_size _ rfl)
  refine ⟨⟨_, he, rfl⟩, h _ he ?_ (by rw [Heap.size_push, hz]) fun b o x => Heap.get?_push_of_some _ (Heap.get?_push_of_some _ x)⟩
  cases k with
  | l => exact ⟨_, g1, rfl, rfl⟩
  | t => exact ⟨_, g1, rfl, rfl⟩
/-- what is numbered -/
inductive Sr where
  | kd (k : Kd) (a : Addr) | str (x : Str)
def Sr.at (K : PySem.W.Frag) (r : Sr) (H : Hp) (i : Nat) (o : Option V) : Prop := match r with
  | .kd k a => ∃ xs, k.Sv K H a xs ∧ xs[i]? = o
  | .str x => (x.cps[i]?).map (fun c => V.str ⟨#[c]⟩) = o
def Sr.stop (K : PySem.W.Frag) (r : Sr) (H : Hp) (i : Nat) : Prop := match r with
  | .kd k a => ∃ xs, k.Sv K H a xs ∧ i = xs.length
  | .str x => i = x.cps.size
def ItE (K : PySem.W.Frag) (r : Sr) : It :=
  ⟨fun i H => ∃ x, r.at K H i (some x), fun i H v H' => ∃ T x, v = .ref T ∧ H T = none ∧ H' = upd H T (.tup [.int (i : Nat), x]) ∧ ∀ o, r.at K H i o → o = some x, fun i H => r.stop K H i⟩
/-- the inner iterator's state -/
def Sr.It (r : Sr) (h : Heap) (it : Addr) (i : Nat) : Prop := match r with
  | .kd k a => k.It h it a i
  | .str x => ∃ t, h.IsStrIter it (strIterType x) x t i
theorem Sr.It.there {r : Sr} {h : Heap} {it : Addr} {i : Nat} (q : r.It h it i) : ∃ o, h.get? it = some o ∧ ∀ v, o.data ≠ .cell v := by
  cases r with
  | kd k a => exact Kd.It.there q
  | str x => obtain ⟨t, o, e, _, d⟩ := q; exact ⟨o, e, fun v z => by rw [d] at z; cases z⟩
theorem Sr.It.keep {r : Sr} {h h' : Heap} {it : Addr} {i : Nat} (q : r.It h it i) (k : ∀ o, h.get? it = some o → h'.get? it = some o) : r.It h' it i := by
  cases r with
  | kd kk a => exact Kd.It.keep q k
  | str x => obtain ⟨t, o, e, r⟩ := q; exact ⟨t, o, k o e, r⟩
theorem en_item {X : Cx} {pins : List (Addr × Obj)} {σ : L2.St} {H : Hp} {s : Shared} {r : Sr} {e it : Addr} {i : Nat} {old : Value} {x : V} {Q : Option Value → Shared → Prop} {E : Value → Shared → Prop} (hc : X.calm = true) (I : L2.Inv X pins σ H s) (he : IsEnum s.heap e it ((i : Nat) : Int) old) (hit : r.It s.heap it i) (hne : e ≠ it) (hx : r.at X.K H i (some x))
    (hfe : H e = none) (hfi : H it = none) (hke : ∀ k a, r = .kd k a → e ≠ a ∧ a ≠ it)
    (hQ : ∀ u h' tk, RelV x u → IsEnumOut h' e it ((i : Int) + 1) u s.heap.objs.size → r.It h' it (i + 1) → h'.get? s.heap.objs.size = some { cls := .type "tuple", data := .seq #[.int i tk, u] } → h'.objs.size = s.heap.objs.size + 1 →
      (∀ b o, b ≠ e → b ≠ it → s.heap.get? b = some o → h'.get? b = some o) → Q (some (.ref s.heap.objs.size)) { s with heap := h', toks := tk + 1 }) : wpAny (model X.prog X.w) X.A (pyNext (.ref e)) Q E s := by
  cases r with
  | kd k a =>
    obtain ⟨xs, hq, hx⟩ := hx
    obtain ⟨its, rv, p, la⟩ := Inv.kd I hq
    obtain ⟨u, hu, ru⟩ := rv.get hx
    obtain ⟨n1, n2⟩ := hke k a rfl
    have hi : i < its.toArray.size := by
      have := (List.getElem?_eq_some_iff.mp hu).1
      simpa using this
    refine wpAny_pyNext_enum_itemD (drawsK (A := X.A.in1) (I.ok.hd hc) k it a n2 its.toArray) he ⟨hit, p⟩ hi hne (by simp only [List.mem_cons, List.not_mem_nil, or_false, not_or]; exact ⟨hne, n1⟩) fun v h' tk hv ho st' hT hsz hk => ?_
    have hv : its.toArray[i]? = some v := hv
    have : v = u := by
      rw [List.getElem?_toArray, hu] at hv
      exact (Option.some.inj hv).symm
    subst this
    exact hQ v h' tk ru ho st'.1 hT hsz hk
  | str y =>
    obtain ⟨t, hst⟩ := hit
    have hx : (y.cps[i]?).map (fun c => V.str ⟨#[c]⟩) = some x := hx
    have hi : i < y.cps.size := by
      cases q : y.cps[i]? with
      | none => rw [q] at hx; cases hx
      | some c => exact (Array.getElem?_eq_some_iff.mp q).1
    have fin : ∀ (v : Value) (h' : Heap) (tk : Nat), (∃ c u, y.cps[i]? = some c ∧ v = Value.str ⟨#[c]⟩ u) → IsEnumOut h' e it ((i : Int) + 1) v s.heap.objs.size → h'.IsStrIter it (strIterType y) y t (i + 1) → h'.get? s.heap.objs.size = some { cls := .type "tuple", data := .seq #[.int i tk, v] } → h'.objs.size = s.heap.objs.size + 1 →
        (∀ b o, b ≠ e → b ≠ it → s.heap.get? b = some o → h'.get? b = some o) → Q (some (.ref s.heap.objs.size)) { s with heap := h', toks := tk + 1 } := fun v h' tk hv ho st' hT hsz hk => by
      obtain ⟨c, u, hc', rfl⟩ := hv
      rw [hc'] at hx
      have hx := Option.some.inj hx
      subst hx
      exact hQ _ h' tk ⟨u, rfl⟩ ho ⟨t, st'⟩ hT hsz hk
    unfold strIterType at hst fin
    split at hst
    · rename_i ha
      rw [if_pos ha] at fin
      exact wpAny_pyNext_enum_itemD (Draws.strAscii (A := X.A.in1) (I.ok.hd hc) it y t) he hst hi hne (by simpa using hne) fin
    · rename_i ha
      rw [if_neg ha] at fin
      exact wpAny_pyNext_enum_itemD (Draws.strWide (A := X.A.in1) (I.ok.hd hc) it y t) he hst hi hne (by simpa using hne) fin
theorem en_end {X : Cx} {pins : List (Addr × Obj)} {σ : L2.St} {H : Hp} {s : Shared} {r : Sr} {e it : Addr} {i : Nat} {old : Value} {Q : Option Value → Shared → Prop} {E : Value → Shared → Prop} (hc : X.calm = true) (I : L2.Inv X pins σ H s) (he : IsEnum s.heap e it ((i : Nat) : Int) old) (hit : r.It s.heap it i) (hx : r.stop X.K H i)
    (hke : ∀ k a, r = .kd k a → e ≠ a ∧ a ≠ it) (hQ : ∀ h', Heap.ExtBut it s.heap h' → Q none { s with heap := h' }) : wpAny (model X.prog X.w) X.A (pyNext (.ref e)) Q E s := by
  cases r with
  | kd k a =>
    obtain ⟨xs, hq, e1⟩ := hx
    obtain ⟨its, rv, p, la⟩ := Inv.kd I hq
    obtain ⟨n1, n2⟩ := hke k a rfl
    have e2 : i = its.toArray.size := by rw [e1, List.size_toArray, rv.length]
    have hit : k.It s.heap it a i := hit
    rw [e2] at hit he
    exact wpAny_pyNext_enum_endD (drawsK (A := X.A.in1) (I.ok.hd hc) k it a n2 its.toArray) he ⟨hit, p⟩ hQ
  | str y =>
    obtain ⟨t, hst⟩ := hit
    have e1 : i = y.cps.size := hx
    rw [e1] at hst he
    unfold strIterType at hst
    split at hst
    · exact wpAny_pyNext_enum_endD (Draws.strAscii (A := X.A.in1) (I.ok.hd hc) it y t) he hst hQ
    · exact wpAny_pyNext_enum_endD (Draws.strWide (A := X.A.in1) (I.ok.hd hc) it y t) he hst hQ
theorem turn_E {P : Program} {w : World} {K : PySem.W.Frag} {elts : List Expr} {kk : Nat} {tpos : Pos} {r : Sr} {e it : Addr} (hne : e ≠ it) (hke : ∀ k a, r = .kd k a → e ≠ a ∧ a ≠ it) :
    Turn P w K (.Tuple elts kk tpos) (ItE K r) [e, it] e (fun i h => (∃ old, IsEnum h e it ((i : Nat) : Int) old) ∧ r.It h it i) where
  mem := by simp
  obj := fun i h q b hb => by
    obtain ⟨⟨old, he⟩, hi⟩ := q
    have e' : b = e ∨ b = it := by simpa using hb
    rcases e' with z | z
    · rw [z]; exact ⟨_, he, fun v q => nomatch q⟩
    · rw [z]; exact hi.there
  keep := fun i h h' q k => let ⟨⟨old, he⟩, hi⟩ := q; ⟨⟨old, k e (by simp) _ he⟩, hi.keep fun o q => k it (by simp) o q⟩
  item := by
    intro X hP hw hK hc i pins s σ H E I hf q hg
    subst hP hw hK
    obtain ⟨⟨old, he⟩, hit⟩ := q
    obtain ⟨x, hx⟩ := hg
    have hel : e < s.heap.objs.size := Heap.lt_size he
    have hil : it < s.heap.objs.size := by obtain ⟨_, q, _⟩ := hit.there; exact Heap.lt_size q
    refine en_item hc I he hit hne hx (hf e (by simp)).1 (hf it (by simp)).1 hke fun u h' tk ru ho hit' hT hsz hk => ?_
    refine ⟨_, rfl, wpAny_letOwnedTupleGo_enum (s := { s with heap := h', toks := tk + 1 }) ho fun h'' he' sb => ?_⟩
    have hT2 : h''.get? s.heap.objs.size = some { cls := .type "tuple", data := .seq #[.int i tk, u] } := (sb.2 _ (Nat.ne_of_gt hel)).trans hT
    have new : ObjOk X.prog X.w (upd H s.heap.objs.size (.tup [.int (i : Nat), x])) h'' s.heap.objs.size (.tup [.int (i : Nat), x]) :=
      ⟨by show 2 ≤ sizeLine; decide, [.int i tk, u], .cons ⟨_, rfl⟩ (.cons ru .nil), ⟨_, hT2, rfl, _, rfl⟩⟩
    have I1 : L2.Inv X pins σ (upd H s.heap.objs.size (.tup [.int (i : Nat), x])) { s with heap := h'', toks := tk + 1 } :=
      I.turnedNew (ch := [e, it]) (fun b ob hb q => (sb.2 b (fun z => hb (by simp [z]))).trans (hk b ob (fun z => hb (by simp [z])) (fun z => hb (by simp [z])) q)) hf (Nat.le_refl _) new
    refine ⟨.ref s.heap.objs.size, _, I1, rfl, ⟨_, x, rfl, I.hok.fresh (Nat.le_refl _), rfl, fun o hq => ?_⟩, ⟨⟨u, ?_⟩, hit'.keep fun o q => (sb.2 it (Ne.symm hne)).trans q⟩, fun b hb => ?_⟩
    · cases r with
      | kd k a =>
        obtain ⟨xs, h1, h2⟩ := hx
        obtain ⟨ys, h3, h4⟩ := hq
        rw [Inv.kd_inj I h3 h1] at h4
        rw [← h4, h2]
      | str y =>
        have hx : (y.cps[i]?).map (fun c => V.str ⟨#[c]⟩) = some x := hx
        have hq : (y.cps[i]?).map (fun c => V.str ⟨#[c]⟩) = o := hq
        rw [← hq, hx]
    · have e1 : ((i + 1 : Nat) : Int) = (i : Int) + 1 := by omega
      rw [e1]; exact he'
    · have hb' : b < s.heap.objs.size := by
        have e' : b = e ∨ b = it := by simpa using hb
        rcases e' with z | z
        · rw [z]; exact hel
        · rw [z]; exact hil
      rw [upd_ne (Nat.ne_of_lt hb')]
      exact (hf b hb).1
  done := by
    intro X hP hw hK hc i pins s σ H E I hf q hg
    subst hP hw hK
    obtain ⟨⟨old, he⟩, hit⟩ := q
    obtain ⟨f0, f1, f2, f3, f4, f5⟩ := hf it (by simp)
    exact en_end hc I he hit hg hke fun h' eb => ⟨rfl, I.turned (t' := s.toks) (fun b o hb q => eb b o hb q) f0 f1 f3 f4 f5⟩
  self := fun A i s Q E q h => let ⟨⟨_, he⟩, _⟩ := q; wpAny_pyIter_enum he h
def iE (K : PySem.W.Frag) (ta : TA) : TI := fun σ H R => ta σ H fun vs H1 => (∃ k a xs, vs = [.ref a] ∧ Kd.Sv k K H1 a xs ∧ R (ItE K (.kd k a)) H1) ∨ ∃ x, vs = [.str x] ∧ R (ItE K (.str x)) H1
section
variable {X : Cx} {EX : WX} {e : Expr} {ta : TA} {p pos tpos : Pos} {elts : List Expr} {kk : Nat} {h : AM}
theorem pi_E (hg : Gl X "enumerate") (hm : X.mg "enumerate" = none) (ha : PA X [e] ta) (hs : starEach [e] X.env = [(false, eval e X.env)]) :
    PI X (.Tuple elts kk tpos) (.Call (.Name "enumerate" p) [e] [] pos) (iE X.K ta) := by
  refine ⟨fun pins s σ H R I h => ?_⟩
  refine Call_ (ld_blt I hg hm boot_enumerate (PyProof.Rows.callWith_type1 (thn (ha.run pos pins s σ H _ I h) fun us s1 ⟨vs, H1, I1, r1, q1⟩ => ?_) hs rfl))
  have fresh : ∀ {h' : Heap}, (∀ b o, s1.heap.get? b = some o → h'.get? b = some o) → ∀ b ∈ [s1.heap.objs.size + 1, s1.heap.objs.size], FpOk X pins H1 b := fun hk b hb => by
    have e' : b = s1.heap.objs.size + 1 ∨ b = s1.heap.objs.size := by simpa using hb
    have hle : s1.heap.objs.size ≤ b := by
      rcases e' with z | z
      · rw [z]; exact Nat.le_add_right _ _
      · rw [z]; exact Nat.le_refl _
    exact I1.fpOk hle (I1.hok.fresh hle)
  rcases q1 with ⟨k, a, xs, ex, hq, q⟩ | ⟨x, ex, q⟩
  · subst ex
    cases r1 with
    | cons r rr =>
      cases rr
      cases r
      obtain ⟨its, rv, p', la⟩ := Inv.kd I1 hq
      refine call_enK p' fun h' he hit hsz hk => wpAny_pyIter_enum he ?_
      have I2 : L2.Inv X pins σ H1 { s1 with heap := h' } := I1.kept (t' := s1.toks) hk
      exact ⟨s1.heap.objs.size + 1, [s1.heap.objs.size + 1, s1.heap.objs.size], _, _, H1, rfl, I2, turn_E (r := .kd k a) (Nat.succ_ne_self _) (fun k' a' e => by cases e; exact ⟨Nat.ne_of_gt (Nat.lt_succ_of_lt la), Nat.ne_of_lt la⟩), ⟨⟨.none, he⟩, hit⟩, fresh hk, q⟩
  · subst ex
    cases r1 with
    | cons r rr =>
      cases rr
      obtain ⟨t, rfl⟩ := r
      refine call_enumerate_str fun h' he hit hsz hk => wpAny_pyIter_enum he ?_
      have I2 : L2.Inv X pins σ H1 { s1 with heap := h' } := I1.kept (t' := s1.toks) hk
      exact ⟨s1.heap.objs.size + 1, [s1.heap.objs.size + 1, s1.heap.objs.size], _, _, H1, rfl, I2, turn_E (r := .str x) (Nat.succ_ne_self _) (fun k' a' e => by cases e), ⟨⟨.none, he⟩, (⟨t, hit⟩ : ∃ t, h'.IsStrIter s1.heap.objs.size (strIterType x) x t 0)⟩, fresh hk, q⟩
def wkE (x : D) : Wk := fun i S => match x with
  | .str y => if i < y.cps.size then (match y.cps[i]? with
    | some c => some (some (.tup [.int (i : Nat), .str ⟨#[c]⟩]))
    | none => none) else if i = y.cps.size then some none else none
  | _ => (match sqA S x with
    | some xs => (match xs[i]? with
      | some d => some (some (.tup [.int (i : Nat), d]))
      | none => if i = xs.length then some none else none)
    | none => none)
def gEnum (h : AM) : Env → M Wk := fun ρ S => bd (h ρ S) fun ds S1 => match ds with
  | [.str y] => some (.ok (wkE (.str y)), S1)
  | [x] => if (sqA S1 x).isSome = true then some (.ok (wkE x), S1) else none
  | _ => none
theorem ev_enum (ea : Ev X.K X.mg EX (RL X) ta h) : Ev X.K X.mg EX (RW X) (iE X.K ta) (gEnum h) := by
  refine ⟨fun W σ H S ρ Q r S' fr ho hf hp => ?_⟩
  refine ea.bd fr ho hf hp.exn fun ds vs S1 H1 W1 w1 ho1 rl hk => ?_
  have pair : ∀ {W2 : Wd} {S2 : Store} {H2 : Hp} {T : Addr} {i : Nat} {d : D} {v : V}, Hold X.K X.mg W2 S2 H2 → Rep X.K X.mg W2 d v → H2 T = none → ∃ W3, Wle W2 W3 ∧ Hold X.K X.mg W3 S2 (upd H2 T (.tup [.int (i : Nat), v])) ∧ Rep X.K X.mg W3 (.tup [.int (i : Nat), d]) (.ref T) := fun {W2 S2 H2 T i d v} ho r np =>
    ho.newT (p := T) (ds := [.int (i : Nat), d]) (vs := [.int (i : Nat), v]) np (by show 2 ≤ sizeLine; decide) (.cons .int (.cons r .nil))
  cases rl with
  | nil => cases hk
  | @cons x dr vx vr rx rr =>
    cases rr with
    | cons _ _ => cases x <;> cases hk
    | nil =>
      by_cases hs : ∃ y, x = .str y
      · obtain ⟨y, rfl⟩ := hs
        cases hk
        cases rx
        refine .inr ⟨y, rfl, hp _ H1 W1 w1 ho1 fun i S2 H2 W2 w2 ho2 => ⟨fun hn => ?_, fun d hd => ?_⟩⟩
        · have hn : (if i < y.cps.size then (match y.cps[i]? with
            | some c => some (some (D.tup [.int (i : Nat), .str ⟨#[c]⟩]))
            | none => none) else if i = y.cps.size then some none else none) = some none := hn
          split at hn
          · cases q : y.cps[i]? with
            | none => rw [q] at hn; cases hn
            | some c => rw [q] at hn; cases hn
          · split at hn
            · assumption
            · cases hn
        · have hd : (if i < y.cps.size then (match y.cps[i]? with
            | some c => some (some (D.tup [.int (i : Nat), .str ⟨#[c]⟩]))
            | none => none) else if i = y.cps.size then some none else none) = some (some d) := hd
          split at hd
          · cases q : y.cps[i]? with
            | none => rw [q] at hd; cases hd
            | some c =>
              rw [q] at hd
              cases hd
              have e0 : Sr.at X.K (.str y) H2 i (some (.str ⟨#[c]⟩)) := by show (y.cps[i]?).map _ = _; rw [q]; rfl
              refine ⟨⟨_, e0⟩, fun z H' hz => ?_⟩
              obtain ⟨T, v1, e1, e2, e3, e4⟩ := hz
              subst e1
              subst e3
              have k1 := e4 _ e0
              cases k1
              exact pair ho2 (.str (by show 1 ≤ sizeLine; decide)) e2
          · split at hd <;> cases hd
      · have hk : (if (sqA S1 x).isSome = true then some (Rs.ok (wkE x), S1) else none) = some (r, S') := by
          cases x with
          | str y => exact absurd ⟨y, rfl⟩ hs
          | _ => exact hk
        have hw : ∀ i S, wkE x i S = (match sqA S x with
            | some xs => (match xs[i]? with
              | some d => some (some (D.tup [.int (i : Nat), d]))
              | none => if i = xs.length then some none else none)
            | none => none) := fun i S => by
          cases x with
          | str y => exact absurd ⟨y, rfl⟩ hs
          | _ => rfl
        split at hk
        · rename_i hq
          cases hk
          obtain ⟨xs, hx⟩ := Option.isSome_iff_exists.mp hq
          obtain ⟨k1, a, rfl, ⟨ux, sx⟩, fx⟩ := kd_of ho1 rx hx
          refine .inl ⟨k1, a, ux, rfl, sx, hp _ H1 W1 w1 ho1 fun i S2 H2 W2 w2 ho2 => ?_⟩
          rw [hw]
          cases ex : sqA S2 x with
          | none => exact ⟨fun hn => (by cases hn), fun d hd => (by cases hd)⟩
          | some xs2 =>
            obtain ⟨vs1, q1, q2⟩ := fx S2 H2 W2 xs2 w2 ho2 ex
            simp only
            cases c1 : xs2[i]? with
            | none =>
              refine ⟨fun hn => ?_, fun d hd => ?_⟩
              · simp only at hn
                split at hn
                · rename_i hi
                  exact ⟨vs1, q1, by rw [hi, q2.length]⟩
                · cases hn
              · simp only at hd
                split at hd <;> cases hd
            | some d1 =>
              refine ⟨fun hn => (by cases hn), fun d hd => ?_⟩
              cases hd
              obtain ⟨v1, g1, g2⟩ := q2.get c1
              have e0 : Sr.at X.K (.kd k1 a) H2 i (some v1) := ⟨vs1, q1, g1⟩
              refine ⟨⟨_, e0⟩, fun z H' hz => ?_⟩
              obtain ⟨T, v2, e1, e2, e3, e4⟩ := hz
              subst e1
              subst e3
              have k1 := e4 _ e0
              cases k1
              exact pair ho2 g2 e2
        · cases hk
theorem di_enum (hm : X.mg "enumerate" = none) (ha : DA X EX [e] h) (hg : Gl X "enumerate" := by rfl) (hs : starEach [e] X.env = [(false, eval e X.env)] := by rfl) :
    DI X EX (.Tuple elts kk tpos) (.Call (.Name "enumerate" p) [e] [] pos) (gEnum h) := by
  obtain ⟨ta, pa, ea⟩ := ha.ev
  exact ⟨_, pi_E hg hm pa hs, ev_enum ea⟩
end
end Dm
set_option linter.all false
set_option maxRecDepth 100000
set_option maxHeartbeats 2000000
namespace PpSet
open PySem PySem.Spec PyProof.Rows L2
section
variable {X : Cx}
theorem addK_ok {pins : List (Addr × Obj)} {σ : L2.St} {H : Hp} {s : Shared} {E : Value → Shared → Prop} {D : Addr} {S : Key → Bool} {n : Nat} {k : Key} {z : Value} {Q : Value → Shared → Prop} (I : Inv X pins σ H s) (hD : H D = some (SetK X.prog X.w D S n)) (rz : RelV (kV k) z) (room : n + 1 < scanBound)
    (h : ∀ s', Inv X pins σ (upd H D (SetK X.prog X.w D (fun j => S j || decide (j = k)) (if S k = true then n else n + 1))) s' → Q .none s') : wpAny (model X.prog X.w) X.A (call (.builtin "set.add") [.ref D, z]) Q E s := by
  refine call_set_add (kV_is rz) (key_scan rz) (setK_get I hD) room fun h' sb new => ?_
  have he : ∃ u, h'.get? D = some u := by
    have ⟨o, _, _, _, ho, _⟩ := new
    exact ⟨o, ho⟩
  exact h _ (I.write (e := D) (t' := s.toks + 1) (by rw [hD]; trivial) (.inl rfl) (fun b u hb hu => (sb.2 b hb).trans hu) he (setK_new new))
theorem setK_fresh {P : Program} {w : World} {h : Heap} : (h.push { cls := .type "set", dict := none, data := .set #[] 0 (.fresh 0 0 (!w.params.followText "set-order")) }).SetOf (mixKind P w) h.objs.size (fun _ => false) 0 :=
  ⟨_, #[], 0, _, Heap.get?_push_size _ rfl, ⟨rfl, rfl, rfl⟩, rfl, (fun e he => by simp at he), (fun k => by simp), (by decide), (by rfl), rfl⟩
/-- {elt for target in iter if ..}, elt an int or a text: D the new set -/
def tScK (P : Program) (w : World) (wi : TI) (g : TG) (tt : TT) (te : TE) (vs : List Nat) : TE := fun σ H Q => wi σ H fun J H1 => ∀ D, H1 D = none → ∃ W : Nat → Nat → Hp → Prop, (∃ m, W 0 m (upd H1 D (SetK P w D (fun _ => false) 0))) ∧ ∀ i m H, W i m H →
  (J.stop i H ∧ Q (.ref D) H) ∨ (J.go i H ∧ ∃ Nx : Hp → Prop, (∀ H', Nx H' → ∃ m', m' < m ∧ W (i + 1) m' H') ∧ ∀ x H', J.yld i H x H' → g x (wipe σ vs) H' fun σ2 H2 => wipe σ2 vs = wipe σ vs ∧ tt σ2 H2 fun b H3 =>
    if b = true then te σ2 H3 fun y H4 => ∃ (k : Key) (S : Key → Bool) (n : Nat), y = kV k ∧ H4 D = some (SetK P w D S n) ∧ n + 1 < scanBound ∧ Nx (upd H4 D (SetK P w D (fun j => S j || decide (j = k)) (if S k = true then n else n + 1))) else Nx H3)
theorem scK_core {pins : List (Addr × Obj)} {s : Shared} {σ : L2.St} {H : Hp} {Q : VK} {elt tg iter : Expr} {ifs : List Expr} {scope : Scope} {own : List (PySem.Str × Nat)} {pos pos' : Pos} {wi : TI} {g : TG} {tt : TT} {te : TE} {use : Option (Value → Sem Unit)} {Qf : Value → Shared → Prop}
    (hc : X.calm = true) (hN : X.N.Nodup) (I : Inv X pins σ H s) (hi : PI X tg iter wi) (ok : BlkOk X.N X.env.scope scope own)
    (hg : ∀ (s : Shared) (H : Hp) (C : Addr) (cl : List (PySem.Str × Addr)) (fp : List Addr), PG (X.blk s H scope (compEnvC scope cl C X.env) fp) tg g) (ht : ∀ (s : Shared) (H : Hp) (C : Addr) (cl : List (PySem.Str × Addr)) (fp : List Addr), PTs (X.blk s H scope (compEnvC scope cl C X.env) fp) ifs tt)
    (he : ∀ (s : Shared) (H : Hp) (C : Addr) (cl : List (PySem.Str × Addr)) (fp : List Addr), PE (X.blk s H scope (compEnvC scope cl C X.env) fp) elt te) (hs : ∀ x, foldedSetIterable iter X.env x = pure x)
    (h : tScK X.prog X.w wi g tt te (own.map (·.2)) σ H Q)
    (hRR : ∀ D C s' m H', Inv X pins σ H' s' → Q (.ref D) H' → s'.heap.Ns C m → FpOk X pins H' C → compPost (model X.prog X.w) X.A X.xe use Qf (.ref D) C (.ok .next) s') :
    wpAny (model X.prog X.w) X.A (comprehension (.SetComp elt [⟨tg, iter, ifs, 0⟩] scope pos) scope X.env pos' (newSet (.type "set")) false (eval iter X.env) use) Qf X.xe s := by
  have hfree : ∀ y ∈ scope.names, y.2 = .free → ∃ c, X.env.cells.lookup y.1 = some c := fun y hy e => by
    rcases ok.free y hy e with k | k
    · exact I.ok.has _ (.inl k)
    · exact I.ok.has _ (.inr k)
  refine wpAny_comprehension_free (use := use) rfl hs (closure_ok hfree) ok.kind (fun y hy e => by rw [ok.uniq y hy, e])
    (thn (hi.run pins s σ H _ I h) fun xv s1 hx => thn hx fun itv s2 h2 => ?_)
  obtain ⟨it, fp, tn, J, H2, e, I2, T, st2, f2, q⟩ := h2
  subst e
  refine newSet_ok (newEnv_comp ?_)
  generalize hD : s2.heap.objs.size = D
  have hDn : H2 D = none := I2.hok.fresh (Nat.le_of_eq hD)
  obtain ⟨W, ⟨m0, w0⟩, turn⟩ := q D hDn
  -- the new list
  generalize hs3 : ({ s2 with heap := s2.heap.push { cls := .type "set", dict := none, data := .set #[] 0 (.fresh 0 0 (!X.w.params.followText "set-order")) } } : Shared) = s3
  have I3 : Inv X pins σ (upd H2 D (SetK X.prog X.w D (fun _ => false) 0)) s3 := by
    rw [← hs3]
    refine I2.laid (t' := s2.toks) (fun b o e => Heap.get?_push_of_some _ e) (Nat.le_of_eq hD) ?_
    rw [← hD]
    exact setK_new setK_fresh
  have h3 : s3.heap = s2.heap.push { cls := .type "set", dict := none, data := .set #[] 0 (.fresh 0 0 (!X.w.params.followText "set-order")) } := by rw [← hs3]
  have sz : ∀ b ∈ fp, b < s2.heap.objs.size := fun b hb => by
    obtain ⟨o, e, _⟩ := T.obj _ _ st2 b hb
    exact Heap.lt_size e
  have f3 : ∀ b ∈ fp, FpOk X pins (upd H2 D (SetK X.prog X.w D (fun _ => false) 0)) b ∧ b < s3.heap.objs.size := fun b hb => by
    have hlt := sz b hb
    refine ⟨⟨?_, (f2 b hb).2⟩, by rw [h3, Heap.size_push]; exact Nat.lt_succ_of_lt hlt⟩
    rw [upd_ne (by rw [← hD]; exact Nat.ne_of_lt hlt)]
    exact (f2 b hb).1
  have st3 : tn 0 s3.heap := T.keep _ _ _ st2 fun b _ o e => by rw [h3]; exact Heap.get?_push_of_some _ e
  have I4 := block_start I3 ok hN f3
  have pg := hg s3 (upd H2 D (SetK X.prog X.w D (fun _ => false) 0)) s3.heap.objs.size (cellsFrom (s3.heap.objs.size + 1) scope.names (cloFrom X.env.cells scope.names [])) fp
  have pt := ht s3 (upd H2 D (SetK X.prog X.w D (fun _ => false) 0)) s3.heap.objs.size (cellsFrom (s3.heap.objs.size + 1) scope.names (cloFrom X.env.cells scope.names [])) fp
  have pe := he s3 (upd H2 D (SetK X.prog X.w D (fun _ => false) 0)) s3.heap.objs.size (cellsFrom (s3.heap.objs.size + 1) scope.names (cloFrom X.env.cells scope.names [])) fp
  show codeAny _ _ (.compStart (.SetComp elt [⟨tg, iter, ifs, 0⟩] scope pos) 0 (.ref it) (.ref D) (compEnvC scope (cellsFrom (s3.heap.objs.size + 1) scope.names (cloFrom X.env.cells scope.names [])) s3.heap.objs.size X.env)) (compPost (model X.prog X.w) X.A X.xe use Qf (.ref D) s3.heap.objs.size) { s3 with heap := pushCells (s3.heap.push { cls := .type "dict", data := .dict #[] }) scope.names }
  have nfp : ∀ b ∈ fp, (upd H2 D (SetK X.prog X.w D (fun _ => false) 0)) b = none := fun b hb => (f3 b hb).1.1
  generalize hce : compEnvC scope (cellsFrom (s3.heap.objs.size + 1) scope.names (cloFrom X.env.cells scope.names [])) s3.heap.objs.size X.env = ce at I4 pg pt pe ⊢
  have cL : ce.locals = s3.heap.objs.size := by subst hce; rfl
  generalize hH3 : upd H2 D (SetK X.prog X.w D (fun _ => false) 0) = H3 at I3 I4 pg pt pe w0 nfp f3
  generalize hs4 : ({ s3 with heap := pushCells (s3.heap.push { cls := .type "dict", data := .dict #[] }) scope.names } : Shared) = s4 at I4 ⊢
  have st4 : tn 0 s4.heap := T.keep _ _ _ st3 fun b _ o e => by rw [← hs4]; exact pushCells_keeps _ _ _ _ (Heap.get?_push_of_some _ e)
  have stat : ∀ {σ' : L2.St} {H' : Hp} {s' : Shared}, Inv (X.blk s3 H3 scope ce fp) [] σ' H' s' → (∀ b ∈ fp, H' b = none) → ∀ b ∈ fp, FpOk (X.blk s3 H3 scope ce fp) [] H' b := fun {σ' H' s'} I' hn b hb =>
    ⟨hn b hb, (I'.ok.exf b hb).1, I'.ok.exfs b hb, .inl hb, fun x c e => (I'.ok.exf b hb).2 x c e, fun p hp => absurd (show p ∈ ([] : List (Addr × Obj)) ++ [] from hp) (by simp)⟩
  have loop : codeAny (model X.prog X.w) X.A (.compLoop (.SetComp elt [⟨tg, iter, ifs, 0⟩] scope pos) 0 (.ref it) (.ref D) ce) (compPost (model X.prog X.w) X.A X.xe use Qf (.ref D) s3.heap.objs.size) s4 := by
    refine compLoopS_any (fun n s' => ∃ i H', Inv (X.blk s3 H3 scope ce fp) [] (wipe σ (own.map (·.2))) H' s' ∧ tn i s'.heap ∧ (∀ b ∈ fp, H' b = none) ∧ W i n H') ?_ m0 ⟨0, H3, I4, st4, nfp, w0⟩
    rintro n s5 ⟨i, H5, I5, st5, n5, w5⟩
    rcases turn i n H5 w5 with ⟨stop, qq⟩ | ⟨go, Nx, hNx, step⟩
    · have td := T.done (X.blk s3 H3 scope ce fp) rfl rfl rfl hc i [] s5 _ H5 (fun _ _ => False) I5 (stat I5 n5) st5 stop
      refine thnF td fun r s6 ⟨hr, I6⟩ => ?_
      subst hr
      -- back in the def's context
      have I7 : Inv X pins σ H5 s6 := I3.call' (ch := fp) I6.os I6.base I6.hok I6.bare fun b hb => ⟨(f3 b hb).1.2.2.2.1, (f3 b hb).1.2.1, (f3 b hb).1.2.2.2.2.1, (f3 b hb).1.2.2.2.2.2⟩
      have nC : H5 s3.heap.objs.size = none := by
        have z : H5 ce.locals = none := I6.free
        rw [cL] at z
        exact z
      obtain ⟨m, hn, _⟩ := I6.loc
      have hn : s6.heap.Ns ce.locals m := hn
      rw [cL] at hn
      exact hRR D s3.heap.objs.size s6 m H5 I7 qq hn (I3.fpOk (Nat.le_refl _) nC)
    · have ti := T.item (X.blk s3 H3 scope ce fp) rfl rfl rfl hc i [] s5 _ H5 (fun _ _ => False) I5 (stat I5 n5) st5 go
      refine thnF ti fun r s6 ⟨u, hr, h6⟩ => ?_
      subst hr
      refine thnF h6 fun _ s7 ⟨x, H7, I7, r7, y7, st7, n7⟩ => ?_
      have I7' := I7.pinned (stat I7 n7) (T.obj _ _ st7)
      refine thnF (pg.run _ s7 _ H7 x u _ I7' r7 (step x H7 y7)) fun _ s8 ⟨σ8, H8, I8, hw8, q8⟩ => ?_
      refine thnF (pt.run _ s8 σ8 H8 _ I8 q8) fun b s9 ⟨H9, I9, q9⟩ => ?_
      -- the turn's end
      have fin : ∀ {s' : Shared} {H' : Hp}, Inv (X.blk s3 H3 scope ce fp) ([] ++ pinsAt fp s7.heap) σ8 H' s' → Nx H' → ∃ m, m < n ∧ ∃ i H', Inv (X.blk s3 H3 scope ce fp) [] (wipe σ (own.map (·.2))) H' s' ∧ tn i s'.heap ∧ (∀ b ∈ fp, H' b = none) ∧ W i m H' := fun {s' H'} I' nx => by
        obtain ⟨m', hm, w'⟩ := hNx H' nx
        have pin' : ∀ b ∈ fp, ∀ o, s7.heap.get? b = some o → s'.heap.get? b = some o ∧ H' b = none := fun b hb o e =>
          let z := I'.pin (b, o) (List.mem_append_right _ (List.mem_append_right _ (mem_pinsAt hb e)))
          ⟨z.1, z.2.1⟩
        have hl : (wipe σ (own.map (·.2))).length = σ8.length := by rw [← hw8, wipe_length]
        refine ⟨m', hm, i + 1, H', (I'.unpinned (pins := [])).weak hl (fun j v e => ?_), T.keep _ _ _ st7 fun b hb o e => (pin' b hb o e).1, fun b hb => ?_, w'⟩
        · rw [← hw8] at e
          exact (wipe_some e).1
        · obtain ⟨o, e, _⟩ := T.obj _ _ st7 b hb
          exact (pin' b hb o e).2
      cases b with
      | false =>
        simp only [Bool.false_eq_true, if_false] at q9 ⊢
        exact fin I9 q9
      | true =>
        simp only [if_true] at q9 ⊢
        refine thnF (pe.run _ s9 σ8 H9 _ I9 q9) fun z s10 ⟨yv, H10, I10, r10, cb, S0, n0, ey, hD10, hz10, nx⟩ => ?_
        subst ey
        exact addK_ok (X := X.blk s3 H3 scope ce fp) I10 hD10 r10 hz10 fun s11 I11 => fin I11 nx
  exact codeAny_compStart_set loop (T.self X.A 0 _ _ _ st4 loop)
theorem pe_scK {elt tg iter : Expr} {ifs : List Expr} {scope : Scope} {own : List (PySem.Str × Nat)} {pos : Pos} {wi : TI} {g : TG} {tt : TT} {te : TE} (hc : X.calm = true) (hN : X.N.Nodup) (hi : PI X tg iter wi) (ok : BlkOk X.N X.env.scope scope own)
    (hg : ∀ (s : Shared) (H : Hp) (C : Addr) (cl : List (PySem.Str × Addr)) (fp : List Addr), PG (X.blk s H scope (compEnvC scope cl C X.env) fp) tg g) (ht : ∀ (s : Shared) (H : Hp) (C : Addr) (cl : List (PySem.Str × Addr)) (fp : List Addr), PTs (X.blk s H scope (compEnvC scope cl C X.env) fp) ifs tt)
    (he : ∀ (s : Shared) (H : Hp) (C : Addr) (cl : List (PySem.Str × Addr)) (fp : List Addr), PE (X.blk s H scope (compEnvC scope cl C X.env) fp) elt te) (hs : ∀ x, foldedSetIterable iter X.env x = pure x := by intro _; rfl) :
    PE X (.SetComp elt [⟨tg, iter, ifs, 0⟩] scope pos) (tScK X.prog X.w wi g tt te (own.map (·.2))) := by
  refine ⟨fun pins s σ H Q I h => ?_⟩
  rw [eval_SetComp]
  refine scK_core hc hN I hi ok hg ht he hs h fun D C s' m H' I' q hn f => ⟨m, hn, fun h'' sb => ?_⟩
  obtain ⟨f0, f1, f2, f3, f4, f5⟩ := f
  exact ⟨.ref D, H', I'.turned (t' := s'.toks) (fun b o hb e => (sb.2 b hb).trans e) f0 f1 f3 f4 f5, rfl, q⟩
end
end PpSet
set_option linter.all false
set_option maxRecDepth 100000
set_option maxHeartbeats 2000000
namespace Dm
open PySem L2 PySem.W PyProof.Rows PySem.Calls

/-! ### len({e for x in xs}) -/
abbrev memS (ks : List Key) : Key → Bool := fun j => ks.any fun x => decide (x = j)
def addKey (ks : List Key) (k : Key) : List Key := if memS ks k = true then ks else ks ++ [k]
section
variable (wk : Wk) (ns : List Nat) (pf : D → Store → Option (List D × Store)) (t : TM) (el : EM) (ρ0 : Env)
def scN : Nat → Nat → List Key → Store → Option (List Key × Store)
  | 0, _, _, _ => none
  | n + 1, i, ks, S => match wk i S with
    | none => none
    | some none => some (ks, S)
    | some (some d) => (match pf d S with
      | none => none
      | some (ds, S1) => (match t (setA ρ0 ns ds) S1 with
        | some (.ok true, S2) => (match el (setA ρ0 ns ds) S2 with
          | some (.ok y, S3) => (match keyK y with
            | some k => if ks.length + 1 < scanBound then scN n (i + 1) (addKey ks k) S3 else none
            | none => none)
          | _ => none)
        | some (.ok false, S2) => scN n (i + 1) ks S2
        | _ => none))
noncomputable def scW (S : Store) : Option (List Key × Store) := lim fun n => scN wk ns pf t el ρ0 n 0 [] S
theorem scN_mono : ∀ n i ks S a, scN wk ns pf t el ρ0 n i ks S = some a → scN wk ns pf t el ρ0 (n + 1) i ks S = some a
  | 0, _, _, _, _, h => by cases h
  | n + 1, i, ks, S, a, h => by
    unfold scN at h ⊢
    cases e1 : wk i S with
    | none => rw [e1] at h; cases h
    | some o =>
      rw [e1] at h
      cases o with
      | none => exact h
      | some d =>
        simp only at h ⊢
        cases e2 : pf d S with
        | none => rw [e2] at h; cases h
        | some p =>
          obtain ⟨ds, S1⟩ := p
          rw [e2] at h
          simp only at h ⊢
          cases e3 : t (setA ρ0 ns ds) S1 with
          | none => rw [e3] at h; cases h
          | some p =>
            obtain ⟨r, S2⟩ := p
            rw [e3] at h
            cases r with
            | ex x => cases h
            | ok b =>
              cases b with
              | false => exact scN_mono n _ _ _ _ h
              | true =>
                simp only at h ⊢
                cases e4 : el (setA ρ0 ns ds) S2 with
                | none => rw [e4] at h; cases h
                | some p =>
                  obtain ⟨r, S3⟩ := p
                  rw [e4] at h
                  cases r with
                  | ex x => cases h
                  | ok y =>
                    simp only at h ⊢
                    cases e5 : keyK y with
                    | none => rw [e5] at h; cases h
                    | some k =>
                      rw [e5] at h
                      simp only at h ⊢
                      split at h
                      · rename_i q
                        rw [if_pos q]
                        exact scN_mono n _ _ _ _ h
                      · cases h
theorem scW_of {n : Nat} {S : Store} {a : List Key × Store} (h : scN wk ns pf t el ρ0 n 0 [] S = some a) : scW wk ns pf t el ρ0 S = some a := lim_of (fun n a => scN_mono wk ns pf t el ρ0 n 0 [] S a) h
def scL : List D → List Key → Store → Option (List Key × Store)
  | [], ks, S => some (ks, S)
  | d :: r, ks, S => (match pf d S with
      | none => none
      | some (ds, S1) => (match t (setA ρ0 ns ds) S1 with
        | some (.ok true, S2) => (match el (setA ρ0 ns ds) S2 with
          | some (.ok y, S3) => (match keyK y with
            | some k => if ks.length + 1 < scanBound then scL r (addKey ks k) S3 else none
            | none => none)
          | _ => none)
        | some (.ok false, S2) => scL r ks S2
        | _ => none))
theorem scN_C {xs : List D} (hw : ∀ i S, wk i S = some xs[i]?) : ∀ (r : List D) (i : Nat) ks S a, xs.drop i = r → scL ns pf t el ρ0 r ks S = some a → scN wk ns pf t el ρ0 (r.length + 1) i ks S = some a
  | [], i, ks, S, a, hd, h => by
    unfold scN
    rw [hw, List.getElem?_eq_none (List.drop_eq_nil_iff.mp hd)]
    exact h
  | d :: r, i, ks, S, a, hd, h => by
    have hi : xs[i]? = some d := by
      have := congrArg List.head? hd
      rw [List.head?_drop] at this
      exact this
    have hr : xs.drop (i + 1) = r := by
      have := congrArg List.tail hd
      rw [List.tail_drop] at this
      exact this
    unfold scN
    rw [hw, hi]
    simp only
    unfold scL at h
    cases e2 : pf d S with
    | none => rw [e2] at h; cases h
    | some p =>
      obtain ⟨ds, S1⟩ := p
      rw [e2] at h
      simp only at h ⊢
      cases e3 : t (setA ρ0 ns ds) S1 with
      | none => rw [e3] at h; cases h
      | some p =>
        obtain ⟨q, S2⟩ := p
        rw [e3] at h
        cases q with
        | ex x => cases h
        | ok b =>
          cases b with
          | false => exact scN_C hw r _ _ _ _ hr h
          | true =>
            simp only at h ⊢
            cases e4 : el (setA ρ0 ns ds) S2 with
            | none => rw [e4] at h; cases h
            | some p =>
              obtain ⟨q, S3⟩ := p
              rw [e4] at h
              cases q with
              | ex x => cases h
              | ok y =>
                simp only at h ⊢
                cases e5 : keyK y with
                | none => rw [e5] at h; cases h
                | some k =>
                  rw [e5] at h
                  simp only at h ⊢
                  split at h
                  · rename_i q
                    rw [if_pos q]
                    exact scN_C hw r _ _ _ _ hr h
                  · cases h
theorem scW_C {xs : List D} (hw : ∀ i S, wk i S = some xs[i]?) {S : Store} {a : List Key × Store} (h : scL ns pf t el ρ0 xs [] S = some a) : scW wk ns pf t el ρ0 S = some a :=
  scW_of wk ns pf t el ρ0 (scN_C wk ns pf t el ρ0 hw xs 0 [] S a rfl h)
end
theorem memS_add (ks : List Key) (k : Key) : (fun j => memS ks j || decide (j = k)) = memS (addKey ks k) := by
  funext j
  unfold addKey
  by_cases h : memS ks k = true
  · rw [if_pos h]
    by_cases e : j = k
    · subst e; rw [h]; rfl
    · simp [e]
  · rw [if_neg h]
    unfold memS
    rw [List.any_append]
    have : decide (k = j) = decide (j = k) := decide_eq_decide.mpr ⟨Eq.symm, Eq.symm⟩
    simp [this]
theorem len_add (ks : List Key) (k : Key) : (if memS ks k = true then ks.length else ks.length + 1) = (addKey ks k).length := by
  unfold addKey
  by_cases h : memS ks k = true
  · rw [if_pos h, if_pos h]
  · rw [if_neg h, if_neg h, List.length_append]; rfl
structure ScSt (P : Program) (w : World) (K : PySem.W.Frag) (mg : Str → Option Value) (Dn : Addr) (Wb : Wd) (S : Store) (ks : List Key) (W2 : Wd) (H : Hp) : Prop where
  np : ∀ q ∈ Wb.pv, q.1 ≠ Dn
  sub : Wsub Wb W2
  ho : Hold K mg W2 S H
  ac : W2.pv = (Dn, SetK P w Dn (memS ks) ks.length) :: Wb.pv
section
variable {P : Program} {w : World} {K : PySem.W.Frag} {mg : Str → Option Value} {Dn : Addr} {Wb W2 W3 : Wd} {S S3 : Store} {ks : List Key} {H H3 : Hp}
theorem ScSt.go (h : ScSt P w K mg Dn Wb S ks W2 H) (w' : Wle W2 W3) (ho : Hold K mg W3 S3 H3) : ScSt P w K mg Dn Wb S3 ks W3 H3 := ⟨h.np, h.sub.trans w'.sub, ho, w'.pv.trans h.ac⟩
theorem ScSt.at (h : ScSt P w K mg Dn Wb S ks W2 H) : H Dn = some (SetK P w Dn (memS ks) ks.length) := (h.ho.pvt (Dn, _) (by rw [h.ac]; exact List.mem_cons_self)).1
theorem ScSt.add (h : ScSt P w K mg Dn Wb S ks W2 H) (k : Key) : ∃ W3, ScSt P w K mg Dn Wb S (addKey ks k) W3 (upd H Dn (SetK P w Dn (fun j => memS ks j || decide (j = k)) (if memS ks k = true then ks.length else ks.length + 1))) := by
  rw [memS_add, len_add]
  refine ⟨⟨W2.Hf, W2.eta, (Dn, SetK P w Dn (memS (addKey ks k)) (addKey ks k).length) :: Wb.pv⟩, h.np, ⟨h.sub.hf, h.sub.et⟩, ?_, rfl⟩
  have ho' : Hold K mg ⟨W2.Hf, W2.eta, (Dn, SetK P w Dn (memS ks) ks.length) :: Wb.pv⟩ S H := by rw [← h.ac]; exact h.ho
  exact ho'.privSet h.np
end
noncomputable def gLenSc (g : Env → M Wk) (ns own : List Nat) (pf : D → Store → Option (List D × Store)) (t : TM) (el : EM) : EM := fun ρ S => bd (g ρ S) fun wk S1 => match scW wk ns pf t el (wipeA ρ own) S1 with
  | some (ks, S2) => some (.ok (.int (ks.length : Nat)), S2)
  | none => none
section
variable {X : Cx} {EX : WX} {elt tg iter e : Expr} {ifs : List Expr} {scope : Scope} {own : List (Str × Nat)} {pos p pos2 : Pos} {ns : List Nat} {pf : D → Store → Option (List D × Store)} {g : Env → M Wk} {t : TM} {el : EM}
def tLenSet (P : Program) (w : World) (te : TE) : TE := fun σ H Q => te σ H fun x H1 => ∃ a ks, x = .ref a ∧ H1 a = some (SetK P w a (memS ks) ks.length) ∧ ks.length < 2 ^ 62 ∧ Q (.int (ks.length : Nat)) H1
theorem pe_lenSetE {te : TE} (he : PE X e te) (hg : Gl X "len") (hm : X.mg "len" = none) (hs : starEach [e] X.env = (false, eval e X.env) :: starEach [] X.env) : PE X (.Call (.Name "len" p) [e] [] pos) (tLenSet X.prog X.w te) := by
  refine ⟨fun pins s σ H Q I h => ?_⟩
  refine Call_ (ld_blt I hg hm boot_len ?_)
  refine PyProof.Rows.callWith_builtin1 (PyProof.Rows.args_cons (thn (he.run pins s σ H _ I h) fun v s1 ⟨x, H1, I1, r1, a, ks, ex, ha, hl, q⟩ => PyProof.Rows.args_nil ?_) hs) hs rfl
  subst ex
  obtain rfl : v = Value.ref a := r1
  obtain ⟨o, es, ep, t, ho, hex, hd, _, _, _, hf, hn⟩ := setK_get I1 ha
  refine call_len_set ho hex hd hf (by rw [hn]; omega) ⟨.int (ks.length : Nat), H1, I1.tok _, ⟨_, by rw [hn]⟩, q⟩
theorem de_lenSc (own : List (Str × Nat)) (hc : X.calm = true) (hN : X.N.Nodup) (hm : X.mg "len" = none) (hi : DI X EX tg iter g) (ok : blkC X.N X.env.scope scope own = true) (hg : ∀ i, DGn (blkOf X scope i) tg ns pf) (ht : ∀ i, DTs (blkOf X scope i) ifs t) (he : ∀ i, DE (blkOf X scope i) NX elt el)
    (hns : ∀ n ∈ ns, n ∈ own.map (·.2) := by decide) (hf : ∀ x, foldedSetIterable iter X.env x = pure x := by intro _; rfl) (hgl : Gl X "len" := by rfl) (hs : starEach [.SetComp elt [⟨tg, iter, ifs, 0⟩] scope pos2] X.env = (false, eval (.SetComp elt [⟨tg, iter, ifs, 0⟩] scope pos2) X.env) :: starEach [] X.env := by rfl) :
    DE X EX (.Call (.Name "len" p) [.SetComp elt [⟨tg, iter, ifs, 0⟩] scope pos2] [] pos) (gLenSc g ns (own.map (·.2)) pf t el) := by
  obtain ⟨wi, pi, ei⟩ := hi.ev
  obtain ⟨gg, pg, eg⟩ := uni_g (X := X) (Xs := blkOf X scope) (fun _ => rfl) (fun _ => rfl) hg
  obtain ⟨tt, pt, et⟩ := uni_t (X := X) (Xs := blkOf X scope) (fun _ => rfl) (fun _ => rfl) ht
  obtain ⟨te, pe, ee⟩ := uni_e (X := X) (Xs := blkOf X scope) (fun _ => rfl) (fun _ => rfl) he
  refine ⟨_, pe_lenSetE (PpSet.pe_scK hc hN pi (blkOk_by ok) (fun s H C cl fp => pg (s, H, C, cl, fp)) (fun s H C cl fp => pt (s, H, C, cl, fp)) (fun s H C cl fp => pe (s, H, C, cl, fp)) hf) hgl hm hs, ⟨fun W σ H S ρ Q r S' fr ho hfn hp => ?_⟩⟩
  refine ei.bd fr ho hfn hp.exn fun wk J S1 H1 W1 w1 ho1 srv hk => ?_
  intro Dn np
  cases e : scW wk ns pf t el (wipeA ρ (own.map (·.2))) S1 with
  | none => rw [e] at hk; cases hk
  | some p =>
    obtain ⟨ksF, SF⟩ := p
    rw [e] at hk
    cases hk
    obtain ⟨n, hn⟩ := lim_some e
    have fr1 := fr.mono w1
    have ss : (fun j => memS [] j) = (fun _ => false : Key → Bool) := by funext j; simp [memS]
    have st0 : ScSt X.prog X.w X.K X.mg Dn W1 S1 [] ⟨W1.Hf, W1.eta, (Dn, SetK X.prog X.w Dn (memS []) 0) :: W1.pv⟩ (upd H1 Dn (SetK X.prog X.w Dn (fun _ => false) 0)) :=
      ⟨fun q hq => ne_of_none (ho1.pvt q hq).1 np, ⟨fun _ _ z => z, [], (List.append_nil _).symm⟩, by rw [← ss]; exact ho1.priv np, rfl⟩
    have small : ∀ {n i ks S ks' S'}, scN wk ns pf t el (wipeA ρ (own.map (·.2))) n i ks S = some (ks', S') → ks.length < 2 ^ 62 → ks'.length < 2 ^ 62 := fun {n} => by
      induction n with
      | zero => intro i ks S ks' S' h; cases h
      | succ n ih =>
        intro i ks S ks' S' h hl
        unfold scN at h
        split at h
        · cases h
        · cases h; exact hl
        · split at h
          · cases h
          · split at h
            · split at h
              · split at h
                · split at h
                  · rename_i hq
                    refine ih h ?_
                    have : scanBound = 4096 := rfl
                    unfold addKey
                    split
                    · exact hl
                    · rw [List.length_append, List.length_singleton]; omega
                  · cases h
                · cases h
              · cases h
            · exact ih h hl
            · cases h
    have hlF : ksF.length < 2 ^ 62 := small hn (by decide)
    refine ⟨fun i m H => ∃ W2 S ks, ScSt X.prog X.w X.K X.mg Dn W1 S ks W2 H ∧ scN wk ns pf t el (wipeA ρ (own.map (·.2))) m i ks S = some (ksF, S'), ⟨n, _, S1, [], st0, hn⟩, ?_⟩
    rintro i m H ⟨W2, S, ks, st, hn⟩
    cases m with
    | zero => cases hn
    | succ m =>
      unfold scN at hn
      obtain ⟨srv1, srv2⟩ := srv i S H W2 st.sub st.ho
      cases e1 : wk i S with
      | none => rw [e1] at hn; cases hn
      | some o =>
        cases o with
        | none =>
          rw [e1] at hn
          cases hn
          have ho' : Hold X.K X.mg ⟨W2.Hf, W2.eta, (Dn, SetK X.prog X.w Dn (memS ksF) ksF.length) :: W1.pv⟩ S' H := by rw [← st.ac]; exact st.ho
          exact .inl ⟨srv1 e1, Dn, ksF, rfl, st.at, hlF, hp _ H ⟨W2.Hf, W2.eta, W1.pv⟩ (w1.trans ⟨st.sub.hf, st.sub.et, rfl⟩) ho'.privOut .int⟩
        | some d =>
          rw [e1] at hn
          simp only at hn
          obtain ⟨go, srv3⟩ := srv2 d e1
          refine .inr ⟨go, fun H => ∃ W2 S ks, ScSt X.prog X.w X.K X.mg Dn W1 S ks W2 H ∧ scN wk ns pf t el (wipeA ρ (own.map (·.2))) m (i + 1) ks S = some (ksF, S'), fun H' h => ⟨m, Nat.lt_succ_self m, h⟩, fun x H3 hy => ?_⟩
          obtain ⟨W3, w3, ho3, rx⟩ := srv3 x H3 hy
          have st3 := st.go w3 ho3
          cases e2 : pf d S with
          | none => rw [e2] at hn; cases hn
          | some p =>
            obtain ⟨ds, S2⟩ := p
            rw [e2] at hn
            simp only at hn
            refine eg W3 (wipe σ (own.map (·.2))) H3 S d x ds S2 _ ho3 rx e2 fun vs H4 W4 w4 ho4 rl => ?_
            refine ⟨by rw [wipe_setA hns, wipe_idem], ?_⟩
            have st4 := st3.go w4 ho4
            have fr4 : Fr X.K X.mg W4 (setA (wipeA ρ (own.map (·.2))) ns ds) (setA (wipe σ (own.map (·.2))) ns vs) := by
              have fb : Fr X.K X.mg W4 ρ σ := ⟨fr1.1, fun j d e => by
                obtain ⟨v, k1, k2⟩ := fr1.2 j d e
                exact ⟨v, k1, k2.monoS st4.sub⟩⟩
              exact (fb.wipe _).setA rl
            cases e3 : t (setA (wipeA ρ (own.map (·.2))) ns ds) S2 with
            | none => rw [e3] at hn; cases hn
            | some p =>
              obtain ⟨r, S3⟩ := p
              rw [e3] at hn
              refine et.run W4 _ H4 S2 _ _ r S3 fr4 ho4 e3 ?_
              cases r with
              | ex x => cases hn
              | ok b =>
                intro b' H5 W5 w5 ho5 eb
                subst eb
                have st5 := st4.go w5 ho5
                cases b with
                | false =>
                  rw [if_neg (by decide)]
                  exact ⟨W5, S3, ks, st5, hn⟩
                | true =>
                  rw [if_pos rfl]
                  simp only at hn
                  cases e4 : el (setA (wipeA ρ (own.map (·.2))) ns ds) S3 with
                  | none => rw [e4] at hn; cases hn
                  | some p =>
                    obtain ⟨r, S4⟩ := p
                    rw [e4] at hn
                    refine ee.run W5 _ H5 S3 _ _ r S4 (fr4.mono w5) ho5 e4 ?_
                    cases r with
                    | ex x => cases hn
                    | ok y =>
                      intro yv H6 W6 w6 ho6 ry
                      simp only at hn
                      cases e5 : keyK y with
                      | none => rw [e5] at hn; cases hn
                      | some k =>
                        rw [e5] at hn
                        simp only at hn
                        split at hn
                        · rename_i hl
                          have st6 := st5.go w6 ho6
                          obtain ⟨W7, st7⟩ := st6.add k
                          exact ⟨k, _, _, keyK_ok ry e5, st6.at, hl, W7, S4, _, st7, hn⟩
                        · cases hn
end
end Dm
set_option linter.all false
set_option maxRecDepth 100000
set_option maxHeartbeats 4000000
namespace Dm
open PySem L2 PySem.W PyProof.Rows PySem.Calls

/-! ### t * 1 is t -/
theorem tuple_mul1 (l : Addr) (items : Array Value) (n : Nat) (dd : Option Addr) (sl : Array (Option Value)) (u : Tok) :
    Meets (Builtin.«tuple.__mul__» ⟨[.ref l, .int 1 u], []⟩) (fun _ R s => s.heap.get? l = some { cls := .type "tuple", dict := dd, data := .seq items n, slots := sl } ∧ R (.ok (.ret (Value.ref l))) s) :=
  .of_wp fun prog w A R s h => by
    obtain ⟨hp, g, d, tk, os⟩ := s
    obtain ⟨hl, h⟩ := h
    have f1 := AutoSeq1.idx_int
    have c0 : (decide ((1 : Int) < -(2 ^ 63)) || decide ((1 : Int) ≥ 2 ^ 63)) = false := by decide
    have c1 : (items.isEmpty || (1 : Int) == 1) = true := by simp
    wp_walk using wpAny_loadPart' hl
    repeat (first
      | (refine wpAny_ite_false (decide_eq_false (by rw [c0]; exact Bool.false_ne_true)) ?_; wp_walk using wpAny_loadPart' hl)
      | (refine wpAny_ite_true (decide_eq_true (by rw [c1])) ?_; wp_walk using wpAny_loadPart' hl))
    exact ⟨_, rfl, h⟩
section
variable {X : Cx}
def rRep1 (K : PySem.W.Frag) : R2 := fun x y H Q => ∃ l xs, x = .ref l ∧ y = .int 1 ∧ SqT K H l xs ∧ Q (.ref l) H
theorem op_rep1 : OpR X (binaryOp .Mult) (rRep1 X.K) := by
  intro pins s σ H x y v u Q I rx ry h
  obtain ⟨l, xs, rfl, rfl, hT, q⟩ := h
  cases rx
  obtain ⟨t, rfl⟩ := ry
  obtain ⟨its, r, ⟨⟨cls, dd, data, sl⟩, ho, hc, n, hd⟩, hs⟩ := I.tuple hT
  simp only at hc hd
  subst hc hd
  exact wpAny_binaryOp_repeat_ref (T := "tuple") (U := "int") (by decide) ⟨_, ho, rfl⟩ (fun s' => typeIs_int s' 1 t) noFill_tuple_mul F.fills_int_mul F.slot_int_rmul repeat_tuple F.slot_int_index.lookup
    (call_meets F.slot_int_rmul (typeIs_int s 1 t) F.entry_int_rmul (F.args_int_rmul_2 _ _) (int_rmul_tuple 1 t l its.toArray n dd sl)
      ⟨ho, rfl, ⟨_, ho, rfl⟩, call_meets F.slot_tuple_mul ⟨_, ho, rfl⟩ F.entry_tuple_mul (F.args_tuple_mul_2 _ _) (tuple_mul1 l its.toArray n dd sl t) ⟨ho, ⟨.ref l, H, I, rfl, q⟩⟩⟩)
def oRep1 : D → D → Store → Option (D × Store)
  | .tup xs, .int 1, S => some (.tup xs, S)
  | .wtup xs, .int 1, S => some (.wtup xs, S)
  | _, _, _ => none
theorem op2_rep1 : Op2 X (rRep1 X.K) oRep1 := by
  intro W H S x y d1 d2 Q d S' ho r1 r2 hg hq
  unfold oRep1 at hg
  split at hg
  · rename_i xs
    cases hg
    cases r2
    obtain ⟨a, vs, e1, e2, _⟩ := sqT_ok ho r1 (ds := xs) rfl
    subst e1
    exact ⟨a, vs, rfl, rfl, e2, hq _ H W (Wle.refl W) ho r1⟩
  · rename_i xs
    cases hg
    cases r2
    obtain ⟨a, vs, e1, e2, _⟩ := sqT_ok ho r1 (ds := xs) rfl
    subst e1
    exact ⟨a, vs, rfl, rfl, e2, hq _ H W (Wle.refl W) ho r1⟩
  · cases hg
def oMulT (bx : Bool) := orO (oMul bx) oRep1
theorem oo_mulT (bx : Bool) : OO X (binaryOp .Mult) (oMulT bx) := OO.or (oo_mul bx) ⟨_, op_rep1, op2_rep1⟩
end
end Dm
set_option linter.all false
set_option maxRecDepth 100000
set_option maxHeartbeats 2000000
namespace Dm
open PySem L2 PySem.W PyProof.Rows PySem.Calls

/-! ### classes -/
/-- a method, its promise -/
structure Mo (P : Program) (w : World) (K : PySem.W.Frag) (mg : Str → Option Value) (base : Heap) (k : Nat) (m c : Str) (ar : Nat) (sem : FnS) (dd : List D) : Prop where
  ex : ∀ C, mg c = some (.ref C) → Cls K C ∧ ∃ f fd ps ds dvs, Meth K C m f ∧ FO P w K mg base k f fd ps sem ∧ ps.length = ar ∧ Binds K fd ps ds ∧ Vals dvs ds ∧ Stat K mg dd dvs
/-- what the top has made of a method without defaults -/
structure Dmt (K : PySem.W.Frag) (mg : Str → Option Value) (c m qual : Str) (st : Stmt) (ps : List Str) : Prop where
  ex : ∃ C f fd, mg c = some (.ref C) ∧ Cls K C ∧ Meth K C m f ∧ Fun K m qual st f fd ∧ Binds K fd ps []
theorem stat_nil {K : PySem.W.Frag} {mg : Str → Option Value} : Stat K mg [] [] := fun _ => .nil
section
variable {P : Program} {w : World} {K : PySem.W.Frag} {mg : Str → Option Value} {base : Heap} {c m qual : Str} {st : Stmt} {ps N : List Str} {k j ar : Nat} {fb : SM} {sem : FnS} {dd : List D}
theorem mo_of (Dx : Dmt K mg c m qual st ps) (S : FnScope N ps (defScope st)) (hb : Body P w K mg base k N qual (defScope st) (defBody st) fb) : Mo P w K mg base (k + 1) m c ps.length (semD ps.length N.length fb) [] := by
  obtain ⟨C, f, fd, hC, cl, me, F, b⟩ := Dx.ex
  refine ⟨fun C' h => ?_⟩
  rw [hC] at h
  cases h
  exact ⟨cl, f, fd, ps, [], [], me, def_ok F S fun cdv A outer s H E hr tk pw => hb f cdv A outer s H E hr tk pw, rfl, b, .nil, stat_nil⟩
theorem Mo.pure (h : Mo P w K mg base k m c ar sem dd) : Mo P w K mg base k m c ar (pureS sem) dd := ⟨fun C hC => let ⟨cl, f, fd, ps, ds, dvs, h1, h2, h3⟩ := h.ex C hC; ⟨cl, f, fd, ps, ds, dvs, h1, h2.pure, h3⟩⟩
theorem Mo.mono (h : Mo P w K mg base j m c ar sem dd) (hk : j ≤ k) : Mo P w K mg base k m c ar sem dd := ⟨fun C hC => let ⟨cl, f, fd, ps, ds, dvs, h1, h2, h3⟩ := h.ex C hC; ⟨cl, f, fd, ps, ds, dvs, h1, FnOk.mono h2 hk, h3⟩⟩
theorem mo_none (Dx : Dmt K mg c m qual st ps) : Mo P w K mg base k m c ps.length (fun _ _ => none) [] := by
  obtain ⟨C, f, fd, hC, cl, me, F, b⟩ := Dx.ex
  refine ⟨fun C' h => ?_⟩
  rw [hC] at h
  cases h
  exact ⟨cl, f, fd, ps, [], [], me, FO.none, rfl, b, .nil, stat_nil⟩
end
section
variable {X : Cx} {k j : Nat} {m c c2 : Str} {ar ar2 : Nat} {sem sem2 : FnS} {dd dd2 : List D}
theorem mok1 (h : Mo X.prog X.w X.K X.mg X.base k m c ar sem dd) : MOk X k m [(c, ar, sem, dd)] := fun t ht => by
  have e : t = (c, ar, sem, dd) := by simpa using ht
  subst e
  exact ⟨h.ex⟩
theorem mok2 (h : Mo X.prog X.w X.K X.mg X.base k m c ar sem dd) (h2 : Mo X.prog X.w X.K X.mg X.base k m c2 ar2 sem2 dd2) : MOk X k m [(c, ar, sem, dd), (c2, ar2, sem2, dd2)] := fun t ht => by
  have e : t = (c, ar, sem, dd) ∨ t = (c2, ar2, sem2, dd2) := by simpa using ht
  rcases e with e | e
  · subst e; exact ⟨h.ex⟩
  · subst e; exact ⟨h2.ex⟩
end
/-- the making of an instance -/
structure Mi (P : Program) (w : World) (K : PySem.W.Frag) (mg : Str → Option Value) (base : Heap) (k : Nat) (c : Str) (ar : Nat) (sem : FnS) (dd : List D) : Prop where
  ex : ∃ C f fd ps ds dvs, mg c = some (.ref C) ∧ Mk K C f ∧ FO P w K mg base k f fd ps sem ∧ ps.length = ar ∧ Binds K fd ps ds ∧ Vals dvs ds ∧ Stat K mg dd dvs
structure MiN (P : Program) (w : World) (K : PySem.W.Frag) (mg : Str → Option Value) (base : Heap) (k : Nat) (c : Str) (n : Nat) (ks : List Str) (ar : Nat) (sem : FnS) (gD : List D → List D → List D) : Prop where
  ex : ∃ C f fd ps gg gV, mg c = some (.ref C) ∧ Mk K C f ∧ FO P w K mg base k f fd ps sem ∧ ps.length = ar ∧ KBn K fd ps (n + 1) ks gg gV ∧ (∀ W x v xs vs zs us, Rep K mg W x v → RepL K mg W xs vs → RepL K mg W zs us → vs.length = n → us.length = ks.length → RepL K mg W (x :: gD xs zs) (gV (v :: vs) us))
/-- __init__ as the top has made it: without defaults; with keyword-only ones -/
structure Din (K : PySem.W.Frag) (mg : Str → Option Value) (c qual : Str) (st : Stmt) (ps : List Str) : Prop where
  ex : ∃ C f fd, mg c = some (.ref C) ∧ Mk K C f ∧ Fun K "__init__" qual st f fd ∧ Binds K fd ps []
structure DinK (K : PySem.W.Frag) (mg : Str → Option Value) (c qual : Str) (st : Stmt) (kws : List (Str × V)) : Prop where
  ex : ∃ C f fd, mg c = some (.ref C) ∧ Mk K C f ∧ FunD K "__init__" qual (defArgs st) (defBody st) (defScope st) [] kws f fd
section
variable {P : Program} {w : World} {K : PySem.W.Frag} {mg : Str → Option Value} {base : Heap} {c m qual : Str} {st : Stmt} {ps N : List Str} {k j ar n : Nat} {fb : SM} {sem : FnS} {dd : List D} {kws : List (Str × V)}
theorem mi_of (Dx : Din K mg c qual st ps) (S : FnScope N ps (defScope st)) (hb : Body P w K mg base k N qual (defScope st) (defBody st) fb) : Mi P w K mg base (k + 1) c ps.length (semD ps.length N.length fb) [] := by
  obtain ⟨C, f, fd, hC, mk, F, b⟩ := Dx.ex
  exact ⟨C, f, fd, ps, [], [], hC, mk, def_ok F S fun cdv A outer s H E hr tk pw => hb f cdv A outer s H E hr tk pw, rfl, b, .nil, stat_nil⟩
/-- C(e, ..): the keyword-only ones fill up -/
theorem mi_ofK (Dx : DinK K mg c qual st kws) (S : FnScope N ps (defScope st)) (hb : Body P w K mg base k N qual (defScope st) (defBody st) fb) (hk : kws ≠ []) (hn : n + kws.length = ps.length) (hst : Stat K mg dd (kws.map (·.2)))
    (hh : ∀ (D : Addr) (doc pm : Value) (an : Option Addr) (cdv ct : Value) (us ks : List Value), us.length = n → ks.length = kws.length →
      KwChain D ((kws.map (·.1)).zip ks) (bindArgs (PySem.W.fnOf "__init__" qual (defArgs st) (defBody st) (defScope st) .none (.ref D) doc pm an cdv ct) ⟨us, []⟩) (ps.zip (us ++ ks))) :
    Mi P w K mg base (k + 1) c ps.length (semD ps.length N.length fb) dd := by
  obtain ⟨C, f, fd, hC, mk, F⟩ := Dx.ex
  obtain ⟨ds, hv, hb'⟩ := F.binds0 n hk hn hh
  exact ⟨C, f, fd, ps, ds, _, hC, mk, defD_ok F S fun cdv A outer s H E hr tk pw => hb f cdv A outer s H E hr tk pw, rfl, hb', hv, hst⟩
/-- C(e, .., k = v): all keyword-only ones are given -/
theorem mi_ofN (Dx : DinK K mg c qual st kws) (S : FnScope N ps (defScope st)) (hb : Body P w K mg base k N qual (defScope st) (defBody st) fb) (hk : kws ≠ []) (ks : List Str)
    (hh : ∀ (D : Addr) (doc pm : Value) (an : Option Addr) (cdv ct : Value) (us ws : List Value), us.length = n + 1 → ws.length = ks.length →
      bindArgs (PySem.W.fnOf "__init__" qual (defArgs st) (defBody st) (defScope st) .none (.ref D) doc pm an cdv ct) ⟨us, ks.zip ws⟩ = pure (ps.zip (us ++ ws))) :
    MiN P w K mg base (k + 1) c n ks ps.length (semD ps.length N.length fb) (fun xs zs => xs ++ zs) := by
  obtain ⟨C, f, fd, hC, mk, F⟩ := Dx.ex
  obtain ⟨mv, hb'⟩ := F.kbinds0 (ps := ps) (n + 1) ks [] (fun us _ ws => us ++ ws) hk (fun q hq => by cases hq) (fun r1 r2 r3 => r1.append r3) (fun D doc pm an cdv ct us mv ws l1 l2 l3 => hh D doc pm an cdv ct us ws l1 l3)
  exact ⟨C, f, fd, ps, _, _, hC, mk, defD_ok F S fun cdv A outer s H E hr tk pw => hb f cdv A outer s H E hr tk pw, rfl, hb', fun W x v xs vs zs us r1 r2 r3 _ _ => .cons r1 (r2.append r3)⟩
end
section
variable {X : Cx} {EX : WX} {k n : Nat} {c : Str} {ar : Nat} {sem : FnS} {dd : List D} {e : Expr} {es : List Expr} {p pos : Pos} {h h2 : AM} {ks : List Str} {gD : List D → List D → List D} {kws : List Keyword}
theorem de_mi (M : Mi X.prog X.w X.K X.mg X.base k c ar sem dd) (hr : Room (k + 1) X.A) (lt : Lets X EX) (ha : DA X EX (e :: es) h)
    (hg : Gl X c := by rfl) (hdb : (c == ("__debug__" : Str)) = false := by decide) (he : starEach (e :: es) X.env = (false, eval e X.env) :: starEach es X.env := by rfl) (hpl : (backTo pos (starEach es X.env)).any (·.1) = false := by rfl) :
    DE X EX (.Call (.Name c p) (e :: es) [] pos) (gMake c ar sem dd h) := de_make ⟨M.ex⟩ hr lt ha hg hdb he hpl
theorem de_miN (M : MiN X.prog X.w X.K X.mg X.base k c n ks ar sem gD) (hr : Room (k + 1) X.A) (lt : Lets X EX) (ha : DA X EX (e :: es) h) (hkw : DK X EX kws h2) {nk : Nat} (hnk : ks.length = nk := by rfl)
    (hg : Gl X c := by rfl) (hall : (backToKw pos (keywordEach kws X.env)).all (·.1.isSome) = true := by rfl) (hks : (backToKw pos (keywordEach kws X.env)).filterMap (·.1) = ks := by rfl) (hdb : (c == ("__debug__" : Str)) = false := by decide)
    (he : starEach (e :: es) X.env = (false, eval e X.env) :: starEach es X.env := by rfl) (hpl : ((backTo pos (starEach (e :: es) X.env)).any (·.1) || (backToKw pos (keywordEach kws X.env)).any (·.1.isNone)) = false := by rfl) :
    DE X EX (.Call (.Name c p) (e :: es) kws pos) (gMakeN c n nk ar sem gD h h2) := by
  subst hnk
  exact de_makeN ⟨M.ex⟩ hr lt ha hkw hg hall hks hdb he hpl
end
end Dm
set_option linter.all false
set_option maxRecDepth 100000
set_option maxHeartbeats 2000000
namespace Dm
open PySem L2 PySem.W PyProof.Rows PySem.Calls

/-! ### what the top has made, from its written part -/
section
variable {K : PySem.W.Frag} {h : Heap} {mg : Str → Option Value} {x qual c m : Str} {st : Stmt} {ps : List Str} {f C : Addr} {oc kV doc pm cdv ct : Value} {od an : Option Addr} {osl : Array (Option Value)}
/-- the arguments bind, whatever the def's other parts are -/
abbrev BindsAll (x qual : Str) (st : Stmt) (ps : List Str) : Prop :=
  ∀ (kV doc pm : Value) (an : Option Addr) (cdv ct : Value) (us : List Value), us.length = ps.length → bindArgs (PySem.W.fnOf x qual (defArgs st) (defBody st) (defScope st) .none kV doc pm an cdv ct) ⟨us, []⟩ = pure (ps.zip us)
theorem df_mk (X : K.In h) (G : h.Ns mainGlobals mg) (hb : BindsAll x x st ps) (a : PySem.W.nsIn K mainGlobals x = some (some (.ref f)))
    (l : K.lookup f = some ⟨oc, od, .func (PySem.W.fnOf x x (defArgs st) (defBody st) (defScope st) .none kV doc pm an cdv ct), osl⟩)
    (c : PySem.W.codeIn K cdv x = true) (k : PySem.W.keepIn K (.ref f) = true) : Df K mg x st ps :=
  ⟨f, _, PySem.W.mg_of X G a, fun_mk l c k, (fun_mk (st := st) l c k).binds hb⟩
theorem dmt_mk (X : K.In h) (G : h.Ns mainGlobals mg) (hb : BindsAll m qual st ps) (a : PySem.W.nsIn K mainGlobals c = some (some (.ref C)))
    (pg : PySem.W.plainGet K C Str.empty = true) (hd : PySem.W.hasDictIn K C = true) (po : PySem.W.plainOver K C = true) (sa : PySem.W.findIn K (.ref C) "__setattr__" = some (some (.builtin "object.__setattr__")))
    (at_ : PySem.W.findIn K (.ref C) m = some (some (.ref f))) (fn : PySem.W.isFn K (.ref f) = true)
    (l : K.lookup f = some ⟨oc, od, .func (PySem.W.fnOf m qual (defArgs st) (defBody st) (defScope st) .none kV doc pm an cdv ct), osl⟩)
    (c1 : PySem.W.codeIn K cdv qual = true) (k : PySem.W.keepIn K (.ref f) = true) : Dmt K mg c m qual st ps :=
  ⟨C, f, _, PySem.W.mg_of X G a, ⟨pg, hd, po, sa⟩, ⟨at_, fn, k⟩, fun_mk l c1 k, (fun_mk (st := st) l c1 k).binds hb⟩
theorem din_mk (X : K.In h) (G : h.Ns mainGlobals mg) (hb : BindsAll "__init__" qual st ps) (a : PySem.W.nsIn K mainGlobals c = some (some (.ref C)))
    (mk : PySem.W.makesIn K C = true) (at_ : PySem.W.findIn K (.ref C) "__init__" = some (some (.ref f))) (fn : PySem.W.isFn K (.ref f) = true) (kc : PySem.W.keepIn K (.ref C) = true)
    (l : K.lookup f = some ⟨oc, od, .func (PySem.W.fnOf "__init__" qual (defArgs st) (defBody st) (defScope st) .none kV doc pm an cdv ct), osl⟩)
    (c1 : PySem.W.codeIn K cdv qual = true) (k : PySem.W.keepIn K (.ref f) = true) : Din K mg c qual st ps :=
  ⟨C, f, _, PySem.W.mg_of X G a, ⟨mk, at_, fn, kc⟩, fun_mk l c1 k, (fun_mk (st := st) l c1 k).binds hb⟩
/-- with one keyword-only default, an int -/
theorem dinK_mk {q : Str} {i : Int} {t : Tok} {D : Addr} (X : K.In h) (G : h.Ns mainGlobals mg) (a : PySem.W.nsIn K mainGlobals c = some (some (.ref C)))
    (mk : PySem.W.makesIn K C = true) (at_ : PySem.W.findIn K (.ref C) "__init__" = some (some (.ref f))) (fn : PySem.W.isFn K (.ref f) = true) (kc : PySem.W.keepIn K (.ref C) = true)
    (l : K.lookup f = some ⟨oc, od, .func (PySem.W.fnOf "__init__" qual (defArgs st) (defBody st) (defScope st) .none (.ref D) doc pm an cdv ct), osl⟩)
    (c1 : PySem.W.codeIn K cdv qual = true) (k : PySem.W.keepIn K (.ref f) = true) (kd : PySem.W.nsIn K D q = some (some (.int i t))) : DinK K mg c qual st [(q, .int i)] :=
  ⟨C, f, _, PySem.W.mg_of X G a, ⟨mk, at_, fn, kc⟩, ⟨⟨oc, od, .none, .ref D, doc, pm, an, cdv, ct, osl, rfl, l, c1, .inl ⟨rfl, rfl⟩, .inr ⟨D, rfl, fun p hp => by
    have e : p = (q, .int i) := by simpa using hp
    subst e
    exact ⟨_, kd, t, rfl⟩⟩⟩, k⟩⟩
theorem fld_mk {a : Str} (X : K.In h) (G : h.Ns mainGlobals mg) (a1 : PySem.W.nsIn K mainGlobals c = some (some (.ref C)))
    (pg : PySem.W.plainGet K C Str.empty = true) (hd : PySem.W.hasDictIn K C = true) (po : PySem.W.plainOver K C = true) (sa : PySem.W.findIn K (.ref C) "__setattr__" = some (some (.builtin "object.__setattr__")))
    (no : PySem.W.findIn K (.ref C) a = some none) : ∀ C, mg c = some (.ref C) → Cls K C ∧ NoAttr K C a := fun C' e => by
  rw [PySem.W.mg_of X G a1] at e
  cases e
  exact ⟨⟨pg, hd, po, sa⟩, no⟩
theorem fld1 {a : Str} (h1 : ∀ C, mg c = some (.ref C) → Cls K C ∧ NoAttr K C a) : ∀ d ∈ ([c] : List Str), ∀ C, mg d = some (.ref C) → Cls K C ∧ NoAttr K C a := fun d hd => by
  have e : d = c := by simpa using hd
  subst e
  exact h1
theorem gint_mk {i : Int} {t : Tok} (X : K.In h) (G : h.Ns mainGlobals mg) (a : PySem.W.nsIn K mainGlobals x = some (some (.int i t))) : ∃ t, mg x = some (.int i t) := ⟨t, PySem.W.mg_of X G a⟩
theorem gref_mk {d : Addr} (X : K.In h) (G : h.Ns mainGlobals mg) (a : PySem.W.nsIn K mainGlobals x = some (some (.ref d))) : ∃ a, mg x = some (.ref a) := ⟨d, PySem.W.mg_of X G a⟩
/-- a written table -/
def TabL (P : Params) : List DictEntry → List (Str × Int) → Prop
  | [], [] => True
  | e :: r, (z, i) :: s => ((∃ t, e.key = .str z t) ∧ e.hash = PyData.keyHash P z ∧ ∃ t, e.val = .int i t) ∧ TabL P r s
  | _, _ => False
theorem TabL.lit {P : Params} : ∀ {es : List DictEntry} {tb : List (Str × Int)}, TabL P es tb → PySem.W.KeysLit P es
  | [], [], _ => True.intro
  | e :: r, (z, i) :: s, ⟨⟨⟨t, h1⟩, h2, h3⟩, h4⟩ => ⟨⟨z, t, h1, h2⟩, TabL.lit h4⟩
theorem TabL.find {P : Params} (z : Str) : ∀ {es : List DictEntry} {tb : List (Str × Int)}, TabL P es tb →
    (match es.find? (·.key.isStr z) with
      | some e => some e.val
      | none => none) = (match es.find? (·.key.isStr z) with
      | some e => some e.val
      | none => none) ∧ es.any (·.refKey) = false ∧ (match tb.lookup z with
    | some i => ∃ t e, es.find? (·.key.isStr z) = some e ∧ e.val = .int i t
    | none => es.find? (·.key.isStr z) = none)
  | [], [], _ => ⟨rfl, rfl, rfl⟩
  | e :: r, (y, i) :: s, ⟨⟨⟨t, h1⟩, h2, ⟨t2, h3⟩⟩, h4⟩ => by
    obtain ⟨_, i2, i3⟩ := TabL.find (P := P) z h4
    refine ⟨rfl, ?_, ?_⟩
    · rw [List.any_cons, i2, Bool.or_false]
      cases e
      subst h1
      rfl
    · by_cases hz : z = y
      · subst hz
        have e1 : List.lookup z ((z, i) :: s) = some i := by simp [List.lookup]
        have e2 : e.key.isStr z = true := by rw [h1]; show (z == z) = true; simp
        have e3 : List.find? (fun d : DictEntry => d.key.isStr z) (e :: r) = some e := List.find?_cons_of_pos e2
        rw [e1]
        exact ⟨t2, e, e3, h3⟩
      · have e1 : List.lookup z ((y, i) :: s) = List.lookup z s := by
          have : (z == y) = false := by simpa using hz
          simp [List.lookup, this]
        have e2 : ¬ e.key.isStr z = true := by rw [h1]; show ¬ (y == z) = true; simpa using fun q : y = z => hz q.symm
        have e3 : List.find? (fun d : DictEntry => d.key.isStr z) (e :: r) = List.find? (fun d : DictEntry => d.key.isStr z) r := List.find?_cons_of_neg e2
        rw [e1, e3]
        exact i3
theorem ktab_mk {w : World} {tb : List (Str × Int)} {d : Addr} {es : Array DictEntry} {n : Nat} (X : K.In h) (G : h.Ns mainGlobals mg) (a : PySem.W.nsIn K mainGlobals x = some (some (.ref d)))
    (l : K.lookup d = some ⟨.type "dict", none, .dict es n, #[]⟩) (lo : (d == sysModules) = false) (ht : TabL w.params es.toList tb) : KTab K mg w x tb := by
  refine ⟨d, es, n, PySem.W.mg_of X G a, ⟨l, ht.lit, lo⟩, fun z => ?_⟩
  obtain ⟨_, i2, i3⟩ := TabL.find (P := w.params) z ht
  unfold PySem.W.nsIn
  rw [l]
  dsimp only
  cases e : tb.lookup z with
  | some i =>
    rw [e] at i3
    obtain ⟨t, en, h1, h2⟩ := i3
    rw [h1]
    exact ⟨some en.val, rfl, t, congrArg some h2⟩
  | none =>
    rw [e] at i3
    have i3 : es.toList.find? (·.key.isStr z) = none := i3
    rw [i3, i2]
    exact ⟨none, rfl, rfl⟩
end

/-! ### the law's end -/
theorem repL_ints {K : PySem.W.Frag} {mg : Str → Option Value} {W : Wd} : ∀ ns : List Int, RepL K mg W (ns.map D.int) (ns.map V.int)
  | [] => .nil
  | n :: r => .cons .int (repL_ints r)
theorem binds_one {x qual y : Str} {st : Stmt} {f : Addr} {fd : FuncData} {K : PySem.W.Frag} (F : Fun K x qual st f fd) (hb : BindsAll x qual st [y]) (s : Shared) (u : Value) : BindsTo s fd ⟨[u], []⟩ [(y, u)] := by
  obtain ⟨oc, od, kV, doc, pm, an, cdv, ct, osl, rfl, lk, hcd⟩ := F.ex
  exact .of_eq (hb kV doc pm an cdv ct [u] rfl)
theorem walk_D {l : PySem.W.OpenLaw} {n k : Nat} {q : Program} {loose : List Str} {XP : (Str → Option Value) → Heap → Prop} {YP : World → Heap → Prop} {d : DefRec} {K : Params → PySem.W.Frag} {x : Str} {st : Stmt} {N : List Str} {fb : SM}
    (hn : l.most = some n) (hn2 : n ≤ sizeLine) (hdf : d.params.defaults = []) (hr : Room (k + 1) callerA)
    (hY : ∀ (w : World) (h : Heap), YP w h → (K w.params).In h) (hS : FnScope N [x] (defScope st)) (hB : BindsAll d.name d.name st [x])
    (F : ∀ (w : World) (mg : Str → Option Value) (h : Heap), (K w.params).In h → h.Ns mainGlobals mg → Df (K w.params) mg d.name st [x] ∧ ∀ base : Heap, Body l.prog w (K w.params) mg base k N d.name (defScope st) (defBody st) fb)
    (hsem : ∀ ns : List Int, ns.length ≤ n → (∀ z ∈ ns, Builtin.Int.intBits z ≤ 1048576) → ∃ S', semD 1 N.length fb [.wlst (ns.map D.int)] [] = some (.ok (.bl true), S')) :
    PySem.W.WalkO q loose XP YP l.row.toRowW d [] (fun f vs => PySem.call f vs) := by
  refine Att.attach_callB hn hdf fun w s₀ s₁ mg mb fa o pm cd doc a vs ns G Y ho hd hcd hmg hobj hints hlen hbits hg => ?_
  have KX := hY w _ Y
  obtain ⟨Dx, hBody⟩ := F w mg _ KX G.T.g
  obtain ⟨f, fd, hf, Fn, _⟩ := Dx.ex
  rw [hmg] at hf
  cases hf
  refine law_call KX G.T.g G.T.b G.T.builtins G.T.nolimit hg hobj hints (Nat.le_trans hlen hn2) hr (fun base _ _ => def_ok (base := base) (mg := mg) Fn hS fun cdv A outer s H E h1 h2 h3 => hBody base fa cdv A outer s H E h1 h2 h3) (binds_one Fn hB) (fun H hO hL => ?_) ?_
  · obtain ⟨S', hs⟩ := hsem ns hlen hbits
    refine ⟨⟨H, [], []⟩, [], [.wlst (ns.map D.int)], _, S', rfl, ?_, ?_, hs, ?_⟩
    · exact ⟨fun _ _ e => e, rfl, fun i j a e => by simp at e, fun i a c e => by simp at e, fun i a e => by simp at e, fun p hp => by simp at hp⟩
    · refine .cons (.wlst (vs := ns.map V.int) (fun H' hH => ?_) (by rw [List.length_map]; exact Nat.le_trans hlen hn2) (repL_ints ns)) .nil
      rcases hL with (e | ⟨o, e⟩) | e
      · exact .inl (.inl (hH _ _ e))
      · exact .inl (.inr ⟨o, hH _ _ e⟩)
      · exact .inr e
    · intro b H' W' _ _ r
      cases r
      rfl
  · rintro H e s' ⟨_, _, _, _, _, _, _, _, _, _, _, _, z⟩
    exact z
end Dm
set_option linter.all false
set_option maxRecDepth 100000
set_option maxHeartbeats 2000000
namespace Dm
open PySem L2

/-! ### evaluation step by step: each combinator waits for its first part (simp rules that never look behind a binder) -/
abbrev YD := Option (Rs D × Store)
abbrev YL := Option (Rs (List D) × Store)
abbrev YB := Option (Rs Bool × Store)
abbrev YF := Option (Fl × Store)
def kSeq : YF → SM → YF
  | some (.nx ρ1, S1), f => f ρ1 S1
  | none, _ => none
  | some (.rt d, S1), _ => some (.rt d, S1)
  | some (.bk ρ1, S1), _ => some (.bk ρ1, S1)
  | some (.ct ρ1, S1), _ => some (.ct ρ1, S1)
  | some (.ex e ρ1, S1), _ => some (.ex e ρ1, S1)
@[simp] theorem e_seq {f g : SM} {ρ : Env} {S : Store} : fSeq f g ρ S = kSeq (f ρ S) g := by
  unfold fSeq kSeq
  cases f ρ S with
  | none => rfl
  | some p => obtain ⟨fl, S1⟩ := p; cases fl <;> rfl
@[simp] theorem kSeq_nx {ρ : Env} {S : Store} {f : SM} : kSeq (some (.nx ρ, S)) f = f ρ S := id rfl
@[simp] theorem kSeq_rt {d : D} {S : Store} {f : SM} : kSeq (some (.rt d, S)) f = some (.rt d, S) := id rfl
@[simp] theorem e_next {ρ : Env} {S : Store} : fNext ρ S = some (.nx ρ, S) := id rfl
def kIf : YB → SM → SM → Env → YF
  | some (.ok true, S), f, _, ρ => f ρ S
  | some (.ok false, S), _, g, ρ => g ρ S
  | some (.ex e, S), _, _, ρ => some (.ex e ρ, S)
  | none, _, _, _ => none
@[simp] theorem e_if {t : TM} {f g : SM} {ρ : Env} {S : Store} : fIf t f g ρ S = kIf (t ρ S) f g ρ := by
  unfold fIf
  cases t ρ S with
  | none => rfl
  | some p => obtain ⟨r, S1⟩ := p; cases r with
    | ex e => rfl
    | ok b => cases b <;> rfl
@[simp] theorem kIf_t {ρ : Env} {S : Store} {f g : SM} : kIf (some (.ok true, S)) f g ρ = f ρ S := id rfl
@[simp] theorem kIf_f {ρ : Env} {S : Store} {f g : SM} : kIf (some (.ok false, S)) f g ρ = g ρ S := id rfl
def kRet (ρ : Env) (r : YD) : YF := sbd r ρ fun d S1 => some (.rt d, S1)
@[simp] theorem e_ret {g : EM} {ρ : Env} {S : Store} : fRet g ρ S = kRet ρ (g ρ S) := id rfl
@[simp] theorem kRet_ok {ρ : Env} {S : Store} {d : D} : kRet ρ (some (.ok d, S)) = some (.rt d, S) := id rfl
def kDrop (ρ : Env) (r : YD) : YF := sbd r ρ fun d S1 => some (.nx ρ, S1)
@[simp] theorem e_drop {g : EM} {ρ : Env} {S : Store} : fDrop g ρ S = kDrop ρ (g ρ S) := id rfl
@[simp] theorem kDrop_ok {ρ : Env} {S : Store} {d : D} : kDrop ρ (some (.ok d, S)) = some (.nx ρ, S) := id rfl
def kSet (i : Nat) (ρ : Env) (r : YD) : YF := sbd r ρ fun d S1 => some (.nx (ρ.set i (some d)), S1)
@[simp] theorem e_set {i : Nat} {g : EM} {ρ : Env} {S : Store} : fSet i g ρ S = kSet i ρ (g ρ S) := id rfl
@[simp] theorem kSet_ok {i : Nat} {ρ : Env} {S : Store} {d : D} : kSet i ρ (some (.ok d, S)) = some (.nx (ρ.set i (some d)), S) := id rfl
def kAsg2 (ρ : Env) (r : Option (Rs Env × Store)) : YF := sbd r ρ fun ρ' S2 => some (.nx ρ', S2)
def kAsg (ρ : Env) (f : TGM) (r : YD) : YF := sbd r ρ fun d S1 => kAsg2 ρ (f d ρ S1)
@[simp] theorem e_asg {g : EM} {f : TGM} {ρ : Env} {S : Store} : fAsg g f ρ S = kAsg ρ f (g ρ S) := id rfl
@[simp] theorem kAsg_ok {f : TGM} {ρ : Env} {S : Store} {d : D} : kAsg ρ f (some (.ok d, S)) = kAsg2 ρ (f d ρ S) := id rfl
@[simp] theorem kAsg2_ok {ρ ρ' : Env} {S : Store} : kAsg2 ρ (some (.ok ρ', S)) = some (.nx ρ', S) := id rfl
def kPar (i j : Nat) (ρ : Env) (r : YL) : YF := sbd r ρ fun ds S1 => match ds with
  | [x, y] => some (.nx ((ρ.set i (some x)).set j (some y)), S1)
  | _ => none
@[simp] theorem e_par {i j : Nat} {h : AM} {ρ : Env} {S : Store} : fPar i j h ρ S = kPar i j ρ (h ρ S) := id rfl
@[simp] theorem kPar_ok {i j : Nat} {ρ : Env} {S : Store} {x y : D} : kPar i j ρ (some (.ok [x, y], S)) = some (.nx ((ρ.set i (some x)).set j (some y)), S) := id rfl
/-- expressions -/
def kVar (o : Option (Option D)) (S : Store) : YD := match o with
  | some (some d) => some (.ok d, S)
  | _ => none
@[simp] theorem e_var {i : Nat} {ρ : Env} {S : Store} : gVar i ρ S = kVar (ρ[i]?) S := id rfl
@[simp] theorem kVar_ok {d : D} {S : Store} : kVar (some (some d)) S = some (.ok d, S) := id rfl
@[simp] theorem e_c {d : D} {ρ : Env} {S : Store} : gC d ρ S = some (.ok d, S) := id rfl
@[simp] theorem e_okM {d : D} {S : Store} : okM (some (d, S)) = some (.ok d, S) := id rfl
def k2b (r : YD) (op : D → D → Store → Option (D × Store)) (x : D) : YD := bd r fun y S2 => okM (op x y S2)
def k2 (r : YD) (op : D → D → Store → Option (D × Store)) (gb : EM) (ρ : Env) : YD := bd r fun x S1 => k2b (gb ρ S1) op x
@[simp] theorem e_2 {op : D → D → Store → Option (D × Store)} {ga gb : EM} {ρ : Env} {S : Store} : g2 op ga gb ρ S = k2 (ga ρ S) op gb ρ := id rfl
@[simp] theorem k2_ok {op : D → D → Store → Option (D × Store)} {gb : EM} {ρ : Env} {S : Store} {x : D} : k2 (some (.ok x, S)) op gb ρ = k2b (gb ρ S) op x := id rfl
@[simp] theorem k2b_ok {op : D → D → Store → Option (D × Store)} {S : Store} {x y : D} : k2b (some (.ok y, S)) op x = okM (op x y S) := id rfl
def k1 (r : YD) (op : D → Store → Option (D × Store)) : YD := bd r fun x S1 => okM (op x S1)
@[simp] theorem e_1 {op : D → Store → Option (D × Store)} {ga : EM} {ρ : Env} {S : Store} : g1 op ga ρ S = k1 (ga ρ S) op := id rfl
@[simp] theorem k1_ok {op : D → Store → Option (D × Store)} {S : Store} {x : D} : k1 (some (.ok x, S)) op = okM (op x S) := id rfl
def kB (r : YD) : YB := bd r fun x S1 => match x with
  | .bl b => some (.ok b, S1)
  | _ => none
@[simp] theorem e_b {g : EM} {ρ : Env} {S : Store} : gB g ρ S = kB (g ρ S) := id rfl
@[simp] theorem kB_ok {b : Bool} {S : Store} : kB (some (.ok (.bl b), S)) = some (.ok b, S) := id rfl
def kIfE : YB → EM → EM → Env → YD
  | some (.ok true, S), f, _, ρ => f ρ S
  | some (.ok false, S), _, g, ρ => g ρ S
  | some (.ex e, S), _, _, ρ => some (.ex e, S)
  | none, _, _, _ => none
@[simp] theorem e_ifE {t : TM} {f g : EM} {ρ : Env} {S : Store} : gIf t f g ρ S = kIfE (t ρ S) f g ρ := by
  unfold gIf
  cases t ρ S with
  | none => rfl
  | some p => obtain ⟨r, S1⟩ := p; cases r with
    | ex e => rfl
    | ok b => cases b <;> rfl
@[simp] theorem kIfE_t {ρ : Env} {S : Store} {f g : EM} : kIfE (some (.ok true, S)) f g ρ = f ρ S := id rfl
@[simp] theorem kIfE_f {ρ : Env} {S : Store} {f g : EM} : kIfE (some (.ok false, S)) f g ρ = g ρ S := id rfl
def kAnd : YB → TM → Env → YB
  | some (.ok true, S), f, ρ => f ρ S
  | some (.ok false, S), _, ρ => some (.ok false, S)
  | some (.ex e, S), _, ρ => some (.ex e, S)
  | none, _, _ => none
@[simp] theorem e_and {t f : TM} {ρ : Env} {S : Store} : gAndT t f ρ S = kAnd (t ρ S) f ρ := by
  unfold gAndT
  cases t ρ S with
  | none => rfl
  | some p => obtain ⟨r, S1⟩ := p; cases r with
    | ex e => rfl
    | ok b => cases b <;> rfl
@[simp] theorem kAnd_t {ρ : Env} {S : Store} {f : TM} : kAnd (some (.ok true, S)) f ρ = f ρ S := id rfl
@[simp] theorem kAnd_f {ρ : Env} {S : Store} {f : TM} : kAnd (some (.ok false, S)) f ρ = some (.ok false, S) := id rfl
def kOr : YB → TM → Env → YB
  | some (.ok true, S), _, ρ => some (.ok true, S)
  | some (.ok false, S), f, ρ => f ρ S
  | some (.ex e, S), _, ρ => some (.ex e, S)
  | none, _, _ => none
@[simp] theorem e_or {t f : TM} {ρ : Env} {S : Store} : gOrT t f ρ S = kOr (t ρ S) f ρ := by
  unfold gOrT
  cases t ρ S with
  | none => rfl
  | some p => obtain ⟨r, S1⟩ := p; cases r with
    | ex e => rfl
    | ok b => cases b <;> rfl
@[simp] theorem kOr_t {ρ : Env} {S : Store} {f : TM} : kOr (some (.ok true, S)) f ρ = some (.ok true, S) := id rfl
@[simp] theorem kOr_f {ρ : Env} {S : Store} {f : TM} : kOr (some (.ok false, S)) f ρ = f ρ S := id rfl
def kNot (r : YB) : YB := bd r fun b S1 => some (.ok (!b), S1)
@[simp] theorem e_not {t : TM} {ρ : Env} {S : Store} : gNotT t ρ S = kNot (t ρ S) := id rfl
@[simp] theorem kNot_ok {b : Bool} {S : Store} : kNot (some (.ok b, S)) = some (.ok (!b), S) := id rfl
@[simp] theorem e_nil {ρ : Env} {S : Store} : aNil ρ S = some (.ok [], S) := id rfl
def kA2 (x : D) (r : YL) : YL := bd r fun xs S2 => some (.ok (x :: xs), S2)
def kA (r : YD) (h : AM) (ρ : Env) : YL := bd r fun x S1 => kA2 x (h ρ S1)
@[simp] theorem e_cons {g : EM} {h : AM} {ρ : Env} {S : Store} : aCons g h ρ S = kA (g ρ S) h ρ := id rfl
@[simp] theorem kA_ok {h : AM} {ρ : Env} {S : Store} {x : D} : kA (some (.ok x, S)) h ρ = kA2 x (h ρ S) := id rfl
@[simp] theorem kA2_ok {S : Store} {x : D} {xs : List D} : kA2 x (some (.ok xs, S)) = some (.ok (x :: xs), S) := id rfl
def kTup (r : YL) : YD := bd r fun xs S1 => if xs.length ≤ sizeLine then some (.ok (.tup xs), S1) else none
@[simp] theorem e_tup {h : AM} {ρ : Env} {S : Store} : gTup h ρ S = kTup (h ρ S) := id rfl
@[simp] theorem kTup_ok {xs : List D} {S : Store} : kTup (some (.ok xs, S)) = if xs.length ≤ 16777216 then some (.ok (.tup xs), S) else none := id rfl
def kLst (bx : Bool) (r : YL) : YD := bd r fun xs S1 => if xs.length ≤ sizeLine then okM (some (mkL bx xs S1)) else none
@[simp] theorem e_lst {bx : Bool} {h : AM} {ρ : Env} {S : Store} : gLst bx h ρ S = kLst bx (h ρ S) := id rfl
@[simp] theorem kLst_ok {bx : Bool} {xs : List D} {S : Store} : kLst bx (some (.ok xs, S)) = if xs.length ≤ 16777216 then okM (some (mkL bx xs S)) else none := id rfl
@[simp] theorem e_mkF {xs : List D} {S : Store} : mkL false xs S = (.lst xs, S) := id rfl
@[simp] theorem e_mkT {xs : List D} {S : Store} : mkL true xs S = (.box S.length, S ++ [.lst xs]) := id rfl
def kCall (ar : Nat) (sem : FnS) (r : YL) : YD := bd r fun xs S1 => if xs.length = ar then sem xs S1 else none
@[simp] theorem e_call {ar : Nat} {sem : FnS} {h : AM} {ρ : Env} {S : Store} : gCall ar sem h ρ S = kCall ar sem (h ρ S) := id rfl
@[simp] theorem kCall_ok {ar : Nat} {sem : FnS} {xs : List D} {S : Store} : kCall ar sem (some (.ok xs, S)) = if xs.length = ar then sem xs S else none := id rfl
def kCB (op : List D → Store → Option (D × Store)) (r : YL) : YD := bd r fun xs S1 => okM (op xs S1)
@[simp] theorem e_cb {op : List D → Store → Option (D × Store)} {h : AM} {ρ : Env} {S : Store} : gCB op h ρ S = kCB op (h ρ S) := id rfl
@[simp] theorem kCB_ok {op : List D → Store → Option (D × Store)} {xs : List D} {S : Store} : kCB op (some (.ok xs, S)) = okM (op xs S) := id rfl
def kMt2 (op : D → List D → Store → Option (D × Store)) (x : D) (r : YL) : YD := bd r fun xs S2 => okM (op x xs S2)
def kMt (t : Ty) (op : D → List D → Store → Option (D × Store)) (r : YD) (h : AM) (ρ : Env) : YD := bd r fun x S1 => if tyD S1 t x = true then kMt2 op x (h ρ S1) else none
@[simp] theorem e_mt {t : Ty} {op : D → List D → Store → Option (D × Store)} {go : EM} {h : AM} {ρ : Env} {S : Store} : gMt t op go h ρ S = kMt t op (go ρ S) h ρ := id rfl
@[simp] theorem kMt_ok {t : Ty} {op : D → List D → Store → Option (D × Store)} {x : D} {h : AM} {ρ : Env} {S : Store} : kMt t op (some (.ok x, S)) h ρ = if tyD S t x = true then kMt2 op x (h ρ S) else none := id rfl
@[simp] theorem kMt2_ok {op : D → List D → Store → Option (D × Store)} {x : D} {xs : List D} {S : Store} : kMt2 op x (some (.ok xs, S)) = okM (op x xs S) := id rfl
@[simp] theorem e_tyS {S : Store} {z : Str} : tyD S .str (.str z) = true := id rfl
/-- slices -/
abbrev YO := Option (Rs (Option Int) × Store)
@[simp] theorem e_pNo {ρ : Env} {S : Store} : pNo ρ S = some (.ok none, S) := id rfl
def kSo (r : YD) : YO := bd r fun x S1 => match x with
  | .int i => some (.ok (some i), S1)
  | _ => none
@[simp] theorem e_pSo {g : EM} {ρ : Env} {S : Store} : pSo g ρ S = kSo (g ρ S) := id rfl
@[simp] theorem kSo_ok {i : Int} {S : Store} : kSo (some (.ok (.int i), S)) = some (.ok (some i), S) := id rfl
def kSl3 (bx : Bool) (x : D) (l : Option Int) (r : YO) : YD := bd r fun h S3 => okM (oSl bx x l h S3)
def kSl2 (bx : Bool) (x : D) (r : YO) (ph : Env → M (Option Int)) (ρ : Env) : YD := bd r fun l S2 => kSl3 bx x l (ph ρ S2)
def kSl (bx : Bool) (r : YD) (pl ph : Env → M (Option Int)) (ρ : Env) : YD := bd r fun x S1 => kSl2 bx x (pl ρ S1) ph ρ
@[simp] theorem e_sl {bx : Bool} {g : EM} {pl ph : Env → M (Option Int)} {ρ : Env} {S : Store} : gSl bx g pl ph ρ S = kSl bx (g ρ S) pl ph ρ := id rfl
@[simp] theorem kSl_ok {bx : Bool} {x : D} {pl ph : Env → M (Option Int)} {ρ : Env} {S : Store} : kSl bx (some (.ok x, S)) pl ph ρ = kSl2 bx x (pl ρ S) ph ρ := id rfl
@[simp] theorem kSl2_ok {bx : Bool} {x : D} {l : Option Int} {ph : Env → M (Option Int)} {ρ : Env} {S : Store} : kSl2 bx x (some (.ok l, S)) ph ρ = kSl3 bx x l (ph ρ S) := id rfl
@[simp] theorem kSl3_ok {bx : Bool} {x : D} {l h : Option Int} {S : Store} : kSl3 bx x l (some (.ok h, S)) = okM (oSl bx x l h S) := id rfl
/-- walks -/
abbrev YK := Option (Rs Wk × Store)
def kIt (r : YD) : YK := bd r fun d S1 => match d with
  | .str x => some (.ok (wkC (strWk x)), S1)
  | _ => (match sqA S1 d with
    | some _ => some (.ok (wkQ d), S1)
    | none => none)
@[simp] theorem e_it {g : EM} {ρ : Env} {S : Store} : gIt g ρ S = kIt (g ρ S) := id rfl
@[simp] theorem kIt_tup {xs : List D} {S : Store} : kIt (some (.ok (.tup xs), S)) = some (.ok (wkC xs), S) := id rfl
@[simp] theorem kIt_lst {xs : List D} {S : Store} : kIt (some (.ok (.lst xs), S)) = some (.ok (wkC xs), S) := id rfl
@[simp] theorem kIt_wlst {xs : List D} {S : Store} : kIt (some (.ok (.wlst xs), S)) = some (.ok (wkC xs), S) := id rfl
@[simp] theorem kIt_str {x : Str} {S : Store} : kIt (some (.ok (.str x), S)) = some (.ok (wkC (strWk x)), S) := id rfl
noncomputable def kFor (r : YK) (tg : TGM) (f : SM) (ρ : Env) : YF := sbd r ρ fun wk S1 => fForW wk tg f ρ S1
@[simp] theorem e_for {g : Env → M Wk} {tg : TGM} {f : SM} {ρ : Env} {S : Store} : fFor g tg f ρ S = kFor (g ρ S) tg f ρ := id rfl
@[simp] theorem kFor_ok {wk : Wk} {tg : TGM} {f : SM} {ρ : Env} {S : Store} : kFor (some (.ok wk, S)) tg f ρ = fForW wk tg f ρ S := id rfl
def kLc2 (bx : Bool) : Option (List D × Store) → YD
  | some (acc, S2) => okM (some (mkL bx acc S2))
  | none => none
noncomputable def kLc (bx : Bool) (r : YK) (ns : List Nat) (pf : D → Store → Option (List D × Store)) (t : TM) (el : EM) (ρ0 : Env) : YD := bd r fun wk S1 => kLc2 bx (lcW wk ns pf t el ρ0 [] S1)
@[simp] theorem e_lc {bx : Bool} {g : Env → M Wk} {ns own : List Nat} {pf : D → Store → Option (List D × Store)} {t : TM} {el : EM} {ρ : Env} {S : Store} : gLc bx g ns own pf t el ρ S = kLc bx (g ρ S) ns pf t el (wipeA ρ own) := by
  unfold gLc kLc
  congr 1
@[simp] theorem kLc_ok {bx : Bool} {wk : Wk} {ns : List Nat} {pf : D → Store → Option (List D × Store)} {t : TM} {el : EM} {ρ : Env} {S : Store} : kLc bx (some (.ok wk, S)) ns pf t el ρ = kLc2 bx (lcW wk ns pf t el ρ [] S) := id rfl
@[simp] theorem kLc2_ok {bx : Bool} {xs : List D} {S : Store} : kLc2 bx (some (xs, S)) = okM (some (mkL bx xs S)) := id rfl
/-- f-strings -/
def kFmt (r : YD) : YD := bd r fun x S1 => match fmtD x with
  | some y => some (.ok (.str y), S1)
  | none => none
@[simp] theorem e_fmt {g : EM} {ρ : Env} {S : Store} : gFmt g ρ S = kFmt (g ρ S) := id rfl
@[simp] theorem kFmt_str {y : Str} {S : Store} : kFmt (some (.ok (.str y), S)) = if y.length ≤ 16777216 then some (.ok (.str y), S) else none := by
  show (match (if y.length ≤ sizeLine then some y else none) with
    | some y => (some (Rs.ok (D.str y), S) : YD)
    | none => none) = _
  by_cases q : y.length ≤ sizeLine
  · rw [if_pos q, if_pos (show y.length ≤ 16777216 from q)]
  · rw [if_neg q, if_neg (show ¬ y.length ≤ 16777216 from q)]
def kJs (r : YD) (gs : List EM) (acc : Str) (ρ : Env) : YD := bd r fun x S1 => match x with
  | .str y => if (acc ++ y).length ≤ sizeLine then jsD gs (acc ++ y) ρ S1 else none
  | _ => none
@[simp] theorem e_js0 {acc : Str} {ρ : Env} {S : Store} : jsD [] acc ρ S = some (.ok (.str acc), S) := id rfl
@[simp] theorem e_js {g : EM} {gs : List EM} {acc : Str} {ρ : Env} {S : Store} : jsD (g :: gs) acc ρ S = kJs (g ρ S) gs acc ρ := id rfl
@[simp] theorem kJs_ok {y : Str} {gs : List EM} {acc : Str} {ρ : Env} {S : Store} : kJs (some (.ok (.str y), S)) gs acc ρ = if (acc ++ y).length ≤ 16777216 then jsD gs (acc ++ y) ρ S else none := id rfl
def kTG2 (tb : List (Str × Int)) (x : D) (r : YD) : YD := bd r fun y S2 => match x, y with
  | .str z, .int n => some (.ok (.int ((tb.lookup z).getD n)), S2)
  | _, _ => none
def kTG (tb : List (Str × Int)) (r : YD) (gb : EM) (ρ : Env) : YD := bd r fun x S1 => kTG2 tb x (gb ρ S1)
@[simp] theorem e_tget {tb : List (Str × Int)} {ga gb : EM} {ρ : Env} {S : Store} : gTGet tb ga gb ρ S = kTG tb (ga ρ S) gb ρ := id rfl
@[simp] theorem kTG_ok {tb : List (Str × Int)} {x : D} {gb : EM} {ρ : Env} {S : Store} : kTG tb (some (.ok x, S)) gb ρ = kTG2 tb x (gb ρ S) := id rfl
@[simp] theorem kTG2_ok {tb : List (Str × Int)} {z : Str} {n : Int} {S : Store} : kTG2 tb (.str z) (some (.ok (.int n), S)) = some (.ok (.int ((tb.lookup z).getD n)), S) := id rfl
/-- targets -/
@[simp] theorem e_pat {ns : List Nat} {f : D → Store → Option (List D × Store)} {d : D} {ρ : Env} {S : Store} : gPat ns f d ρ S = match f d S with
  | some (ds, S') => some (.ok (setA ρ ns ds), S')
  | none => none := rfl
@[simp] theorem e_tgN {d : D} {S : Store} : tgN d S = some ([d], S) := id rfl
@[simp] theorem e_tgNil {S : Store} : tgNil [] S = some ([], S) := id rfl
@[simp] theorem e_yes {ρ : Env} {S : Store} : gYes ρ S = some (.ok true, S) := id rfl
@[simp] theorem e_endN {ρ : Env} {S : Store} : endD (some (.nx ρ, S)) = some (.ok .non, S) := id rfl
@[simp] theorem e_endR {d : D} {S : Store} : endD (some (.rt d, S)) = some (.ok d, S) := id rfl
theorem e_sem {ar n : Nat} {f : SM} {ds : List D} {S : Store} (h : ds.length = ar) : semD ar n f ds S = endD (f (startD n ds) S) := if_pos h
@[simp] theorem e_sem0 {n : Nat} {f : SM} {S : Store} : semD 0 n f [] S = endD (f (startD n []) S) := id rfl
@[simp] theorem e_sem1 {n : Nat} {f : SM} {a : D} {S : Store} : semD 1 n f [a] S = endD (f (startD n [a]) S) := id rfl
@[simp] theorem e_sem2 {n : Nat} {f : SM} {a b : D} {S : Store} : semD 2 n f [a, b] S = endD (f (startD n [a, b]) S) := id rfl
@[simp] theorem e_sem3 {n : Nat} {f : SM} {a b c : D} {S : Store} : semD 3 n f [a, b, c] S = endD (f (startD n [a, b, c]) S) := id rfl
@[simp] theorem e_sem4 {n : Nat} {f : SM} {a b c d : D} {S : Store} : semD 4 n f [a, b, c, d] S = endD (f (startD n [a, b, c, d]) S) := id rfl
/-- a comprehension over fixed items -/
theorem lc_map {i : Nat} {el : EM} {ρ0 : Env} {S : Store} (f : D → D) : ∀ (xs acc : List D), (∀ d ∈ xs, el (ρ0.set i (some d)) S = some (.ok (f d), S)) → acc.length + xs.length ≤ sizeLine → lcL [i] tgN gYes el ρ0 xs acc S = some (acc ++ xs.map f, S)
  | [], acc, _, _ => by simp [lcL]
  | d :: r, acc, h, hl => by
    have h1 := h d (List.mem_cons_self ..)
    have h2 : acc.length < sizeLine := by rw [List.length_cons] at hl; omega
    show (match el (ρ0.set i (some d)) S with
      | some (.ok y, S3) => if acc.length < sizeLine then lcL [i] tgN gYes el ρ0 r (acc ++ [y]) S3 else none
      | _ => none) = _
    rw [h1]
    show (if acc.length < sizeLine then lcL [i] tgN gYes el ρ0 r (acc ++ [f d]) S else none) = _
    rw [if_pos h2, lc_map f r (acc ++ [f d]) (fun d hd => h d (List.mem_cons_of_mem _ hd)) (by rw [List.length_append, List.length_singleton]; rw [List.length_cons] at hl; omega)]
    simp
theorem lcW_map {i : Nat} {el : EM} {ρ0 : Env} {S : Store} {xs : List D} (f : D → D) (h : ∀ d ∈ xs, el (ρ0.set i (some d)) S = some (.ok (f d), S)) (hl : xs.length ≤ sizeLine) : lcW (wkC xs) [i] tgN gYes el ρ0 [] S = some (xs.map f, S) :=
  lcW_C (xs := xs) (wkC xs) [i] tgN gYes el ρ0 (fun _ _ => rfl) (by rw [lc_map f xs [] h (by simpa using hl)]; rfl)
end Dm
set_option linter.all false
set_option maxRecDepth 100000
set_option maxHeartbeats 2000000
namespace Dm
open PySem L2

/-! ### operations at known data -/
section
variable {S : Store} {i j : Int} {a b : Str} {x y : D} {xs ys : List D}
@[simp] theorem v_eqI : oEq (.int i) (.int j) S = some (.bl (decide (i = j)), S) := id rfl
@[simp] theorem v_eqS : oEq (.str a) (.str b) S = some (.bl (decide (a = b)), S) := id rfl
@[simp] theorem v_neI : oNe (.int i) (.int j) S = some (.bl (!decide (i = j)), S) := id rfl
@[simp] theorem v_neS : oNe (.str a) (.str b) S = some (.bl (!decide (a = b)), S) := id rfl
@[simp] theorem v_isN : oIsN .non .non S = some (.bl true, S) := id rfl
@[simp] theorem v_isN1 : oIsN (.int i) .non S = some (.bl false, S) := id rfl
@[simp] theorem v_isN2 : oIsN (.str a) .non S = some (.bl false, S) := id rfl
@[simp] theorem v_isN3 : oIsN (.tup xs) .non S = some (.bl false, S) := id rfl
@[simp] theorem v_isN4 : oIsN (.lst xs) .non S = some (.bl false, S) := id rfl
@[simp] theorem v_isN5 {k : Bool} : oIsN (.bl k) .non S = some (.bl false, S) := id rfl
@[simp] theorem v_addI {bx : Bool} : oAdd bx (.int i) (.int j) S = some (.int (i + j), S) := id rfl
theorem orO_s {o1 o2 : D → D → Store → Option (D × Store)} {p : D × Store} (h : o1 x y S = some p) : orO o1 o2 x y S = some p := by
  unfold orO
  rw [h]
theorem orO_n {o1 o2 : D → D → Store → Option (D × Store)} (h : o1 x y S = none) : orO o1 o2 x y S = o2 x y S := by
  unfold orO
  rw [h]
theorem v_addS {bx : Bool} (h : a.length + b.length ≤ 16777216) : oAdd bx (.str a) (.str b) S = some (.str (a ++ b), S) :=
  orO_s ((orO_n rfl).trans (if_pos (show a.length + b.length ≤ sizeLine from h)))
theorem v_addL (h : xs.length + ys.length ≤ 16777216) : oAdd false (.lst xs) (.lst ys) S = some (.lst (xs ++ ys), S) := by
  have e : oCat false (.lst xs) (.lst ys) S = some (.lst (xs ++ ys), S) := by
    simp [oCat, sqW, show sizeLine = 16777216 from rfl, h]
  exact (orO_n rfl).trans (orO_s e)
theorem v_addT {bx : Bool} (h : xs.length + ys.length ≤ 16777216) : oAdd bx (.tup xs) (.tup ys) S = some (.tup (xs ++ ys), S) := by
  have e : oCatT (.tup xs) (.tup ys) S = some (.tup (xs ++ ys), S) := by
    simp [oCatT, sqT, show sizeLine = 16777216 from rfl, h]
    split
    · rename_i q; simp [q]
    · split
      · rename_i q; simp [q]
      · rfl
  exact (orO_n rfl).trans ((orO_n rfl).trans e)
@[simp] theorem v_sub : oSub (.int i) (.int j) S = some (.int (i - j), S) := id rfl
@[simp] theorem v_neg : oNeg (.int i) S = some (.int (-i), S) := id rfl
@[simp] theorem v_gt : oGt (.int i) (.int j) S = some (.bl (decide (j < i)), S) := id rfl
@[simp] theorem v_lt : oLt (.int i) (.int j) S = some (.bl (decide (i < j)), S) := id rfl
@[simp] theorem v_le : oLe (.int i) (.int j) S = some (.bl (decide (i ≤ j)), S) := id rfl
@[simp] theorem v_ge : oGe (.int i) (.int j) S = some (.bl (decide (j ≤ i)), S) := id rfl
@[simp] theorem v_xor : oXor (.int i) (.int j) S = some (.int (Builtin.bitXor i j), S) := id rfl
theorem v_ixT {d : D} (h : atI xs i = some d) : oIx (.tup xs) (.int i) S = some (d, S) := by
  have e : oIxT (.tup xs) (.int i) S = some (d, S) := by
    simp [oIxT, sqT, h]
  exact orO_s ((orO_n rfl).trans (orO_s e))
theorem v_ixL {d : D} (h : atI xs i = some d) : oIx (.lst xs) (.int i) S = some (d, S) := by
  have e : oIxL (.lst xs) (.int i) S = some (d, S) := by
    simp [oIxL, sqL, h]
  exact orO_s (orO_s e)
theorem atI_0 {α : Type} {d : α} {r : List α} : atI (d :: r) 0 = some d := by
  unfold atI ixN
  rw [if_pos (by omega), if_pos (by rw [List.length_cons]; omega)]
  rfl
theorem atI_1 {α : Type} {c d : α} {r : List α} : atI (c :: d :: r) 1 = some d := by
  unfold atI ixN
  rw [if_pos (by omega), if_pos (by rw [List.length_cons, List.length_cons]; omega)]
  rfl
theorem atI_2 {α : Type} {b c d : α} {r : List α} : atI (b :: c :: d :: r) 2 = some d := by
  unfold atI ixN
  rw [if_pos (by omega), if_pos (by rw [List.length_cons, List.length_cons, List.length_cons]; omega)]
  rfl
@[simp] theorem v_ixT0 : oIx (.tup (x :: xs)) (.int 0) S = some (x, S) := v_ixT atI_0
@[simp] theorem v_ixT1 {z : D} : oIx (.tup (z :: x :: xs)) (.int 1) S = some (x, S) := v_ixT atI_1
@[simp] theorem v_ixT2 {z w : D} : oIx (.tup (w :: z :: x :: xs)) (.int 2) S = some (x, S) := v_ixT atI_2
@[simp] theorem v_ixL0 : oIx (.lst (x :: xs)) (.int 0) S = some (x, S) := v_ixL atI_0
@[simp] theorem v_ixL1 {z : D} : oIx (.lst (z :: x :: xs)) (.int 1) S = some (x, S) := v_ixL atI_1
@[simp] theorem v_ixL2 {z w : D} : oIx (.lst (w :: z :: x :: xs)) (.int 2) S = some (x, S) := v_ixL atI_2
@[simp] theorem v_lenT : oLen [.tup xs] S = some (.int xs.length, S) := id rfl
@[simp] theorem v_lenL : oLen [.lst xs] S = some (.int xs.length, S) := id rfl
@[simp] theorem v_lenS : oLen [.str a] S = some (.int a.length, S) := id rfl
theorem v_str (h : i.natAbs.log2 < 1920 ∧ (strI i).length ≤ 16777216) : oStr [.int i] S = some (.str (strI i), S) := if_pos h
@[simp] theorem v_sqAT : sqA S (.tup xs) = some xs := id rfl
@[simp] theorem v_sqAL : sqA S (.lst xs) = some xs := id rfl
@[simp] theorem v_sqAW : sqA S (.wlst xs) = some xs := id rfl
@[simp] theorem v_tupL : oTuple [.lst xs] S = some (.tup xs, S) := id rfl
@[simp] theorem v_tupT : oTuple [.tup xs] S = some (.tup xs, S) := id rfl
theorem asS_map (zs : List Str) : asS (zs.map D.str) = some zs := by
  induction zs with
  | nil => rfl
  | cons z r ih => show (asS (r.map D.str)).map (z :: ·) = _; rw [ih]; rfl
theorem v_join {zs : List Str} (h : (zs.map (·.length)).sum + zs.length * a.length ≤ 16777216) (h2 : (Txt.join a zs).length ≤ 16777216) : oJoin (.str a) [.lst (zs.map D.str)] S = some (.str (Txt.join a zs), S) := by
  show ((sqA S (D.lst (zs.map D.str))).bind asS).bind _ = _
  rw [v_sqAL, Option.bind_some, asS_map, Option.bind_some]
  exact if_pos ⟨h, h2⟩
theorem eqV_str : eqV (.str a) (.str b) = decide (a = b) := by
  show (a == b) = decide (a = b)
  by_cases h : a = b <;> simp [h]
@[simp] theorem v_in2 {b' c : Str} : oInA (.str a) (.tup [.str b', .str c]) S = some (.bl (decide (b' = a) || decide (c = a)), S) := by
  simp [oInA, orO, oIn, inD, flD, flL, inV, eqV_str]
@[simp] theorem v_notIn2 {b' c : Str} : oNotInA (.str a) (.tup [.str b', .str c]) S = some (.bl (!(decide (b' = a) || decide (c = a))), S) := by
  simp [oNotInA, orO, oIn, inD, flD, flL, inV, eqV_str]
@[simp] theorem v_sl12 : oSl false (.tup [x, y]) (some 1) none S = some (.tup [y], S) := id rfl
@[simp] theorem v_sl13 {z : D} : oSl false (.tup [x, y, z]) (some 1) none S = some (.tup [y, z], S) := id rfl
@[simp] theorem v_sl23 {z : D} : oSl false (.tup [x, y, z]) (some 2) none S = some (.tup [z], S) := id rfl
@[simp] theorem v_sl24 {z u : D} : oSl false (.tup [x, y, z, u]) (some 2) none S = some (.tup [z, u], S) := id rfl
def kTr (r : YD) : YB := bd r fun x S1 => match truD S1 x with
  | some b => some (.ok b, S1)
  | none => none
@[simp] theorem e_tr {g : EM} {ρ : Env} : gTr g ρ S = kTr (g ρ S) := id rfl
@[simp] theorem kTr_bl {k : Bool} : kTr (some (.ok (.bl k), S)) = some (.ok k, S) := id rfl
def kAndV (r : YD) (h : EM) (ρ : Env) : YD := bd r fun x S1 => match truD S1 x with
  | some true => h ρ S1
  | some false => some (.ok x, S1)
  | none => none
@[simp] theorem e_andV {g h : EM} {ρ : Env} : gAndV g h ρ S = kAndV (g ρ S) h ρ := id rfl
@[simp] theorem kAndV_t {h : EM} {ρ : Env} : kAndV (some (.ok (.bl true), S)) h ρ = h ρ S := id rfl
@[simp] theorem kAndV_f {h : EM} {ρ : Env} : kAndV (some (.ok (.bl false), S)) h ρ = some (.ok (.bl false), S) := id rfl
def kNotV (r : YD) : YD := bd r fun x S1 => match truD S1 x with
  | some b => some (.ok (.bl (!b)), S1)
  | none => none
@[simp] theorem e_notV {g : EM} {ρ : Env} : gNotV g ρ S = kNotV (g ρ S) := by
  unfold gNotV kNotV
  congr 1
@[simp] theorem kNotV_bl {k : Bool} : kNotV (some (.ok (.bl k), S)) = some (.ok (.bl (!k)), S) := id rfl
def kIsi (T : String) (r : YD) : YD := bd r fun x S1 => match (nmD S1 x).bind fun n => kitB n T with
  | some r => some (.ok (.bl r), S1)
  | none => none
@[simp] theorem e_isi {T : String} {g : EM} {ρ : Env} : gIsi T g ρ S = kIsi T (g ρ S) := id rfl
theorem kIsi_ok {T n : String} {k : Bool} (h : nmD S x = some n) (h2 : kitB n T = some k) : kIsi T (some (.ok x, S)) = some (.ok (.bl k), S) := by
  show (match (nmD S x).bind fun n => kitB n T with
  | some r => (some (Rs.ok (D.bl r), S) : YD)
  | none => none) = _
  rw [h, Option.bind_some, h2]
def kZip (st : Bool) (r : YL) : YK := bd r fun ds S1 => match ds with
  | [x, y] => if (sqA S1 x).isSome = true ∧ (sqA S1 y).isSome = true then some (.ok (wkZ st x y), S1) else none
  | _ => none
@[simp] theorem e_zip {st : Bool} {h : AM} {ρ : Env} : gZip st h ρ S = kZip st (h ρ S) := id rfl
@[simp] theorem kZip_tt {st : Bool} : kZip st (some (.ok [.tup xs, .tup ys], S)) = some (.ok (wkZ st (.tup xs) (.tup ys)), S) := id rfl
/-- two tuples of one length, side by side -/
theorem wkZ_eq {st : Bool} (h : xs.length = ys.length) (i : Nat) (S : Store) : wkZ st (.tup xs) (.tup ys) i S = some ((xs.zip ys).map fun p => D.tup [p.1, p.2])[i]? := by
  show (match xs[i]?, ys[i]? with
    | some a, some b => some (some (D.tup [a, b]))
    | none, none => some none
    | _, _ => if st = true then none else some none) = _
  rw [List.getElem?_map]
  by_cases q : i < xs.length
  · rw [List.getElem?_eq_getElem q, List.getElem?_eq_getElem (h ▸ q), List.getElem?_eq_getElem (by rw [List.length_zip, ← h, Nat.min_self]; exact q)]
    simp
  · rw [List.getElem?_eq_none (by omega), List.getElem?_eq_none (by omega), List.getElem?_eq_none (by rw [List.length_zip]; omega)]
    rfl
end
/-! ### for over fixed items -/
theorem fForN_back {xs : List D} {tg : TGM} {f : SM} : ∀ (n i : Nat) ρ S a, fForN (wkC xs) tg f n i ρ S = some a → fForL tg f (xs.drop i) ρ S = some a
  | 0, i, ρ, S, a, h => by cases h
  | n + 1, i, ρ, S, a, h => by
    unfold fForN at h
    have hw : wkC xs i S = some xs[i]? := rfl
    rw [hw] at h
    by_cases q : i < xs.length
    · rw [List.getElem?_eq_getElem q] at h
      rw [List.drop_eq_getElem_cons q]
      unfold fForL
      simp only at h
      cases e : tg xs[i] ρ S with
      | none => rw [e] at h; cases h
      | some p =>
        obtain ⟨rr, S1⟩ := p
        rw [e] at h
        cases rr with
        | ex x => exact h
        | ok b =>
          rw [sbd_ok] at h ⊢
          cases ef : f b S1 with
          | none => rw [ef] at h; cases h
          | some q =>
            obtain ⟨fl3, S3⟩ := q
            rw [ef] at h
            cases fl3 with
            | nx ρ3 => exact fForN_back n _ _ _ _ h
            | ct ρ3 => exact fForN_back n _ _ _ _ h
            | bk ρ3 => exact h
            | rt d => exact h
            | ex x ρ3 => exact h
    · rw [List.getElem?_eq_none (by omega)] at h
      rw [List.drop_eq_nil_of_le (by omega)]
      exact h
@[simp] theorem e_forW {xs : List D} {tg : TGM} {f : SM} {ρ : Env} {S : Store} : fForW (wkC xs) tg f ρ S = fForL tg f xs ρ S := by
  cases e : fForL tg f xs ρ S with
  | some a => exact fForW_C (fun _ _ => rfl) e
  | none =>
    cases e2 : fForW (wkC xs) tg f ρ S with
    | none => rfl
    | some a =>
      obtain ⟨n, hn⟩ := lim_some e2
      have := fForN_back n 0 ρ S a hn
      rw [List.drop_zero, e] at this
      cases this
def kLoop : YF → SM → YF
  | some (.nx ρ, S), k => k ρ S
  | some (.ct ρ, S), k => k ρ S
  | some (.bk ρ, S), _ => some (.nx ρ, S)
  | some (.rt d, S), _ => some (.rt d, S)
  | some (.ex e ρ, S), _ => some (.ex e ρ, S)
  | none, _ => none
def kForT (r : Option (Rs Env × Store)) (f k : SM) (ρ : Env) : YF := sbd r ρ fun ρ1 S1 => kLoop (f ρ1 S1) k
@[simp] theorem e_forL0 {tg : TGM} {f : SM} {ρ : Env} {S : Store} : fForL tg f [] ρ S = some (.nx ρ, S) := id rfl
@[simp] theorem e_forL {tg : TGM} {f : SM} {d : D} {r : List D} {ρ : Env} {S : Store} : fForL tg f (d :: r) ρ S = kForT (tg d ρ S) f (fForL tg f r) ρ := by
  unfold kForT
  rw [fForL]
  dsimp only
  cases tg d ρ S with
  | none => rfl
  | some p =>
    obtain ⟨rr, S1⟩ := p
    cases rr with
    | ex x => rfl
    | ok b =>
      rw [sbd_ok, sbd_ok]
      cases f b S1 with
      | none => rfl
      | some q => obtain ⟨fl, S2⟩ := q; cases fl <;> rfl
@[simp] theorem kForT_ok {f k : SM} {ρ ρ1 : Env} {S : Store} : kForT (some (.ok ρ1, S)) f k ρ = kLoop (f ρ1 S) k := id rfl
@[simp] theorem kLoop_nx {k : SM} {ρ : Env} {S : Store} : kLoop (some (.nx ρ, S)) k = k ρ S := id rfl
@[simp] theorem kLoop_ct {k : SM} {ρ : Env} {S : Store} : kLoop (some (.ct ρ, S)) k = k ρ S := id rfl
@[simp] theorem kLoop_bk {k : SM} {ρ : Env} {S : Store} : kLoop (some (.bk ρ, S)) k = some (.nx ρ, S) := id rfl
@[simp] theorem kLoop_rt {k : SM} {d : D} {S : Store} : kLoop (some (.rt d, S)) k = some (.rt d, S) := id rfl
/-! ### o[i] = v -/
def kSub3 (ρ : Env) : Option Store → Option (Rs Env × Store)
  | some S3 => some (.ok ρ, S3)
  | none => none
def kSub2 (r : YD) (o v : D) (ρ : Env) : Option (Rs Env × Store) := bd r fun i S2 => kSub3 ρ (oSet S2 o i v)
def kSub (r : YD) (gi : EM) (v : D) (ρ : Env) : Option (Rs Env × Store) := bd r fun o S1 => kSub2 (gi ρ S1) o v ρ
@[simp] theorem e_gsub {go gi : EM} {v : D} {ρ : Env} {S : Store} : Dm.gSub go gi v ρ S = kSub (go ρ S) gi v ρ := by
  unfold Dm.gSub kSub
  congr 1
@[simp] theorem kSub_ok {gi : EM} {o v : D} {ρ : Env} {S : Store} : kSub (some (.ok o, S)) gi v ρ = kSub2 (gi ρ S) o v ρ := id rfl
@[simp] theorem kSub2_ok {i o v : D} {ρ : Env} {S : Store} : kSub2 (some (.ok i, S)) o v ρ = kSub3 ρ (oSet S o i v) := id rfl
@[simp] theorem kSub3_ok {ρ : Env} {S : Store} : kSub3 ρ (some S) = some (.ok ρ, S) := id rfl
end Dm
set_option linter.all false
set_option maxRecDepth 100000
set_option maxHeartbeats 2000000
namespace Dm
open PySem L2

/-! ### comprehensions over fixed items, both ways -/
section
variable (wk : Wk) (ns : List Nat) (pf : D → Store → Option (List D × Store)) (t : TM) (el : EM) (ρ0 : Env)
theorem lcN_back {xs : List D} (hw : ∀ i S, wk i S = some xs[i]?) : ∀ (n i : Nat) acc S a, lcN wk ns pf t el ρ0 n i acc S = some a → lcL ns pf t el ρ0 (xs.drop i) acc S = some a
  | 0, _, _, _, _, h => by cases h
  | n + 1, i, acc, S, a, h => by
    unfold lcN at h
    rw [hw] at h
    by_cases q : i < xs.length
    · rw [List.getElem?_eq_getElem q] at h
      rw [List.drop_eq_getElem_cons q]
      unfold lcL
      simp only at h
      cases e2 : pf xs[i] S with
      | none => rw [e2] at h; cases h
      | some p =>
        obtain ⟨ds, S1⟩ := p
        rw [e2] at h
        simp only at h ⊢
        cases e3 : t (setA ρ0 ns ds) S1 with
        | none => rw [e3] at h; cases h
        | some p =>
          obtain ⟨r, S2⟩ := p
          rw [e3] at h
          cases r with
          | ex x => cases h
          | ok b =>
            cases b with
            | false => exact lcN_back hw n _ _ _ _ h
            | true =>
              simp only at h ⊢
              cases e4 : el (setA ρ0 ns ds) S2 with
              | none => rw [e4] at h; cases h
              | some p =>
                obtain ⟨r, S3⟩ := p
                rw [e4] at h
                cases r with
                | ex x => cases h
                | ok y =>
                  simp only at h ⊢
                  split at h
                  · rename_i q2
                    rw [if_pos q2]
                    exact lcN_back hw n _ _ _ _ h
                  · cases h
    · rw [List.getElem?_eq_none (by omega)] at h
      rw [List.drop_eq_nil_of_le (by omega)]
      exact h
end
section
variable {ns : List Nat} {pf : D → Store → Option (List D × Store)} {t : TM} {el : EM} {ρ0 : Env} {S : Store} {acc xs : List D}
@[simp] theorem e_lcW : lcW (wkC xs) ns pf t el ρ0 acc S = lcL ns pf t el ρ0 xs acc S := by
  cases e : lcL ns pf t el ρ0 xs acc S with
  | some a => exact lcW_C _ _ _ _ _ _ (fun _ _ => rfl) e
  | none =>
    cases e2 : lcW (wkC xs) ns pf t el ρ0 acc S with
    | none => rfl
    | some a =>
      obtain ⟨n, hn⟩ := lim_some e2
      have := lcN_back (wkC xs) ns pf t el ρ0 (xs := xs) (fun _ _ => rfl) n 0 acc S a hn
      rw [List.drop_zero, e] at this
      cases this
/-! one turn of a comprehension, step by step -/
def kLcA (acc : List D) (r : YD) (k : List D → Store → Option (List D × Store)) : Option (List D × Store) := match r with
  | some (.ok y, S3) => if acc.length < sizeLine then k (acc ++ [y]) S3 else none
  | _ => none
def kLcT (acc : List D) (r : YB) (el : EM) (ρ : Env) (k : List D → Store → Option (List D × Store)) : Option (List D × Store) := match r with
  | some (.ok true, S2) => kLcA acc (el ρ S2) k
  | some (.ok false, S2) => k acc S2
  | _ => none
def kLcP (acc : List D) (r : Option (List D × Store)) (ns : List Nat) (t : TM) (el : EM) (ρ0 : Env) (k : List D → Store → Option (List D × Store)) : Option (List D × Store) := match r with
  | none => none
  | some (ds, S1) => kLcT acc (t (setA ρ0 ns ds) S1) el (setA ρ0 ns ds) k
@[simp] theorem e_lcL0 : lcL ns pf t el ρ0 [] acc S = some (acc, S) := id rfl
theorem e_lcL {d : D} {r : List D} : lcL ns pf t el ρ0 (d :: r) acc S = kLcP acc (pf d S) ns t el ρ0 (lcL ns pf t el ρ0 r) := id rfl
variable {k : List D → Store → Option (List D × Store)} {y : D} {ρ : Env} {ds : List D}
@[simp] theorem kLcP_ok : kLcP acc (some (ds, S)) ns t el ρ0 k = kLcT acc (t (setA ρ0 ns ds) S) el (setA ρ0 ns ds) k := id rfl
@[simp] theorem kLcT_t : kLcT acc (some (.ok true, S)) el ρ k = kLcA acc (el ρ S) k := id rfl
@[simp] theorem kLcT_f : kLcT acc (some (.ok false, S)) el ρ k = k acc S := id rfl
@[simp] theorem kLcA_ok : kLcA acc (some (.ok y, S)) k = if acc.length < 16777216 then k (acc ++ [y]) S else none := id rfl
/-- an invariant: what a turn does to the store and what it hands on; d ↦ its item -/
theorem lc_inv {I : Nat → List D → Store → Prop} {bad : Nat} (hb : xs.length ≤ bad) (hz : bad ≤ 16777216)
    (step : ∀ (i : Nat) d acc S, xs[i]? = some d → I i acc S → acc.length ≤ i → ∃ ds S1, pf d S = some (ds, S1) ∧ ∃ S2, ((t (setA ρ0 ns ds) S1 = some (.ok false, S2) ∧ I (i + 1) acc S2) ∨ (t (setA ρ0 ns ds) S1 = some (.ok true, S2) ∧ ∃ y S3, el (setA ρ0 ns ds) S2 = some (.ok y, S3) ∧ I (i + 1) (acc ++ [y]) S3)))
    (h0 : I 0 [] S) : ∃ acc S', lcL ns pf t el ρ0 xs [] S = some (acc, S') ∧ I xs.length acc S' ∧ acc.length ≤ xs.length := by
  have key : ∀ (r : List D) (i : Nat) acc S, xs.drop i = r → i ≤ xs.length → I i acc S → acc.length ≤ i → ∃ acc' S', lcL ns pf t el ρ0 r acc S = some (acc', S') ∧ I xs.length acc' S' ∧ acc'.length ≤ xs.length := by
    intro r
    induction r with
    | nil =>
      intro i acc S hd hi h hl
      have : i = xs.length := Nat.le_antisymm hi (List.drop_eq_nil_iff.mp hd)
      subst this
      exact ⟨acc, S, rfl, h, hl⟩
    | cons d r ih =>
      intro i acc S hd hi h hl
      have hi2 : i < xs.length := by
        rcases Nat.lt_or_ge i xs.length with q | q
        · exact q
        · rw [List.drop_eq_nil_of_le q] at hd; cases hd
      have he : xs[i]? = some d := by
        have := congrArg List.head? hd
        rw [List.head?_drop] at this
        exact this
      have hr : xs.drop (i + 1) = r := by
        have := congrArg List.tail hd
        rw [List.tail_drop] at this
        exact this
      obtain ⟨ds, S1, e1, S2, h2⟩ := step i d acc S he h hl
      rw [e_lcL, e1, kLcP_ok]
      rcases h2 with ⟨e2, h3⟩ | ⟨e2, y, S3, e3, h3⟩
      · rw [e2, kLcT_f]
        exact ih (i + 1) acc S2 hr hi2 h3 (by omega)
      · rw [e2, kLcT_t, e3, kLcA_ok, if_pos (by omega)]
        exact ih (i + 1) _ S3 hr hi2 h3 (by rw [List.length_append, List.length_singleton]; omega)
  exact key xs 0 [] S rfl (Nat.zero_le _) h0 (Nat.le_refl 0)
/-- without a test, the store as it was: each item's value -/
theorem lc_mapG (f : D → D) {xs : List D} : ∀ (acc : List D), (∀ d ∈ xs, ∃ ds, pf d S = some (ds, S) ∧ t (setA ρ0 ns ds) S = some (.ok true, S) ∧ el (setA ρ0 ns ds) S = some (.ok (f d), S)) → acc.length + xs.length ≤ 16777216 → lcL ns pf t el ρ0 xs acc S = some (acc ++ xs.map f, S) := by
  induction xs with
  | nil => intro acc _ _; simp
  | cons d r ih =>
    intro acc h hl
    obtain ⟨ds, e1, e2, e3⟩ := h d (List.mem_cons_self ..)
    rw [List.length_cons] at hl
    rw [e_lcL, e1, kLcP_ok, e2, kLcT_t, e3, kLcA_ok, if_pos (by omega), ih _ (fun d hd => h d (List.mem_cons_of_mem _ hd)) (by rw [List.length_append, List.length_singleton]; omega)]
    simp
/-- with a test, the store as it was -/
theorem lc_filG (p : D → Bool) (f : D → D) {xs : List D} : ∀ (acc : List D), (∀ d ∈ xs, ∃ ds, pf d S = some (ds, S) ∧ t (setA ρ0 ns ds) S = some (.ok (p d), S) ∧ (p d = true → el (setA ρ0 ns ds) S = some (.ok (f d), S))) → acc.length + xs.length ≤ 16777216 → lcL ns pf t el ρ0 xs acc S = some (acc ++ (xs.filter p).map f, S) := by
  induction xs with
  | nil => intro acc _ _; simp
  | cons d r ih =>
    intro acc h hl
    obtain ⟨ds, e1, e2, e3⟩ := h d (List.mem_cons_self ..)
    rw [List.length_cons] at hl
    rw [e_lcL, e1, kLcP_ok, e2]
    cases q : p d with
    | false =>
      rw [kLcT_f, ih _ (fun d hd => h d (List.mem_cons_of_mem _ hd)) (by omega)]
      simp [q]
    | true =>
      rw [kLcT_t, e3 q, kLcA_ok, if_pos (by omega), ih _ (fun d hd => h d (List.mem_cons_of_mem _ hd)) (by rw [List.length_append, List.length_singleton]; omega)]
      simp [q]
end
/-! ### ranges, enumerate, zip as fixed items -/
def rngD (lo : Int) (n : Nat) : List D := (List.range n).map fun i => D.int (lo + (i : Nat))
theorem wkR_eq (lo : Int) (n : Nat) : wkR lo n = wkC (rngD lo n) := by
  funext i S
  show some (if i < n then some (D.int (lo + i)) else none) = some (rngD lo n)[i]?
  unfold rngD
  rw [List.getElem?_map]
  by_cases q : i < n
  · rw [if_pos q, List.getElem?_range q]; rfl
  · rw [if_neg q, List.getElem?_eq_none (by rw [List.length_range]; omega)]; rfl
theorem rngD_len (lo : Int) (n : Nat) : (rngD lo n).length = n := by simp [rngD]
theorem rngD_get {lo : Int} {n i : Nat} {d : D} (h : (rngD lo n)[i]? = some d) : i < n ∧ d = .int (lo + i) := by
  unfold rngD at h
  rw [List.getElem?_map] at h
  by_cases q : i < n
  · rw [List.getElem?_range q] at h; cases h; exact ⟨q, rfl⟩
  · rw [List.getElem?_eq_none (by rw [List.length_range]; omega)] at h; cases h
def kRng1 (r : YL) : YK := bd r fun ds S1 => match ds with
  | [.int j] => if -(2 ^ 62) ≤ j ∧ j < 2 ^ 62 then some (.ok (wkR 0 j.toNat), S1) else none
  | _ => none
def kRng2 (r : YL) : YK := bd r fun ds S1 => match ds with
  | [.int i, .int j] => if -(2 ^ 62) ≤ i ∧ i < 2 ^ 62 ∧ -(2 ^ 62) ≤ j ∧ j < 2 ^ 62 then some (.ok (wkR i (j - i).toNat), S1) else none
  | _ => none
section
variable {h : AM} {ρ : Env} {S : Store} {i j : Int} {xs ys : List D} {x : D}
@[simp] theorem e_rng1 : gRng1 h ρ S = kRng1 (h ρ S) := by
  unfold gRng1 kRng1
  congr 1
@[simp] theorem e_rng2 : gRng2 h ρ S = kRng2 (h ρ S) := by
  unfold gRng2 kRng2
  congr 1
theorem kRng1_ok (q : -(2 ^ 62) ≤ j ∧ j < 2 ^ 62) : kRng1 (some (.ok [.int j], S)) = some (.ok (wkC (rngD 0 j.toNat)), S) := by
  show (if -(2 ^ 62) ≤ j ∧ j < 2 ^ 62 then some (Rs.ok (wkR 0 j.toNat), S) else none) = _
  rw [if_pos q, wkR_eq]
theorem kRng2_ok (q : -(2 ^ 62) ≤ i ∧ i < 2 ^ 62 ∧ -(2 ^ 62) ≤ j ∧ j < 2 ^ 62) : kRng2 (some (.ok [.int i, .int j], S)) = some (.ok (wkC (rngD i (j - i).toNat)), S) := by
  show (if -(2 ^ 62) ≤ i ∧ i < 2 ^ 62 ∧ -(2 ^ 62) ≤ j ∧ j < 2 ^ 62 then some (Rs.ok (wkR i (j - i).toNat), S) else none) = _
  rw [if_pos q, wkR_eq]
def enumD (n : Nat) : List D → List D
  | [] => []
  | d :: r => .tup [.int n, d] :: enumD (n + 1) r
theorem enumD_len : ∀ (n : Nat) (xs : List D), (enumD n xs).length = xs.length
  | _, [] => rfl
  | n, d :: r => by show (enumD (n + 1) r).length + 1 = r.length + 1; rw [enumD_len]
theorem enumD_get : ∀ (n : Nat) (xs : List D) (i : Nat), (enumD n xs)[i]? = (xs[i]?).map fun d => D.tup [.int ((n + i : Nat) : Int), d]
  | _, [], i => by simp [enumD]
  | n, d :: r, 0 => by simp [enumD]
  | n, d :: r, i + 1 => by
    show (enumD (n + 1) r)[i]? = (r[i]?).map _
    rw [enumD_get (n + 1) r i]
    have : n + 1 + i = n + (i + 1) := by omega
    rw [this]
end
/-- walks that agree up to the end -/
theorem fForN_congr {wk wk' : Wk} {n0 : Nat} {tg : TGM} {f : SM} (hw : ∀ i S, i ≤ n0 → wk i S = wk' i S) (he : ∀ S, wk' n0 S = some none) : ∀ (n i : Nat) ρ S, i ≤ n0 → fForN wk tg f n i ρ S = fForN wk' tg f n i ρ S
  | 0, i, ρ, S, _ => rfl
  | n + 1, i, ρ, S, hi => by
    unfold fForN
    rw [hw i S hi]
    cases e : wk' i S with
    | none => rfl
    | some o =>
      cases o with
      | none => rfl
      | some d =>
        have h2 : i + 1 ≤ n0 := by
          rcases Nat.lt_or_ge i n0 with q | q
          · exact q
          · have : i = n0 := by omega
            subst this
            rw [he S] at e; cases e
        dsimp only
        congr 1
        funext ρ1 S1
        cases f ρ1 S1 with
        | none => rfl
        | some p =>
          obtain ⟨fl, S2⟩ := p
          cases fl with
          | nx ρ2 => exact fForN_congr hw he n (i + 1) ρ2 S2 h2
          | ct ρ2 => exact fForN_congr hw he n (i + 1) ρ2 S2 h2
          | bk ρ2 => rfl
          | rt d => rfl
          | ex x ρ2 => rfl
theorem fForW_congr {wk wk' : Wk} {n0 : Nat} {tg : TGM} {f : SM} (hw : ∀ i S, i ≤ n0 → wk i S = wk' i S) (he : ∀ S, wk' n0 S = some none) : fForW wk tg f = fForW wk' tg f := by
  funext ρ S
  show lim (fun n => fForN wk tg f n 0 ρ S) = lim (fun n => fForN wk' tg f n 0 ρ S)
  congr 1
  funext n
  exact fForN_congr hw he n 0 ρ S (Nat.zero_le _)
theorem lcN_congr {wk wk' : Wk} {n0 : Nat} {ns : List Nat} {pf : D → Store → Option (List D × Store)} {t : TM} {el : EM} {ρ0 : Env} (hw : ∀ i S, i ≤ n0 → wk i S = wk' i S) (he : ∀ S, wk' n0 S = some none) : ∀ (n i : Nat) acc S, i ≤ n0 → lcN wk ns pf t el ρ0 n i acc S = lcN wk' ns pf t el ρ0 n i acc S
  | 0, i, acc, S, _ => rfl
  | n + 1, i, acc, S, hi => by
    unfold lcN
    rw [hw i S hi]
    cases e : wk' i S with
    | none => rfl
    | some o =>
      cases o with
      | none => rfl
      | some d =>
        have h2 : i + 1 ≤ n0 := by
          rcases Nat.lt_or_ge i n0 with q | q
          · exact q
          · have : i = n0 := by omega
            subst this
            rw [he S] at e; cases e
        dsimp only
        cases pf d S with
        | none => rfl
        | some p =>
          obtain ⟨ds, S1⟩ := p
          dsimp only
          cases t (setA ρ0 ns ds) S1 with
          | none => rfl
          | some p =>
            obtain ⟨r, S2⟩ := p
            cases r with
            | ex x => rfl
            | ok b =>
              cases b with
              | false => exact lcN_congr hw he n (i + 1) acc S2 h2
              | true =>
                dsimp only
                cases el (setA ρ0 ns ds) S2 with
                | none => rfl
                | some p =>
                  obtain ⟨r, S3⟩ := p
                  cases r with
                  | ex x => rfl
                  | ok y =>
                    dsimp only
                    split
                    · exact lcN_congr hw he n (i + 1) _ S3 h2
                    · rfl
theorem lcW_congr {wk wk' : Wk} {n0 : Nat} {ns : List Nat} {pf : D → Store → Option (List D × Store)} {t : TM} {el : EM} {ρ0 : Env} (hw : ∀ i S, i ≤ n0 → wk i S = wk' i S) (he : ∀ S, wk' n0 S = some none) : lcW wk ns pf t el ρ0 = lcW wk' ns pf t el ρ0 := by
  funext acc S
  show lim (fun n => lcN wk ns pf t el ρ0 n 0 acc S) = lim (fun n => lcN wk' ns pf t el ρ0 n 0 acc S)
  congr 1
  funext n
  exact lcN_congr hw he n 0 acc S (Nat.zero_le _)
theorem strWk_len (y : Str) : (strWk y).length = y.cps.size := by simp [strWk]
theorem wkE_str (y : Str) (i : Nat) (S : Store) (hi : i ≤ y.cps.size) : wkE (.str y) i S = wkC (enumD 0 (strWk y)) i S := by
  show (if i < y.cps.size then (match y.cps[i]? with
      | some c => some (some (D.tup [.int (i : Nat), .str ⟨#[c]⟩]))
      | none => none) else if i = y.cps.size then some none else none) = some (enumD 0 (strWk y))[i]?
  rw [enumD_get]
  by_cases q : i < y.cps.size
  · rw [if_pos q]
    have e : y.cps[i]? = some y.cps[i] := Array.getElem?_eq_getElem q
    rw [e]
    have e2 : y.cps.toList[i]? = some y.cps[i] := by rw [Array.getElem?_toList, e]
    unfold strWk
    rw [List.getElem?_map, e2]
    simp
  · have : i = y.cps.size := by omega
    rw [if_neg q, if_pos this, List.getElem?_eq_none (by rw [strWk_len]; omega)]
    rfl
theorem wkE_end (y : Str) (S : Store) : wkC (enumD 0 (strWk y)) y.cps.size S = some none := by
  show some (enumD 0 (strWk y))[y.cps.size]? = _
  rw [enumD_get, List.getElem?_eq_none (by rw [strWk_len]; omega)]
  rfl
@[simp] theorem e_forE {y : Str} {tg : TGM} {f : SM} : fForW (wkE (.str y)) tg f = fForW (wkC (enumD 0 (strWk y))) tg f := fForW_congr (wkE_str y) (wkE_end y)
@[simp] theorem e_lcE {y : Str} {ns : List Nat} {pf : D → Store → Option (List D × Store)} {t : TM} {el : EM} {ρ0 : Env} : lcW (wkE (.str y)) ns pf t el ρ0 = lcW (wkC (enumD 0 (strWk y))) ns pf t el ρ0 := lcW_congr (wkE_str y) (wkE_end y)
section
variable {h : AM} {ρ : Env} {S : Store} {i j : Int} {xs ys : List D} {x : D}
theorem wkE_seq (hs : ∀ S, sqA S x = some xs) (hx : ∀ y, x ≠ .str y) (i : Nat) (S : Store) (hi : i ≤ xs.length) : wkE x i S = wkC (enumD 0 xs) i S := by
  have e : wkE x i S = (match sqA S x with
    | some xs => (match xs[i]? with
      | some d => some (some (D.tup [.int (i : Nat), d]))
      | none => if i = xs.length then some none else none)
    | none => none) := by
    cases x <;> first | rfl | exact absurd rfl (hx _)
  rw [e, hs S]
  show _ = some (enumD 0 xs)[i]?
  rw [enumD_get]
  by_cases q : i < xs.length
  · rw [List.getElem?_eq_getElem q]
    simp [List.getElem?_eq_getElem q]
  · have : i = xs.length := by omega
    subst this
    rw [List.getElem?_eq_none (Nat.le_refl _)]
    simp
theorem wkE_seqEnd (S : Store) : wkC (enumD 0 xs) xs.length S = some none := by
  show some (enumD 0 xs)[xs.length]? = _
  rw [enumD_get, List.getElem?_eq_none (Nat.le_refl _)]
  rfl
@[simp] theorem e_forET {tg : TGM} {f : SM} : fForW (wkE (.tup xs)) tg f = fForW (wkC (enumD 0 xs)) tg f := fForW_congr (wkE_seq (fun _ => rfl) (fun _ e => by cases e)) wkE_seqEnd
@[simp] theorem e_forEL {tg : TGM} {f : SM} : fForW (wkE (.lst xs)) tg f = fForW (wkC (enumD 0 xs)) tg f := fForW_congr (wkE_seq (fun _ => rfl) (fun _ e => by cases e)) wkE_seqEnd
@[simp] theorem e_lcET {ns : List Nat} {pf : D → Store → Option (List D × Store)} {t : TM} {el : EM} {ρ0 : Env} : lcW (wkE (.tup xs)) ns pf t el ρ0 = lcW (wkC (enumD 0 xs)) ns pf t el ρ0 := lcW_congr (wkE_seq (fun _ => rfl) (fun _ e => by cases e)) wkE_seqEnd
@[simp] theorem e_lcEL {ns : List Nat} {pf : D → Store → Option (List D × Store)} {t : TM} {el : EM} {ρ0 : Env} : lcW (wkE (.lst xs)) ns pf t el ρ0 = lcW (wkC (enumD 0 xs)) ns pf t el ρ0 := lcW_congr (wkE_seq (fun _ => rfl) (fun _ e => by cases e)) wkE_seqEnd
def kEnum (r : YL) : YK := bd r fun ds S1 => match ds with
  | [.str y] => some (.ok (wkE (.str y)), S1)
  | [x] => if (sqA S1 x).isSome = true then some (.ok (wkE x), S1) else none
  | _ => none
@[simp] theorem e_enum : gEnum h ρ S = kEnum (h ρ S) := id rfl
@[simp] theorem kEnum_s {y : Str} : kEnum (some (.ok [.str y], S)) = some (.ok (wkE (.str y)), S) := id rfl
@[simp] theorem kEnum_t : kEnum (some (.ok [.tup xs], S)) = some (.ok (wkE (.tup xs)), S) := id rfl
@[simp] theorem kEnum_l : kEnum (some (.ok [.lst xs], S)) = some (.ok (wkE (.lst xs)), S) := id rfl
end
/-! ### zip -/
def zipD (xs ys : List D) : List D := (xs.zip ys).map fun p => D.tup [p.1, p.2]
section
variable {st : Bool} {S : Store} {xs ys : List D} {x y : D}
theorem wkZ_fix (hx : ∀ S, sqA S x = some xs) (hy : ∀ S, sqA S y = some ys) (hl : st = false ∨ xs.length = ys.length) : wkZ st x y = wkC (zipD xs ys) := by
  funext i S
  show (match sqA S x, sqA S y with
  | some xs, some ys => (match xs[i]?, ys[i]? with
    | some a, some b => some (some (D.tup [a, b]))
    | none, none => some none
    | _, _ => if st = true then none else some none)
  | _, _ => none) = some (zipD xs ys)[i]?
  rw [hx S, hy S]
  unfold zipD
  rw [List.getElem?_map]
  show (match xs[i]?, ys[i]? with
    | some a, some b => some (some (D.tup [a, b]))
    | none, none => some none
    | _, _ => if st = true then none else some none) = _
  by_cases q : i < xs.length
  · by_cases q2 : i < ys.length
    · have : (xs.zip ys)[i]? = some (xs[i], ys[i]) := by
        rw [List.getElem?_eq_getElem (by rw [List.length_zip]; omega), List.getElem_zip]
      rw [List.getElem?_eq_getElem q, List.getElem?_eq_getElem q2, this]
      rfl
    · have e1 : (xs.zip ys)[i]? = none := List.getElem?_eq_none (by rw [List.length_zip]; omega)
      rw [List.getElem?_eq_getElem q, List.getElem?_eq_none (l := ys) (by omega), e1]
      rcases hl with e | e
      · subst e; rfl
      · omega
  · have e1 : (xs.zip ys)[i]? = none := List.getElem?_eq_none (by rw [List.length_zip]; omega)
    rw [List.getElem?_eq_none (l := xs) (by omega), e1]
    by_cases q2 : i < ys.length
    · rw [List.getElem?_eq_getElem q2]
      rcases hl with e | e
      · subst e; rfl
      · omega
    · rw [List.getElem?_eq_none (l := ys) (by omega)]
      rfl
@[simp] theorem wkZ_ftt : wkZ false (.tup xs) (.tup ys) = wkC (zipD xs ys) := wkZ_fix (fun _ => rfl) (fun _ => rfl) (.inl rfl)
@[simp] theorem wkZ_ftl : wkZ false (.tup xs) (.lst ys) = wkC (zipD xs ys) := wkZ_fix (fun _ => rfl) (fun _ => rfl) (.inl rfl)
@[simp] theorem wkZ_flt : wkZ false (.lst xs) (.tup ys) = wkC (zipD xs ys) := wkZ_fix (fun _ => rfl) (fun _ => rfl) (.inl rfl)
@[simp] theorem wkZ_fll : wkZ false (.lst xs) (.lst ys) = wkC (zipD xs ys) := wkZ_fix (fun _ => rfl) (fun _ => rfl) (.inl rfl)
theorem wkZ_t {x y : D} (hx : ∀ S, sqA S x = some xs) (hy : ∀ S, sqA S y = some ys) (hl : xs.length = ys.length) : wkZ true x y = wkC (zipD xs ys) := wkZ_fix hx hy (.inr hl)
theorem kZip_of {ds es : List D} (hx : sqA S x = some ds) (hy : sqA S y = some es) : kZip st (some (.ok [x, y], S)) = some (.ok (wkZ st x y), S) := by
  show (if (sqA S x).isSome = true ∧ (sqA S y).isSome = true then some (Rs.ok (wkZ st x y), S) else none) = _
  rw [hx, hy]
  rfl
@[simp] theorem kZip_lt : kZip st (some (.ok [.lst xs, .tup ys], S)) = some (.ok (wkZ st (.lst xs) (.tup ys)), S) := id rfl
@[simp] theorem kZip_tl : kZip st (some (.ok [.tup xs, .lst ys], S)) = some (.ok (wkZ st (.tup xs) (.lst ys)), S) := id rfl
@[simp] theorem kZip_ll : kZip st (some (.ok [.lst xs, .lst ys], S)) = some (.ok (wkZ st (.lst xs) (.lst ys)), S) := id rfl
end
/-! ### while: its equation, and by a measure -/
theorem fWhile_eq (t : TM) (f : SM) (ρ : Env) (S : Store) : fWhile t f ρ S = sbd (t ρ S) ρ fun b S1 => if b = true then kLoop (f ρ S1) (fWhile t f) else some (.nx ρ, S1) := by
  have e : ∀ n, fWhileN t f (n + 1) ρ S = sbd (t ρ S) ρ fun b S1 => if b = true then kLoop (f ρ S1) (fWhileN t f n) else some (.nx ρ, S1) := fun n => by
    show sbd (t ρ S) ρ _ = _
    congr 1
    funext b S1
    cases b with
    | false => rfl
    | true =>
      rw [if_pos rfl, if_pos rfl]
      cases f ρ S1 with
      | none => rfl
      | some p => obtain ⟨fl, S2⟩ := p; cases fl <;> rfl
  have up : ∀ n ρ S a, fWhileN t f n ρ S = some a → fWhile t f ρ S = some a := fun n ρ S a h => fWhile_of h
  cases q : t ρ S with
  | none =>
    cases q' : fWhile t f ρ S with
    | none => rfl
    | some a =>
      obtain ⟨n, hn⟩ := lim_some q'
      cases n with
      | zero => cases hn
      | succ n => rw [e, q] at hn; cases hn
  | some p =>
    obtain ⟨r, S1⟩ := p
    cases r with
    | ex x =>
      refine up 1 _ _ _ ?_
      rw [e, q]
      rfl
    | ok b =>
      cases b with
      | false => exact fWhile_end q
      | true =>
        rw [sbd_ok, if_pos rfl]
        cases q2 : f ρ S1 with
        | none =>
          cases q' : fWhile t f ρ S with
          | none => rfl
          | some a =>
            obtain ⟨n, hn⟩ := lim_some q'
            cases n with
            | zero => cases hn
            | succ n => rw [e, q, sbd_ok, if_pos rfl, q2] at hn; cases hn
        | some p =>
          obtain ⟨fl, S2⟩ := p
          cases fl with
          | nx ρ2 => exact fWhile_step q q2
          | rt d => exact fWhile_ret q q2
          | bk ρ2 => refine up 1 _ _ _ ?_; rw [e, q, sbd_ok, if_pos rfl, q2]; rfl
          | ex x ρ2 => refine up 1 _ _ _ ?_; rw [e, q, sbd_ok, if_pos rfl, q2]; rfl
          | ct ρ2 =>
            have e' : ∀ n, fWhileN t f (n + 1) ρ S = fWhileN t f n ρ2 S2 := fun n => by
              rw [e, q, sbd_ok, if_pos rfl, q2]; rfl
            show _ = fWhile t f ρ2 S2
            cases q3 : fWhile t f ρ2 S2 with
            | some a =>
              obtain ⟨n, hn⟩ := lim_some q3
              exact up (n + 1) _ _ _ ((e' n).trans hn)
            | none =>
              cases q' : fWhile t f ρ S with
              | none => rfl
              | some a =>
                obtain ⟨n, hn⟩ := lim_some q'
                cases n with
                | zero => cases hn
                | succ n => rw [e', ] at hn; rw [up n _ _ _ hn] at q3; cases q3
noncomputable def kWh (r : YB) (t : TM) (f : SM) (ρ : Env) : YF := sbd r ρ fun b S1 => if b = true then kLoop (f ρ S1) (fWhile t f) else some (.nx ρ, S1)
theorem e_while {t : TM} {f : SM} {ρ : Env} {S : Store} : fWhile t f ρ S = kWh (t ρ S) t f ρ := fWhile_eq t f ρ S
@[simp] theorem kWh_t {t : TM} {f : SM} {ρ : Env} {S : Store} : kWh (some (.ok true, S)) t f ρ = kLoop (f ρ S) (fWhile t f) := id rfl
@[simp] theorem kWh_f {t : TM} {f : SM} {ρ : Env} {S : Store} : kWh (some (.ok false, S)) t f ρ = some (.nx ρ, S) := id rfl
theorem while_inv {t : TM} {f : SM} {I : Nat → Env → Store → Prop} {J : Env → Store → Prop}
    (step : ∀ n ρ S, I n ρ S → ∃ b S1, t ρ S = some (.ok b, S1) ∧ ((b = false ∧ J ρ S1) ∨ (b = true ∧ ∃ ρ2 S2 m, (f ρ S1 = some (.nx ρ2, S2) ∨ f ρ S1 = some (.ct ρ2, S2)) ∧ m < n ∧ I m ρ2 S2))) :
    ∀ n ρ S, I n ρ S → ∃ ρ' S', fWhile t f ρ S = some (.nx ρ', S') ∧ J ρ' S' := by
  intro n
  induction n using Nat.strongRecOn with
  | ind n ih =>
    intro ρ S h
    obtain ⟨b, S1, e1, h2⟩ := step n ρ S h
    rw [e_while, e1]
    rcases h2 with ⟨eb, hj⟩ | ⟨eb, ρ2, S2, m, e2, hm, hi⟩
    · subst eb
      exact ⟨ρ, S1, rfl, hj⟩
    · subst eb
      rw [kWh_t]
      obtain ⟨ρ', S', e3, hj⟩ := ih m hm ρ2 S2 hi
      refine ⟨ρ', S', ?_, hj⟩
      rcases e2 with e2 | e2 <;> rw [e2] <;> exact e3
/-- a for over fixed items by an invariant -/
theorem for_inv {tg : TGM} {f : SM} {xs : List D} {I : Nat → Env → Store → Prop}
    (step : ∀ i d ρ S, xs[i]? = some d → I i ρ S → ∃ ρ1 S1, tg d ρ S = some (.ok ρ1, S1) ∧ ∃ ρ2 S2, (f ρ1 S1 = some (.nx ρ2, S2) ∨ f ρ1 S1 = some (.ct ρ2, S2)) ∧ I (i + 1) ρ2 S2)
    {ρ : Env} {S : Store} (h0 : I 0 ρ S) : ∃ ρ' S', fForL tg f xs ρ S = some (.nx ρ', S') ∧ I xs.length ρ' S' := by
  have key : ∀ (r : List D) (i : Nat) ρ S, xs.drop i = r → i ≤ xs.length → I i ρ S → ∃ ρ' S', fForL tg f r ρ S = some (.nx ρ', S') ∧ I xs.length ρ' S' := by
    intro r
    induction r with
    | nil =>
      intro i ρ S hd hi h
      have : i = xs.length := Nat.le_antisymm hi (List.drop_eq_nil_iff.mp hd)
      subst this
      exact ⟨ρ, S, rfl, h⟩
    | cons d r ih =>
      intro i ρ S hd hi h
      have hi2 : i < xs.length := by
        rcases Nat.lt_or_ge i xs.length with q | q
        · exact q
        · rw [List.drop_eq_nil_of_le q] at hd; cases hd
      have he : xs[i]? = some d := by
        have := congrArg List.head? hd
        rw [List.head?_drop] at this
        exact this
      have hr : xs.drop (i + 1) = r := by
        have := congrArg List.tail hd
        rw [List.tail_drop] at this
        exact this
      obtain ⟨ρ1, S1, e1, ρ2, S2, e2, h2⟩ := step i d ρ S he h
      obtain ⟨ρ', S', e3, h3⟩ := ih (i + 1) ρ2 S2 hr hi2 h2
      refine ⟨ρ', S', ?_, h3⟩
      rw [e_forL, e1, kForT_ok]
      rcases e2 with e2 | e2 <;> rw [e2] <;> exact e3
  exact key xs 0 ρ S rfl (Nat.zero_le _) h0
/-- a for that may end the function: with its value -/
theorem for_inv2 {tg : TGM} {f : SM} {xs : List D} {I : Nat → Env → Store → Prop} {J : D → Store → Prop}
    (step : ∀ i d ρ S, xs[i]? = some d → I i ρ S → ∃ ρ1 S1, tg d ρ S = some (.ok ρ1, S1) ∧ ((∃ ρ2 S2, (f ρ1 S1 = some (.nx ρ2, S2) ∨ f ρ1 S1 = some (.ct ρ2, S2)) ∧ I (i + 1) ρ2 S2) ∨ ∃ v S2, f ρ1 S1 = some (.rt v, S2) ∧ J v S2))
    {ρ : Env} {S : Store} (h0 : I 0 ρ S) : (∃ ρ' S', fForL tg f xs ρ S = some (.nx ρ', S') ∧ I xs.length ρ' S') ∨ ∃ v S', fForL tg f xs ρ S = some (.rt v, S') ∧ J v S' := by
  have key : ∀ (r : List D) (i : Nat) ρ S, xs.drop i = r → i ≤ xs.length → I i ρ S → (∃ ρ' S', fForL tg f r ρ S = some (.nx ρ', S') ∧ I xs.length ρ' S') ∨ ∃ v S', fForL tg f r ρ S = some (.rt v, S') ∧ J v S' := by
    intro r
    induction r with
    | nil =>
      intro i ρ S hd hi h
      have : i = xs.length := Nat.le_antisymm hi (List.drop_eq_nil_iff.mp hd)
      subst this
      exact .inl ⟨ρ, S, rfl, h⟩
    | cons d r ih =>
      intro i ρ S hd hi h
      have hi2 : i < xs.length := by
        rcases Nat.lt_or_ge i xs.length with q | q
        · exact q
        · rw [List.drop_eq_nil_of_le q] at hd; cases hd
      have he : xs[i]? = some d := by
        have := congrArg List.head? hd
        rw [List.head?_drop] at this
        exact this
      have hr : xs.drop (i + 1) = r := by
        have := congrArg List.tail hd
        rw [List.tail_drop] at this
        exact this
      obtain ⟨ρ1, S1, e1, h1⟩ := step i d ρ S he h
      rw [e_forL, e1, kForT_ok]
      rcases h1 with ⟨ρ2, S2, e2, h2⟩ | ⟨v, S2, e2, h2⟩
      · rcases ih (i + 1) ρ2 S2 hr hi2 h2 with ⟨ρ', S', e3, h3⟩ | ⟨v, S', e3, h3⟩
        · exact .inl ⟨ρ', S', by rcases e2 with e2 | e2 <;> rw [e2] <;> exact e3, h3⟩
        · exact .inr ⟨v, S', by rcases e2 with e2 | e2 <;> rw [e2] <;> exact e3, h3⟩
      · exact .inr ⟨v, S2, by rw [e2]; rfl, h2⟩
  exact key xs 0 ρ S rfl (Nat.zero_le _) h0
end Dm
set_option linter.all false
set_option maxRecDepth 100000
set_option maxHeartbeats 2000000
namespace Dm
open PySem L2

/-! ### equality of clean data: no truths within, texts of real signs -/
mutual
def clD : D → Bool
  | .non => true
  | .int _ => true
  | .str s => PyData.strOk s
  | .tup xs => clL xs
  | .lst xs => clL xs
  | _ => false
def clL : List D → Bool
  | [] => true
  | d :: r => clD d && clL r
end
mutual
def dpD : D → Nat
  | .tup xs => dpL xs + 1
  | .lst xs => dpL xs + 1
  | _ => 0
def dpL : List D → Nat
  | [] => 0
  | d :: r => max (dpD d) (dpL r)
end
mutual
theorem toPy_cl : ∀ {x : D}, clD x = true → ∃ p, toPy0 x = some p ∧ p.canLay0 = true ∧ p.depth = dpD x
  | .non, _ => ⟨.none, rfl, by simp [PyData.canLay0], by simp [PyData.depth, dpD]⟩
  | .int i, _ => ⟨.int i, rfl, by simp [PyData.canLay0], by simp [PyData.depth, dpD]⟩
  | .str s, h => ⟨.str s, rfl, by simpa [PyData.canLay0] using (show PyData.strOk s = true by simpa [clD] using h), by simp [PyData.depth, dpD]⟩
  | .tup xs, h => by
    obtain ⟨ps, e, h1, h2⟩ := toPyL_cl (xs := xs) (by simpa [clD] using h)
    exact ⟨.tuple ps, by rw [toPy0, e]; rfl, by simpa [PyData.canLay0] using h1, by simp [PyData.depth, dpD, h2]⟩
  | .lst xs, h => by
    obtain ⟨ps, e, h1, h2⟩ := toPyL_cl (xs := xs) (by simpa [clD] using h)
    exact ⟨.list ps, by rw [toPy0, e]; rfl, by simpa [PyData.canLay0] using h1, by simp [PyData.depth, dpD, h2]⟩
  | .bl _, h => by simp [clD] at h
  | .wtup _, h => by simp [clD] at h
  | .wlst _, h => by simp [clD] at h
  | .box _, h => by simp [clD] at h
  | .glb _, h => by simp [clD] at h
theorem toPyL_cl : ∀ {xs : List D}, clL xs = true → ∃ ps, toPyL xs = some ps ∧ PyData.canLayAll0 ps = true ∧ PyData.depthAll ps = dpL xs
  | [], _ => ⟨[], rfl, by simp [PyData.canLayAll0], by simp [PyData.depthAll, dpL]⟩
  | d :: r, h => by
    have h' : clD d = true ∧ clL r = true := by simpa [clL] using h
    obtain ⟨p, e1, h1, h2⟩ := toPy_cl h'.1
    obtain ⟨ps, e3, h3, h4⟩ := toPyL_cl h'.2
    exact ⟨p :: ps, by rw [toPyL, e1, e3], by simp [PyData.canLayAll0, h1, h3], by simp [PyData.depthAll, dpL, h2, h4]⟩
end
mutual
theorem eqv_cl : ∀ {x y : D} {p q : PyData}, clD x = true → clD y = true → toPy0 x = some p → toPy0 y = some q → (PyData.eqv p q = true ↔ x = y)
  | .non, y, p, q, hx, hy, ep, eq => by
    cases ep
    cases y with
    | non => cases eq; simp [PyData.eqv]
    | int j => cases eq; simp [PyData.eqv]
    | str s => cases eq; simp [PyData.eqv]
    | tup ys => obtain ⟨ps, e, _, _⟩ := toPyL_cl (xs := ys) (by simpa [clD] using hy); rw [toPy0, e] at eq; cases eq; simp [PyData.eqv]
    | lst ys => obtain ⟨ps, e, _, _⟩ := toPyL_cl (xs := ys) (by simpa [clD] using hy); rw [toPy0, e] at eq; cases eq; simp [PyData.eqv]
    | _ => simp [clD] at hy
  | .int i, y, p, q, hx, hy, ep, eq => by
    cases ep
    cases y with
    | non => cases eq; simp [PyData.eqv]
    | int j => cases eq; simp [PyData.eqv]
    | str s => cases eq; simp [PyData.eqv]
    | tup ys => obtain ⟨ps, e, _, _⟩ := toPyL_cl (xs := ys) (by simpa [clD] using hy); rw [toPy0, e] at eq; cases eq; simp [PyData.eqv]
    | lst ys => obtain ⟨ps, e, _, _⟩ := toPyL_cl (xs := ys) (by simpa [clD] using hy); rw [toPy0, e] at eq; cases eq; simp [PyData.eqv]
    | _ => simp [clD] at hy
  | .str i, y, p, q, hx, hy, ep, eq => by
    cases ep
    cases y with
    | non => cases eq; simp [PyData.eqv]
    | int j => cases eq; simp [PyData.eqv]
    | str s => cases eq; simp [PyData.eqv]
    | tup ys => obtain ⟨ps, e, _, _⟩ := toPyL_cl (xs := ys) (by simpa [clD] using hy); rw [toPy0, e] at eq; cases eq; simp [PyData.eqv]
    | lst ys => obtain ⟨ps, e, _, _⟩ := toPyL_cl (xs := ys) (by simpa [clD] using hy); rw [toPy0, e] at eq; cases eq; simp [PyData.eqv]
    | _ => simp [clD] at hy
  | .tup xs, y, p, q, hx, hy, ep, eq => by
    have hx' : clL xs = true := by simpa [clD] using hx
    obtain ⟨ps, e, _, _⟩ := toPyL_cl hx'
    rw [toPy0, e] at ep; cases ep
    cases y with
    | non => cases eq; simp [PyData.eqv]
    | int j => cases eq; simp [PyData.eqv]
    | str s => cases eq; simp [PyData.eqv]
    | tup ys =>
      have hy' : clL ys = true := by simpa [clD] using hy
      obtain ⟨qs, e2, _, _⟩ := toPyL_cl hy'
      rw [toPy0, e2] at eq; cases eq
      have := eqvL_cl hx' hy' e e2
      simp [PyData.eqv, this]
    | lst ys => obtain ⟨ps, e, _, _⟩ := toPyL_cl (xs := ys) (by simpa [clD] using hy); rw [toPy0, e] at eq; cases eq; simp [PyData.eqv]
    | _ => simp [clD] at hy
  | .lst xs, y, p, q, hx, hy, ep, eq => by
    have hx' : clL xs = true := by simpa [clD] using hx
    obtain ⟨ps, e, _, _⟩ := toPyL_cl hx'
    rw [toPy0, e] at ep; cases ep
    cases y with
    | non => cases eq; simp [PyData.eqv]
    | int j => cases eq; simp [PyData.eqv]
    | str s => cases eq; simp [PyData.eqv]
    | lst ys =>
      have hy' : clL ys = true := by simpa [clD] using hy
      obtain ⟨qs, e2, _, _⟩ := toPyL_cl hy'
      rw [toPy0, e2] at eq; cases eq
      have := eqvL_cl hx' hy' e e2
      simp [PyData.eqv, this]
    | tup ys => obtain ⟨ps, e, _, _⟩ := toPyL_cl (xs := ys) (by simpa [clD] using hy); rw [toPy0, e] at eq; cases eq; simp [PyData.eqv]
    | _ => simp [clD] at hy
  | .bl _, _, _, _, h, _, _, _ => by simp [clD] at h
  | .wtup _, _, _, _, h, _, _, _ => by simp [clD] at h
  | .wlst _, _, _, _, h, _, _, _ => by simp [clD] at h
  | .box _, _, _, _, h, _, _, _ => by simp [clD] at h
  | .glb _, _, _, _, h, _, _, _ => by simp [clD] at h
theorem eqvL_cl : ∀ {xs ys : List D} {ps qs : List PyData}, clL xs = true → clL ys = true → toPyL xs = some ps → toPyL ys = some qs → (PyData.eqvAll ps qs = true ↔ xs = ys)
  | [], [], _, _, _, _, e1, e2 => by cases e1; cases e2; simp [PyData.eqvAll]
  | [], d :: r, ps, qs, _, hy, e1, e2 => by
    have h' : clD d = true ∧ clL r = true := by simpa [clL] using hy
    obtain ⟨p, f1, _, _⟩ := toPy_cl h'.1
    obtain ⟨ps, f3, _, _⟩ := toPyL_cl h'.2
    rw [toPyL, f1, f3] at e2
    cases e1; cases e2; simp [PyData.eqvAll]
  | d :: r, [], ps, qs, hx, _, e1, e2 => by
    have h' : clD d = true ∧ clL r = true := by simpa [clL] using hx
    obtain ⟨p, f1, _, _⟩ := toPy_cl h'.1
    obtain ⟨ps, f3, _, _⟩ := toPyL_cl h'.2
    rw [toPyL, f1, f3] at e1
    cases e1; cases e2; simp [PyData.eqvAll]
  | d :: r, d' :: r', ps, qs, hx, hy, e1, e2 => by
    have h' : clD d = true ∧ clL r = true := by simpa [clL] using hx
    have h'' : clD d' = true ∧ clL r' = true := by simpa [clL] using hy
    obtain ⟨p, f1, _, _⟩ := toPy_cl h'.1
    obtain ⟨ps, f3, _, _⟩ := toPyL_cl h'.2
    obtain ⟨p', g1, _, _⟩ := toPy_cl h''.1
    obtain ⟨ps', g3, _, _⟩ := toPyL_cl h''.2
    rw [toPyL, f1, f3] at e1
    rw [toPyL, g1, g3] at e2
    cases e1; cases e2
    have i1 := eqv_cl h'.1 h''.1 f1 g1
    have i2 := eqvL_cl h'.2 h''.2 f3 g3
    simp [PyData.eqvAll, i1, i2]
end
/-- equal or not -/
noncomputable def eqb (x y : D) : Bool := @decide (x = y) (Classical.propDecidable _)
theorem eqb_iff {x y : D} : eqb x y = true ↔ x = y := @decide_eq_true_iff _ (Classical.propDecidable _)
@[simp] theorem eqb_refl {x : D} : eqb x x = true := eqb_iff.mpr rfl
theorem eqb_ne {x y : D} (h : x ≠ y) : eqb x y = false := by
  cases e : eqb x y with
  | false => rfl
  | true => exact absurd (eqb_iff.mp e) h
theorem eqb_of {x y : D} {b : Bool} (h : b = true ↔ x = y) : b = eqb x y := by
  cases b with
  | true => exact (eqb_iff.mpr (h.mp rfl)).symm
  | false => exact (eqb_ne fun e => by cases h.mpr e).symm
section
variable {S : Store} {x y : D}
/-- what a clean datum is as one of the model: read behind the store's boxes, too -/
structure Cln (S : Store) (x x' : D) : Prop where
  as : x = x' ∨ ∃ i xs, x = .box i ∧ x' = .lst xs ∧ (S[i]?).bind cL = some xs
  cl : clD x' = true
  dp : dpD x' ≤ 64
theorem cln_self (h : clD x = true) (h2 : dpD x ≤ 64) : Cln S x x := ⟨.inl rfl, h, h2⟩
theorem cln_box {i : Nat} {xs : List D} (e : (S[i]?).bind cL = some xs) (h : clL xs = true) (h2 : dpL xs < 64) : Cln S (.box i) (.lst xs) :=
  ⟨.inr ⟨i, xs, rfl, rfl, e⟩, by simpa [clD] using h, by simp [dpD]; omega⟩
theorem Cln.eq {x' : D} (h : Cln S x x') : toPy S x = toPy0 x' := by
  rcases h.as with e | ⟨i, xs, e1, e2, e3⟩
  · subst e
    have := h.cl
    cases x <;> first | rfl | simp [clD] at this
  · subst e1 e2
    show ((S[i]?).bind cL).bind (fun ds => (toPyL ds).map PyData.list) = _
    rw [e3, Option.bind_some, toPy0]
theorem eqD_cl {x' y' : D} (hx : Cln S x x') (hy : Cln S y y') : eqD S x y = some (eqb x' y') := by
  obtain ⟨p, e1, h1, h2⟩ := toPy_cl hx.cl
  obtain ⟨q, e3, h3, h4⟩ := toPy_cl hy.cl
  unfold eqD
  rw [hx.eq, hy.eq, e1, e3]
  have s1 : SeqAt.shaped p = true := by unfold SeqAt.shaped; rw [h1, h2]; simpa using hx.dp
  have s2 : SeqAt.shaped q = true := by unfold SeqAt.shaped; rw [h3, h4]; simpa using hy.dp
  show (if SeqAt.shaped p = true ∧ SeqAt.shaped q = true then some (PyData.eqv p q) else none) = _
  rw [if_pos ⟨s1, s2⟩, eqb_of (eqv_cl hx.cl hy.cl e1 e3)]
theorem scD_cl {b : Bool} (hx : clD x = true) (hy : clD y = true) (h : scD x y = some b) : b = eqb x y := by
  refine eqb_of ?_
  cases x <;> cases y <;> first | (simp [scD] at h; done) | (simp [clD] at hx; done) | (simp [clD] at hy; done) | (simp [scD] at h; subst h; simp)
theorem sc_box1 {i : Nat} : scD (.box i) y = none := by cases y <;> rfl
theorem sc_box2 {i : Nat} : scD x (.box i) = none := by cases x <;> rfl
theorem v_eqCl {x' y' : D} (hx : Cln S x x') (hy : Cln S y y') : oEq x y S = some (.bl (eqb x' y'), S) := by
  show orO oEqS oEqD x y S = _
  unfold orO
  cases e : oEqS x y S with
  | none =>
    show (eqD S x y).map (fun b => (D.bl b, S)) = _
    rw [eqD_cl hx hy]; rfl
  | some p =>
    have e' : (scD x y).map (fun b => (D.bl b, S)) = some p := e
    cases e2 : scD x y with
    | none => rw [e2] at e'; cases e'
    | some b =>
      rw [e2] at e'; cases e'
      rcases hx.as with q1 | ⟨i, xs, q1, _, _⟩
      · rcases hy.as with q2 | ⟨i, xs, q2, _, _⟩
        · subst q1 q2
          rw [scD_cl hx.cl hy.cl e2]
        · subst q2; rw [sc_box2] at e2; cases e2
      · subst q1; rw [sc_box1] at e2; cases e2
theorem v_neCl {x' y' : D} (hx : Cln S x x') (hy : Cln S y y') : oNe x y S = some (.bl (!eqb x' y'), S) := by
  have h := v_eqCl hx hy
  have h : orO oEqS oEqD x y S = _ := h
  show orO oNeS oNeD x y S = _
  unfold orO at h ⊢
  unfold oNeS oNeD
  unfold oEqS oEqD at h
  cases e : scD x y with
  | none =>
    rw [e] at h
    cases e2 : eqD S x y with
    | none => rw [e2] at h; cases h
    | some b =>
      rw [e2] at h
      simp at h ⊢
      rw [h]
  | some b =>
    rw [e] at h
    simp at h ⊢
    rw [h]
theorem eqb_int {i j : Int} : eqb (.int i) (.int j) = decide (i = j) := (eqb_of (by simp)).symm
theorem eqb_str {a b : Str} : eqb (.str a) (.str b) = decide (a = b) := (eqb_of (by simp)).symm
end
theorem clL_ints : ∀ is : List Int, clL (is.map D.int) = true
  | [] => rfl
  | i :: r => by simp [clL, clD, clL_ints r]
theorem dpL_ints : ∀ is : List Int, dpL (is.map D.int) = 0
  | [] => rfl
  | i :: r => by simp [dpL, dpD, dpL_ints r]
theorem clL_all {xs : List D} (h : ∀ d ∈ xs, clD d = true) : clL xs = true := by
  induction xs with
  | nil => rfl
  | cons d r ih => simp [clL, h d (List.mem_cons_self ..), ih fun e he => h e (List.mem_cons_of_mem _ he)]
theorem dpL_all {n : Nat} {xs : List D} (h : ∀ d ∈ xs, dpD d ≤ n) : dpL xs ≤ n := by
  induction xs with
  | nil => exact Nat.zero_le _
  | cons d r ih =>
    have h1 := h d (List.mem_cons_self ..)
    have h2 := ih fun e he => h e (List.mem_cons_of_mem _ he)
    simp only [dpL]
    omega
end Dm
set_option linter.all false
set_option maxRecDepth 100000
set_option maxHeartbeats 2000000
namespace Dm
open PySem L2

/-! ### objects -/
def kGF (cs : List Str) (f : Str) (r : YD) : YD := bd r fun x S1 => match insOf S1 x with
  | some (c, fs) => if c ∈ cs then (match fs.lookup f with
    | some d => some (.ok d, S1)
    | none => none) else none
  | none => none
section
variable {cs : List Str} {f c m : Str} {fs : List (Str × D)} {S S1 S2 : Store} {i : Nat} {d y x : D} {ρ : Env} {g go : EM} {h : AM} {sem : FnS} {ar : Nat} {dd xs : List D}
theorem e_fld : gFld cs f go ρ S = kGF cs f (go ρ S) := id rfl
theorem insOf_at (h : S[i]? = some (.ins c fs)) : insOf S (.box i) = some (c, fs) := by
  show (match S[i]? with
    | some (.ins c fs) => some (c, fs)
    | _ => none) = _
  rw [h]
theorem v_fld (h : S[i]? = some (.ins c fs)) (hc : c ∈ cs) (hf : fs.lookup f = some d) : kGF cs f (some (.ok (.box i), S)) = some (.ok d, S) := by
  show (match insOf S (.box i) with
  | some (c, fs) => if c ∈ cs then (match fs.lookup f with
    | some d => some (Rs.ok d, S)
    | none => none) else none
  | none => none) = _
  rw [insOf_at h]
  dsimp only
  rw [if_pos hc, hf]
/-- a field of a class alone -/
theorem v_fld1 (h : S[i]? = some (.ins c fs)) (hf : fs.lookup f = some d) : kGF [c] f (some (.ok (.box i), S)) = some (.ok d, S) := v_fld h (List.mem_singleton.mpr rfl) hf
def kFS2 (cs : List Str) (f : Str) (ρ : Env) (y : D) (r : YD) : YF := sbd r ρ fun x S2 => match oPut cs f S2 x y with
  | some S3 => some (.nx ρ, S3)
  | none => none
def kFS (cs : List Str) (f : Str) (ρ : Env) (go : EM) (r : YD) : YF := sbd r ρ fun y S1 => kFS2 cs f ρ y (go ρ S1)
theorem e_ffld : fFld cs f g go ρ S = kFS cs f ρ go (g ρ S) := id rfl
theorem kFS_ok : kFS cs f ρ go (some (.ok y, S)) = kFS2 cs f ρ y (go ρ S) := id rfl
theorem v_put (h : S[i]? = some (.ins c fs)) (hc : c ∈ cs) (hl : fs.length < 1000) : kFS2 cs f ρ y (some (.ok (.box i), S)) = some (.nx ρ, S.set i (.ins c (putD f y fs))) := by
  show (match oPut cs f S (.box i) y with
  | some S3 => some (Fl.nx ρ, S3)
  | none => none) = _
  have e : oPut cs f S (.box i) y = some (S.set i (.ins c (putD f y fs))) := by
    show (match S[i]? with
    | some (.ins c fs) => if c ∈ cs ∧ fs.length < 1000 then some (S.set i (.ins c (putD f y fs))) else none
    | _ => none) = _
    rw [h]
    exact if_pos ⟨hc, hl⟩
  rw [e]
theorem v_put1 (h : S[i]? = some (.ins c fs)) (hl : fs.length < 1000) : kFS2 [c] f ρ y (some (.ok (.box i), S)) = some (.nx ρ, S.set i (.ins c (putD f y fs))) := v_put h (List.mem_singleton.mpr rfl) hl
def kMeth2 (ar : Nat) (sem : FnS) (dd : List D) (x : D) (r : YL) : YD := bd r fun xs S2 => if (x :: (xs ++ dd)).length = ar then sem (x :: (xs ++ dd)) S2 else none
def kMeth (tab : MTab) (m : Str) (h : AM) (ρ : Env) (r : YD) : YD := bd r fun x S1 => match insOf S1 x with
  | some (c, fs) => (match tab.lookup c, fs.lookup m with
    | some (ar, sem, dd), none => kMeth2 ar sem dd x (h ρ S1)
    | _, _ => none)
  | none => none
variable {tab : MTab}
theorem e_meth : gMeth tab m go h ρ S = kMeth tab m h ρ (go ρ S) := id rfl
theorem v_meth (hi : S[i]? = some (.ins c fs)) (ht : tab.lookup c = some (ar, sem, dd)) (hm : fs.lookup m = none) : kMeth tab m h ρ (some (.ok (.box i), S)) = kMeth2 ar sem dd (.box i) (h ρ S) := by
  show (match insOf S (.box i) with
  | some (c, fs) => (match tab.lookup c, fs.lookup m with
    | some (ar, sem, dd), none => kMeth2 ar sem dd (.box i) (h ρ S)
    | _, _ => none)
  | none => none) = _
  rw [insOf_at hi]
  dsimp only
  rw [ht, hm]
theorem v_meth1 (hi : S[i]? = some (.ins c fs)) (hm : fs.lookup m = none) : kMeth [(c, ar, sem, dd)] m h ρ (some (.ok (.box i), S)) = kMeth2 ar sem dd (.box i) (h ρ S) :=
  v_meth hi (by rw [List.lookup_cons_self]) hm
theorem kMeth2_ok (hl : (x :: (xs ++ dd)).length = ar) : kMeth2 ar sem dd x (some (.ok xs, S)) = sem (x :: (xs ++ dd)) S := if_pos hl
def kMake (c : Str) (ar : Nat) (sem : FnS) (dd : List D) (r : YL) : YD := bd r fun xs S1 => mkI c ar sem (xs ++ dd) S1
theorem e_make : gMake c ar sem dd h ρ S = kMake c ar sem dd (h ρ S) := id rfl
theorem kMake_ok : kMake c ar sem dd (some (.ok xs, S)) = mkI c ar sem (xs ++ dd) S := id rfl
theorem mkI_ok (hl : xs.length + 1 = ar) (h : sem (.box S.length :: xs) (S ++ [.ins c []]) = some (.ok .non, S2)) : mkI c ar sem xs S = some (.ok (.box S.length), S2) := by
  unfold mkI
  rw [if_pos (show (D.box S.length :: xs).length = ar from hl), h]
def kMakeN2 (c : Str) (n m ar : Nat) (sem : FnS) (gD : List D → List D → List D) (xs : List D) (r : YL) : YD := bd r fun zs S2 => if xs.length = n ∧ zs.length = m then mkI c ar sem (gD xs zs) S2 else none
def kMakeN (c : Str) (n m ar : Nat) (sem : FnS) (gD : List D → List D → List D) (h2 : AM) (ρ : Env) (r : YL) : YD := bd r fun xs S1 => kMakeN2 c n m ar sem gD xs (h2 ρ S1)
theorem e_makeN {n k : Nat} {gD : List D → List D → List D} {h2 : AM} : gMakeN c n k ar sem gD h h2 ρ S = kMakeN c n k ar sem gD h2 ρ (h ρ S) := id rfl
theorem kMakeN_ok {n k : Nat} {gD : List D → List D → List D} {h2 : AM} : kMakeN c n k ar sem gD h2 ρ (some (.ok xs, S)) = kMakeN2 c n k ar sem gD xs (h2 ρ S) := id rfl
theorem kMakeN2_ok {n k : Nat} {gD : List D → List D → List D} {zs : List D} (q : xs.length = n ∧ zs.length = k) : kMakeN2 c n k ar sem gD xs (some (.ok zs, S)) = mkI c ar sem (gD xs zs) S := if_pos q
end
/-! ### stores that grow -/
/-- all that stood stands -/
structure Grow (S S' : Store) : Prop where
  len : S.length ≤ S'.length
  at_ : ∀ i, i < S.length → S'[i]? = S[i]?
theorem Grow.refl (S : Store) : Grow S S := ⟨Nat.le_refl _, fun _ _ => rfl⟩
theorem Grow.trans {S S' S'' : Store} (a : Grow S S') (b : Grow S' S'') : Grow S S'' := ⟨Nat.le_trans a.len b.len, fun i h => (b.at_ i (Nat.lt_of_lt_of_le h a.len)).trans (a.at_ i h)⟩
theorem Grow.push {S : Store} {c : Cell} : Grow S (S ++ [c]) := ⟨by simp, fun i h => List.getElem?_append_left h⟩
theorem Grow.set {S S' : Store} (a : Grow S S') {n : Nat} {c : Cell} (h : S.length ≤ n) : Grow S (S'.set n c) := ⟨by rw [List.length_set]; exact a.len, fun i hi => by rw [List.getElem?_set_ne (by omega)]; exact a.at_ i hi⟩
theorem Grow.get {S S' : Store} (a : Grow S S') {i : Nat} {c : Cell} (h : S[i]? = some c) : S'[i]? = some c := by rw [a.at_ i (List.getElem?_eq_some_iff.mp h).1]; exact h
theorem Grow.eq {S S' : Store} (a : Grow S S') : S' = S ++ S'.drop S.length := by
  have : S'.take S.length = S := by
    apply List.ext_getElem?
    intro i
    by_cases h : i < S.length
    · rw [List.getElem?_take_of_lt h, a.at_ i h]
    · rw [List.getElem?_eq_none (by rw [List.length_take]; omega), List.getElem?_eq_none (by omega)]
  conv => lhs; rw [← List.take_append_drop S.length S', this]
theorem pureS_grow {sem : FnS} {xs : List D} {S S' : Store} {r : Rs D} (h : sem xs S = some (r, S')) (g : Grow S S') (hu : rsU S.length r = true) : pureS sem xs S = some (r, S) := by
  rw [g.eq] at h
  exact pureS_eq h hu
theorem lt_of_get {S : Store} {i : Nat} {c : Cell} (h : S[i]? = some c) : i < S.length := (List.getElem?_eq_some_iff.mp h).1
theorem v_app {S : Store} {n : Nat} {xs : List D} {y : D} (h : S[n]? = some (.lst xs)) (hl : xs.length < 16777216) : oAppend (.box n) [y] S = some (.non, S.set n (.lst (xs ++ [y]))) := by
  show onL (fun xs => if xs.length < sizeLine then some (.non, xs ++ [y]) else none) (.box n) S = _
  unfold onL
  dsimp only
  rw [h]
  show ((if xs.length < sizeLine then some (D.non, xs ++ [y]) else none) : Option (D × List D)).map _ = _
  rw [if_pos (show xs.length < sizeLine from hl)]
  rfl
theorem v_ty {S : Store} {n : Nat} {xs : List D} (h : S[n]? = some (.lst xs)) : tyD S .list (.box n) = true := by
  show (match S[n]? with | some c => tyC .list c | none => false) = true
  rw [h]; rfl
theorem v_frz {S : Store} {n : Nat} {xs : List D} (h : S[n]? = some (.lst xs)) : frz (.box n) S = (.lst xs, S.set n .dead) := by
  show (match S[n]? with
    | some (.lst ds) => (D.lst ds, S.set n .dead)
    | _ => (D.box n, S)) = _
  rw [h]
theorem get_set {S : Store} {n : Nat} {c c' : Cell} (h : S[n]? = some c) : (S.set n c')[n]? = some c' := List.getElem?_set_self (lt_of_get h)
theorem get_push {S : Store} {c : Cell} : (S ++ [c])[S.length]? = some c := by rw [List.getElem?_append_right (Nat.le_refl _), Nat.sub_self]; rfl
def kFrz (r : YD) : YD := bd r fun d S1 => some (.ok (frz d S1).1, (frz d S1).2)
theorem e_frz {g : EM} {ρ : Env} {S : Store} : gFrz g ρ S = kFrz (g ρ S) := id rfl
theorem kFrz_ok {d : D} {S : Store} : kFrz (some (.ok d, S)) = some (.ok (frz d S).1, (frz d S).2) := id rfl
theorem v_boxA {S : Store} {n : Nat} {xs : List D} (h : S[n]? = some (.lst xs)) : sqA S (.box n) = some xs := by
  show (match (S[n]?).bind cL with
  | some ds => some ds
  | none => sqT (.box n)) = _
  rw [h]; rfl
theorem v_boxL {S : Store} {n : Nat} {xs : List D} (h : S[n]? = some (.lst xs)) : sqL S (.box n) = some xs := by
  show (S[n]?).bind cL = _
  rw [h]; rfl
/-! ### x op= e -/
def kAug (i : Nat) (op : D → D → Store → Option (D × Store)) (ρ : Env) (o : Option (Option D)) (r : YD) : YF := match o with
  | some (some x) => sbd r ρ fun y S1 => (match op x y S1 with
    | some (z, S2) => some (.nx (ρ.set i (some z)), S2)
    | none => none)
  | _ => none
section
variable {S : Store} {i : Nat} {ρ : Env}
theorem e_aug {op : D → D → Store → Option (D × Store)} {g : EM} : fAug i op g ρ S = kAug i op ρ (ρ[i]?) (g ρ S) := by
  unfold fAug kAug
  cases ρ[i]? with
  | none => rfl
  | some o => cases o <;> rfl
theorem kAug_i {g : Int → Int → Int} {x y : Int} : kAug i (oI0 g) ρ (some (some (.int x))) (some (.ok (.int y), S)) = some (.nx (ρ.set i (some (.int (g x y)))), S) := id rfl
@[simp] theorem v_intT : oInt [.bl true] S = some (.int 1, S) := id rfl
@[simp] theorem v_intF : oInt [.bl false] S = some (.int 0, S) := id rfl
theorem v_absI {j : Int} : oAbs [.int j] S = some (.int (j.natAbs : Int), S) := by
  show some (D.int (if j < 0 then -j else j), S) = _
  have : (if j < 0 then -j else j) = (j.natAbs : Int) := by split <;> omega
  rw [this]
/-- two-level comprehensions, len of a set -/
theorem gLc2_ok {bx : Bool} {g : Env → M Wk} {ns own : List Nat} {pf : D → Store → Option (List D × Store)} {t : TM} {g1 : Env → M Wk} {ns1 vs1 : List Nat} {pf1 : D → Store → Option (List D × Store)} {t1 : TM} {el : EM} {S1 S2 : Store} {xs acc : List D}
    (hg : g ρ S = some (.ok (wkC xs), S1)) (h : lc2L ns pf t (in2 g1 ns1 vs1 pf1 t1 el) (wipeA ρ own) xs [] S1 = some (acc, S2)) : gLc2 bx g ns own pf t g1 ns1 vs1 pf1 t1 el ρ S = okM (some (mkL bx acc S2)) := by
  unfold gLc2
  rw [hg]
  show (match lc2W (wkC xs) ns pf t (in2 g1 ns1 vs1 pf1 t1 el) (wipeA ρ own) [] S1 with
  | some (acc, S2) => okM (some (mkL bx acc S2))
  | none => none) = _
  rw [lc2W_C (wkC xs) ns pf t _ _ (fun _ _ => rfl) h]
theorem scL_cons {ns : List Nat} {pf : D → Store → Option (List D × Store)} {t : TM} {el : EM} {ρ0 : Env} {d y : D} {r ds : List D} {ks : List Key} {kk : Key} {S1 S2 S3 : Store}
    (h1 : pf d S = some (ds, S1)) (h2 : t (setA ρ0 ns ds) S1 = some (.ok true, S2)) (h3 : el (setA ρ0 ns ds) S2 = some (.ok y, S3)) (h4 : keyK y = some kk) (h5 : ks.length + 1 < scanBound) :
    scL ns pf t el ρ0 (d :: r) ks S = scL ns pf t el ρ0 r (addKey ks kk) S3 := by
  rw [scL]
  simp only [h1, h2, h3, h4]
  rw [if_pos h5]
theorem gLenSc_ok {g : Env → M Wk} {ns own : List Nat} {pf : D → Store → Option (List D × Store)} {t : TM} {el : EM} {S1 S2 : Store} {xs : List D} {ks : List Key}
    (hg : g ρ S = some (.ok (wkC xs), S1)) (h : scL ns pf t el (wipeA ρ own) xs [] S1 = some (ks, S2)) : gLenSc g ns own pf t el ρ S = some (.ok (.int (ks.length : Nat)), S2) := by
  unfold gLenSc
  rw [hg]
  show (match scW (wkC xs) ns pf t el (wipeA ρ own) S1 with
  | some (ks, S2) => some (Rs.ok (D.int (ks.length : Nat)), S2)
  | none => none) = _
  rw [scW_C (wkC xs) ns pf t el _ (fun _ _ => rfl) h]
end
/-! ### comprehensions over coded lists -/
section
variable {α : Type} {ns : List Nat} {pf : D → Store → Option (List D × Store)} {t : TM} {el : EM} {ρ0 : Env} {S : Store}
theorem lc_mapM (en : α → D) (f : α → D) {l : List α} : ∀ (acc : List D), (∀ a ∈ l, ∃ ds, pf (en a) S = some (ds, S) ∧ t (setA ρ0 ns ds) S = some (.ok true, S) ∧ el (setA ρ0 ns ds) S = some (.ok (f a), S)) → acc.length + l.length ≤ 16777216 → lcL ns pf t el ρ0 (l.map en) acc S = some (acc ++ l.map f, S) := by
  induction l with
  | nil => intro acc _ _; simp
  | cons d r ih =>
    intro acc h hl
    obtain ⟨ds, e1, e2, e3⟩ := h d (List.mem_cons_self ..)
    rw [List.length_cons] at hl
    rw [List.map_cons, e_lcL, e1, kLcP_ok, e2, kLcT_t, e3, kLcA_ok, if_pos (by omega), ih _ (fun d hd => h d (List.mem_cons_of_mem _ hd)) (by rw [List.length_append, List.length_singleton]; omega)]
    simp
theorem lc_filM (en : α → D) (p : α → Bool) (f : α → D) {l : List α} : ∀ (acc : List D), (∀ a ∈ l, ∃ ds, pf (en a) S = some (ds, S) ∧ t (setA ρ0 ns ds) S = some (.ok (p a), S) ∧ (p a = true → el (setA ρ0 ns ds) S = some (.ok (f a), S))) → acc.length + l.length ≤ 16777216 → lcL ns pf t el ρ0 (l.map en) acc S = some (acc ++ (l.filter p).map f, S) := by
  induction l with
  | nil => intro acc _ _; simp
  | cons d r ih =>
    intro acc h hl
    obtain ⟨ds, e1, e2, e3⟩ := h d (List.mem_cons_self ..)
    rw [List.length_cons] at hl
    rw [List.map_cons, e_lcL, e1, kLcP_ok, e2]
    cases q : p d with
    | false =>
      rw [kLcT_f, ih _ (fun d hd => h d (List.mem_cons_of_mem _ hd)) (by omega)]
      simp [q]
    | true =>
      rw [kLcT_t, e3 q, kLcA_ok, if_pos (by omega), ih _ (fun d hd => h d (List.mem_cons_of_mem _ hd)) (by rw [List.length_append, List.length_singleton]; omega)]
      simp [q]
end
/-! ### products, quotients -/
section
variable {S : Store} {i j : Int}
theorem v_mulN {bx : Bool} (h : i.natAbs < 2 ^ 64) : oMul bx (.int i) (.int j) S = some (.int (i * j), S) :=
  orO_s (orO_s (if_pos (.inl ⟨by omega, by omega⟩)))
theorem v_modP (h : 0 < j) : oMod (.int i) (.int j) S = some (.int (i % j), S) := if_pos h
theorem log2_lt9000 {j : Int} (h : j.natAbs < 2 ^ 64) : j.natAbs.log2 < 9000 := by
  have : j.natAbs.log2 ≤ 64 := by
    rcases Nat.eq_zero_or_pos j.natAbs with e | e
    · rw [e]; decide
    · exact Nat.le_of_lt ((Nat.log2_lt (by omega)).mpr h)
  omega
theorem v_divP (h : 0 < j) (h2 : j.natAbs < 2 ^ 64) : oDiv (.int i) (.int j) S = some (.int (i / j), S) := if_pos ⟨h, log2_lt9000 h2⟩
end
end Dm
set_option linter.all false
set_option maxRecDepth 100000
set_option maxHeartbeats 4000000
namespace Cs
open PySem L2 Dm
def tb_DEEPER : List (Str × Int) := [("(", 1), (")", -1)]
def tb_NUMBERS : List (Str × Int) := [("least", 2), ("rest", 3)]
/-! ### _law_mix -/
abbrev N__law_mix : List Str := ["one"]
noncomputable def b__law_mix : SM := fSeq (fSet 0 (g2 (oMod) (g2 (oMul false) (g2 (oXor) (gVar 0) (g2 (oDiv) (gVar 0) (gC (.int 1073741824)))) (gC (.int 13787848793156543929))) (gC (.int 18446744073709551616))))
    (fSeq (fSet 0 (g2 (oMod) (g2 (oMul false) (g2 (oXor) (gVar 0) (g2 (oDiv) (gVar 0) (gC (.int 134217728)))) (gC (.int 10723151780598845931))) (gC (.int 18446744073709551616))))
    (fRet (g2 (oXor) (gVar 0) (g2 (oDiv) (gVar 0) (gC (.int 2147483648))))))
noncomputable def m__law_mix : FnS := (semD 1 1 b__law_mix)
/-! ### _law_jar -/
abbrev N__law_jar : List Str := ["script", "seed", "cell"]
noncomputable def b__law_jar : SM := fSeq (fSet 1 (gC (.int 4907000000000229)))
    (fSeq (fFor (gIt (gSl false (gVar 0) (pNo) (pSo (gC (.int 63))))) (gPat [2] (tgN))
    (fSet 1 (gCall 1 m__law_mix (aCons (g2 (oMod) (g2 (oAdd false) (g2 (oMul false) (gVar 1) (gC (.int 5))) (gVar 2)) (gC (.int 18446744073709551616))) (aNil)))))
    (fRet (gDisp ["cells", "rest", "seed", "turn"] [gCB (oLst true) (aCons (gSl false (gVar 0) (pNo) (pSo (gC (.int 63)))) (aNil)), gC (.int 0), gVar 1, gC (.int 0)])))
noncomputable def m__law_jar : FnS := (semD 1 3 b__law_jar)
/-! ### _law_pick -/
abbrev N__law_pick : List Str := ["jar", "total", "found", "cell", "spun", "one"]
noncomputable def b__law_pick : SM := fSeq (fIf (gB (g2 (oLt) (g2 oIx (gVar 0) (gC (.str "rest"))) (gVar 1)))
    (fSeq (fAsg (g2 (oAdd false) (g2 oIx (gVar 0) (gC (.str "turn"))) (gC (.int 1))) (gSub (gVar 0) (gC (.str "turn"))))
    (fIf (gB (g2 (oNe) (g2 oIx (gVar 0) (gC (.str "cells"))) (gLst false (aNil))))
    (fSeq (fSet 3 (gMt .list oPopAt (g2 oIx (gVar 0) (gC (.str "cells"))) (aCons (gC (.int 0)) (aNil))))
    (fSeq (fAsg (gVar 3) (gSub (gVar 0) (gC (.str "rest"))))
    (fIf (gB (g2 (oLt) (gVar 3) (g2 (oPow) (gC (.int 10)) (gC (.int 18)))))
    (fSeq (fSet 4 (g2 (oAdd false) (g2 (oMul false) (gVar 3) (gC (.int 7))) (g2 (oMul false) (g2 oIx (gVar 0) (gC (.str "turn"))) (gC (.int 11400714819323198485)))))
    (fSeq (fSet 5 (gCall 1 m__law_mix (aCons (g2 (oMod) (gVar 4) (gC (.int 18446744073709551616))) (aNil))))
    (fAsg (g2 (oAdd false) (g2 (oMul false) (gVar 5) (gC (.int 18446744073709551616))) (gCall 1 m__law_mix (aCons (g2 (oXor) (gVar 5) (gC (.int 91))) (aNil)))) (gSub (gVar 0) (gC (.str "rest"))))))
    (fNext))))
    (fSeq (fAsg (gCall 1 m__law_mix (aCons (g2 (oMod) (g2 (oAdd false) (g2 oIx (gVar 0) (gC (.str "seed"))) (gC (.int 11400714819323198485))) (gC (.int 18446744073709551616))) (aNil))) (gSub (gVar 0) (gC (.str "seed"))))
    (fAsg (g2 oIx (gVar 0) (gC (.str "seed"))) (gSub (gVar 0) (gC (.str "rest")))))))
    (fNext))
    (fSeq (fSet 2 (g2 (oMod) (g2 oIx (gVar 0) (gC (.str "rest"))) (gVar 1)))
    (fSeq (fAsg (g2 (oDiv) (g2 oIx (gVar 0) (gC (.str "rest"))) (gVar 1)) (gSub (gVar 0) (gC (.str "rest"))))
    (fRet (gVar 2))))
noncomputable def m__law_pick : FnS := (semD 2 6 b__law_pick)
/-! ### _law_same -/
abbrev N__law_same : List Str := ["found", "due", "one", "other"]
noncomputable def b__law_same (r__law_same : FnS) : SM := fSeq (fIf (gB (g2 (oIsN) (gVar 1) (gC .non)))
    (fRet (g2 (oIsN) (gVar 0) (gC .non)))
    (fNext))
    (fSeq (fIf (gTr (gIsi "bool" (gVar 1)))
    (fRet (gAndV (gIsi "bool" (gVar 0)) (g2 (oEq) (gVar 0) (gVar 1))))
    (fNext))
    (fSeq (fIf (gTr (gIsi "int" (gVar 1)))
    (fRet (gAndV (gIsi "int" (gVar 0)) (gAndV (gNotV (gIsi "bool" (gVar 0))) (g2 (oEq) (gVar 0) (gVar 1)))))
    (fNext))
    (fSeq (fIf (gTr (gIsi "str" (gVar 1)))
    (fRet (gAndV (gIsi "str" (gVar 0)) (g2 (oEq) (gVar 0) (gVar 1))))
    (fNext))
    (fSeq (fIf (gOrT (gB (g2 (oNe) (gIsi "tuple" (gVar 1)) (gIsi "tuple" (gVar 0)))) (gB (g2 (oNe) (gIsi "list" (gVar 1)) (gIsi "list" (gVar 0)))))
    (fRet (gC (.bl false)))
    (fNext))
    (fSeq (fIf (gB (g2 (oNe) (gCB oLen (aCons (gVar 0) (aNil))) (gCB oLen (aCons (gVar 1) (aNil)))))
    (fRet (gC (.bl false)))
    (fNext))
    (fRet (gCB oAll (aCons (gLc false (gZip false (aCons (gVar 0) (aCons (gVar 1) (aNil)))) [2, 3] [2, 3] (tgTup 2 (tgCons (tgN) (tgCons (tgN) (tgNil)))) (gYes) (gCall 2 r__law_same (aCons (gVar 2) (aCons (gVar 3) (aNil))))) (aNil)))))))))
noncomputable def m__law_same : Nat → FnS
  | 0 => fun _ _ => none
  | n + 1 => (semD 2 4 (b__law_same (m__law_same n)))
/-! ### _law_simple -/
abbrev N__law_simple : List Str := ["jar", "total", "weights", "part", "gate"]
noncomputable def b__law_simple : SM := fSeq (fSet 2 (gCB oTuple (aCons (gLc false (gRng1 (aCons (gVar 1) (aNil))) [4] [4] (tgN) (gYes) (g2 (oSub) (gCall 2 m__law_pick (aCons (gVar 0) (aCons (gC (.int 7)) (aNil)))) (gC (.int 3)))) (aNil))))
    (fSeq (fIf (gB (g2 (oEq) (gCall 2 m__law_pick (aCons (gVar 0) (aCons (gC (.int 2)) (aNil)))) (gC (.int 0))))
    (fRet (gTup (aCons (gC (.str "least")) (aCons (gVar 2) (aCons (g2 (oSub) (gCall 2 m__law_pick (aCons (gVar 0) (aCons (gC (.int 9)) (aNil)))) (gC (.int 4))) (aNil))))))
    (fNext))
    (fSeq (fSet 3 (g2 (oAdd false) (gC (.int 2)) (gCall 2 m__law_pick (aCons (gVar 0) (aCons (gC (.int 4)) (aNil))))))
    (fRet (gTup (aCons (gC (.str "rest")) (aCons (gVar 2) (aCons (gVar 3) (aCons (gCall 2 m__law_pick (aCons (gVar 0) (aCons (gVar 3) (aNil)))) (aNil)))))))))
noncomputable def m__law_simple : FnS := (semD 2 5 b__law_simple)
/-! ### _law_sentence -/
abbrev N__law_sentence : List Str := ["jar", "total", "within", "form", "one"]
noncomputable def b__law_sentence (r__law_sentence : FnS) : SM := fSeq (fSet 3 (g2 (oMul false) (gCall 2 m__law_pick (aCons (gVar 0) (aCons (gC (.int 5)) (aNil)))) (gCB oInt (aCons (g2 (oGt) (gVar 2) (gC (.int 0))) (aNil)))))
    (fSeq (fIf (gB (g2 (oLt) (gVar 3) (gC (.int 2))))
    (fRet (gCall 2 m__law_simple (aCons (gVar 0) (aCons (gVar 1) (aNil)))))
    (fNext))
    (fSeq (fIf (gB (g2 (oEq) (gVar 3) (gC (.int 2))))
    (fRet (gTup (aCons (gC (.str "not")) (aCons (gCall 3 r__law_sentence (aCons (gVar 0) (aCons (gVar 1) (aCons (g2 (oSub) (gVar 2) (gC (.int 1))) (aNil))))) (aNil)))))
    (fNext))
    (fSeq (fSet 4 (gCall 3 r__law_sentence (aCons (gVar 0) (aCons (gVar 1) (aCons (g2 (oSub) (gVar 2) (gC (.int 1))) (aNil))))))
    (fRet (gTup (aCons (g2 oIx (gLst false (aCons (gC (.str "and")) (aCons (gC (.str "or")) (aNil)))) (g2 (oSub) (gVar 3) (gC (.int 3)))) (aCons (gVar 4) (aCons (gCall 3 r__law_sentence (aCons (gVar 0) (aCons (gVar 1) (aCons (g2 (oSub) (gVar 2) (gC (.int 1))) (aNil))))) (aNil)))))))))
noncomputable def m__law_sentence : Nat → FnS
  | 0 => fun _ _ => none
  | n + 1 => (semD 3 5 (b__law_sentence (m__law_sentence n)))
/-! ### _law_written -/
abbrev N__law_written : List Str := ["sentence", "text", "number", "both", "one", "weight"]
noncomputable def b__law_written (r__law_written : FnS) : SM := fSeq (fIf (gB (g2 (oEq) (g2 oIx (gVar 0) (gC (.int 0))) (gC (.str "not"))))
    (fRet (g2 (oAdd false) (gC (.str "not ")) (gCall 1 r__law_written (aCons (g2 oIx (gVar 0) (gC (.int 1))) (aNil)))))
    (fNext))
    (fSeq (fIf (gB (g2 (oInA) (g2 oIx (gVar 0) (gC (.int 0))) (gTup (aCons (gC (.str "and")) (aCons (gC (.str "or")) (aNil))))))
    (fSeq (fSet 3 (gLc false (gIt (gSl false (gVar 0) (pSo (gC (.int 1))) (pNo))) [4] [4] (tgN) (gYes) (gCall 1 r__law_written (aCons (gVar 4) (aNil)))))
    (fRet (g2 (oAdd false) (g2 (oAdd false) (gC (.str "(")) (gMt .str (oJoin) (g2 (oAdd false) (g2 (oAdd false) (gC (.str " ")) (g2 oIx (gVar 0) (gC (.int 0)))) (gC (.str " "))) (aCons (gVar 3) (aNil)))) (gC (.str ")")))))
    (fNext))
    (fSeq (fSet 1 (g2 (oAdd false) (g2 (oAdd false) (g2 oIx (gVar 0) (gC (.int 0))) (gC (.str " "))) (gMt .str (oJoin) (gC (.str ",")) (aCons (gLc false (gIt (g2 oIx (gVar 0) (gC (.int 1)))) [5] [5] (tgN) (gYes) (gCB oStr (aCons (gVar 5) (aNil)))) (aNil)))))
    (fSeq (fFor (gIt (gSl false (gVar 0) (pSo (gC (.int 2))) (pNo))) (gPat [2] (tgN))
    (fSet 1 (g2 (oAdd false) (g2 (oAdd false) (gVar 1) (gC (.str " "))) (gCB oStr (aCons (gVar 2) (aNil))))))
    (fRet (gVar 1)))))
noncomputable def m__law_written : Nat → FnS
  | 0 => fun _ _ => none
  | n + 1 => (semD 1 6 (b__law_written (m__law_written n)))
/-! ### Put___init__ -/
abbrev N_Put___init__ : List Str := ["self", "weights", "number", "by"]
noncomputable def b_Put___init__ : SM := fSeq (fFld ["Put"] "slopes" (gVar 1) (gVar 0))
    (fSeq (fFld ["Put"] "start" (gVar 2) (gVar 0))
    (fFld ["Put"] "parts" (gVar 3) (gVar 0)))
noncomputable def m_Put___init__ : FnS := (semD 4 4 b_Put___init__)
/-! ### Put_weights_in -/
abbrev N_Put_weights_in : List Str := ["self", "weights", "last", "fore", "one", "other"]
noncomputable def b_Put_weights_in : SM := fSeq (fAsg (gVar 1) (gPat [3, 2] (tgStar false 2 0 (tgCons (tgN) (tgCons (tgN) (tgNil))))))
    (fRet (gCB oTuple (aCons (gLc false (gZip true (aCons (gVar 3) (aCons (gFld ["Put"] "slopes" (gVar 0)) (aNil)))) [4, 5] [4, 5] (tgTup 2 (tgCons (tgN) (tgCons (tgN) (tgNil)))) (gYes) (g2 (oAdd false) (g2 (oMul false) (gFld ["Put"] "parts" (gVar 0)) (gVar 4)) (g2 (oMul false) (gVar 2) (gVar 5)))) (aNil))))
noncomputable def m_Put_weights_in : FnS := (semD 2 6 b_Put_weights_in)
/-! ### Put_into -/
abbrev N_Put_into : List Str := ["self", "sentence", "word", "wheel", "parts", "weights", "c", "m", "r", "part"]
noncomputable def b_Put_into (r_Put_into : FnS) : SM := fSeq (fAsg (gVar 1) (gPat [2, 4] (tgStar false 2 1 (tgCons (tgN) (tgCons (tgN) (tgNil))))))
    (fSeq (fIf (gB (g2 (oEq) (gVar 2) (gC (.str "least"))))
    (fSeq (fAsg (gVar 4) (gPat [5, 6] (tgTup 2 (tgCons (tgN) (tgCons (tgN) (tgNil))))))
    (fRet (gTup (aCons (gC (.str "least")) (aCons (gMeth [("Put", 2, m_Put_weights_in, [])] "weights_in" (gVar 0) (aCons (gVar 5) (aNil))) (aCons (g2 (oSub) (g2 (oMul false) (gFld ["Put"] "parts" (gVar 0)) (gVar 6)) (g2 (oMul false) (g2 oIx (gVar 5) (g1 oNeg (gC (.int 1)))) (gFld ["Put"] "start" (gVar 0)))) (aNil)))))))
    (fNext))
    (fSeq (fIf (gB (g2 (oEq) (gVar 2) (gC (.str "rest"))))
    (fSeq (fAsg (gVar 4) (gPat [5, 7, 8] (tgTup 3 (tgCons (tgN) (tgCons (tgN) (tgCons (tgN) (tgNil)))))))
    (fSeq (fSet 3 (g2 (oMul false) (gFld ["Put"] "parts" (gVar 0)) (gVar 7)))
    (fRet (gTup (aCons (gC (.str "rest")) (aCons (gMeth [("Put", 2, m_Put_weights_in, [])] "weights_in" (gVar 0) (aCons (gVar 5) (aNil))) (aCons (gVar 3) (aCons (g2 (oMod) (g2 (oSub) (g2 (oMul false) (gFld ["Put"] "parts" (gVar 0)) (gVar 8)) (g2 (oMul false) (g2 oIx (gVar 5) (g1 oNeg (gC (.int 1)))) (gFld ["Put"] "start" (gVar 0)))) (gVar 3)) (aNil)))))))))
    (fNext))
    (fRet (g2 (oAdd false) (gTup (aCons (gVar 2) (aNil))) (gCB oTuple (aCons (gLc false (gIt (gVar 4)) [9] [9] (tgN) (gYes) (gMeth [("Put", 2, r_Put_into, [])] "into" (gVar 0) (aCons (gVar 9) (aNil)))) (aNil)))))))
noncomputable def m_Put_into : Nat → FnS
  | 0 => fun _ _ => none
  | n + 1 => (semD 2 10 (b_Put_into (m_Put_into n)))
/-! ### Put_is_number -/
abbrev N_Put_is_number : List Str := ["self"]
noncomputable def b_Put_is_number : SM := fRet (gTup (aCons (gC (.str "least")) (aCons (gFld ["Put"] "slopes" (gVar 0)) (aCons (g1 oNeg (gFld ["Put"] "start" (gVar 0))) (aNil)))))
noncomputable def m_Put_is_number : FnS := (semD 1 1 b_Put_is_number)
/-! ### any_of -/
abbrev N_any_of : List Str := ["sentences", "odd", "one", "other"]
noncomputable def b_any_of : SM := fSeq (fWhile (gB (g2 (oGt) (gCB oLen (aCons (gVar 0) (aNil))) (gC (.int 1))))
    (fSeq (fSet 1 (gSl false (gVar 0) (pSo (g2 (oMul false) (g2 (oDiv) (gCB oLen (aCons (gVar 0) (aNil))) (gC (.int 2))) (gC (.int 2)))) (pNo)))
    (fSet 0 (g2 (oAdd false) (gLc false (gZip false (aCons (gSl3 false (gVar 0) (pNo) (pNo) (pSo (gC (.int 2)))) (aCons (gSl3 false (gVar 0) (pSo (gC (.int 1))) (pNo) (pSo (gC (.int 2)))) (aNil)))) [2, 3] [2, 3] (tgTup 2 (tgCons (tgN) (tgCons (tgN) (tgNil)))) (gYes) (gTup (aCons (gC (.str "or")) (aCons (gVar 2) (aCons (gVar 3) (aNil)))))) (gVar 1)))))
    (fRet (g2 oIx (gVar 0) (gC (.int 0))))
noncomputable def m_any_of : FnS := (semD 1 4 b_any_of)
/-! ### atoms_of -/
abbrev N_atoms_of : List Str := ["sentence", "part", "one"]
noncomputable def b_atoms_of (r_atoms_of : FnS) : SM := fSeq (fIf (gB (g2 (oInA) (g2 oIx (gVar 0) (gC (.int 0))) (gTup (aCons (gC (.str "least")) (aCons (gC (.str "rest")) (aNil))))))
    (fRet (gLst false (aCons (gVar 0) (aNil))))
    (fNext))
    (fRet (gLc2 false (gIt (gSl false (gVar 0) (pSo (gC (.int 1))) (pNo))) [1] [1, 2] (tgN) (gYes) (gIt (gCall 1 r_atoms_of (aCons (gVar 1) (aNil)))) [2] [2] (tgN) (gYes) (gVar 2)))
noncomputable def m_atoms_of : Nat → FnS
  | 0 => fun _ _ => none
  | n + 1 => (semD 1 3 (b_atoms_of (m_atoms_of n)))
/-! ### breaking -/
abbrev N_breaking : List Str := ["sentence", "atom"]
noncomputable def b_breaking : SM := fRet (gLc false (gIt (gCall 1 (m_atoms_of 40) (aCons (gVar 0) (aNil)))) [1] [1] (tgN) (gAndT (gB (g2 (oEq) (g2 oIx (gVar 1) (gC (.int 0))) (gC (.str "least")))) (gB (g2 (oNe) (g2 oIx (g2 oIx (gVar 1) (gC (.int 1))) (g1 oNeg (gC (.int 1)))) (gC (.int 0))))) (gVar 1))
noncomputable def m_breaking : FnS := (semD 1 2 b_breaking)
/-! ### many_of -/
abbrev N_many_of : List Str := ["sentence"]
noncomputable def b_many_of : SM := fSeq (fWhile (gB (g2 (oNotInA) (g2 oIx (gVar 0) (gC (.int 0))) (gTup (aCons (gC (.str "least")) (aCons (gC (.str "rest")) (aNil))))))
    (fSet 0 (g2 oIx (gVar 0) (gC (.int 1)))))
    (fRet (gCB oLen (aCons (g2 oIx (gVar 0) (gC (.int 1))) (aNil))))
noncomputable def m_many_of : FnS := (semD 1 1 b_many_of)
/-! ### puts_at -/
abbrev N_puts_at : List Str := ["atom", "wheel", "by", "found", "rest", "last", "when", "more", "fore", "put", "weight"]
noncomputable def b_puts_at : SM := fSeq (fAsg (g2 oIx (gVar 0) (gC (.int 1))) (gPat [8, 5] (tgStar false 2 0 (tgCons (tgN) (tgCons (tgN) (tgNil))))))
    (fSeq (fSet 2 (gCB oAbs (aCons (gVar 5) (aNil))))
    (fSeq (fSet 3 (gLst true (aNil)))
    (fSeq (fFor (gRng1 (aCons (gVar 2) (aNil))) (gPat [4] (tgN))
    (fSeq (fSet 6 (gTup (aCons (gC (.str "rest")) (aCons (gCB oTuple (aCons (gVar 8) (aNil))) (aCons (gVar 2) (aCons (g2 (oMod) (g2 (oAdd false) (g2 oIx (gVar 0) (gC (.int 2))) (gVar 4)) (gVar 2)) (aNil)))))))
    (fFor (gRng1 (aCons (gVar 1) (aNil))) (gPat [7] (tgN))
    (fSeq (fIf (gB (g2 (oGt) (gVar 5) (gC (.int 0))))
    (fSet 9 (gMakeN "Put" 2 1 4 m_Put___init__ (fun xs zs => xs ++ zs) (aCons (gCB oTuple (aCons (gLc false (gIt (gVar 8)) [10] [10] (tgN) (gYes) (g1 oNeg (gVar 10))) (aNil))) (aCons (g2 (oAdd false) (g2 (oAdd false) (g2 oIx (gVar 0) (gC (.int 2))) (gVar 4)) (g2 (oMul false) (gVar 2) (gVar 7))) (aNil))) (aCons (gVar 2) (aNil))))
    (fSet 9 (gMakeN "Put" 2 1 4 m_Put___init__ (fun xs zs => xs ++ zs) (aCons (gCB oTuple (aCons (gVar 8) (aNil))) (aCons (g2 (oSub) (g2 (oSub) (g2 (oMul false) (gVar 2) (g2 (oAdd false) (gVar 7) (gC (.int 1)))) (g2 oIx (gVar 0) (gC (.int 2)))) (gVar 4)) (aNil))) (aCons (gVar 2) (aNil)))))
    (fDrop (gMt .list (oAppend) (gVar 3) (aCons (gTup (aCons (gVar 9) (aCons (gVar 6) (aNil)))) (aNil))))))))
    (fRet (gFrz (gVar 3))))))
noncomputable def m_puts_at : FnS := (semD 2 11 b_puts_at)
/-! ### common_part -/
abbrev N_common_part : List Str := ["one", "other"]
noncomputable def b_common_part : SM := fSeq (fPar 0 1 (aCons (gCB oAbs (aCons (gVar 0) (aNil))) (aCons (gCB oAbs (aCons (gVar 1) (aNil))) (aNil))))
    (fSeq (fWhile (gB (g2 (oNe) (gVar 1) (gC (.int 0))))
    (fPar 0 1 (aCons (gVar 1) (aCons (g2 (oMod) (gVar 0) (gVar 1)) (aNil)))))
    (fRet (gVar 0)))
noncomputable def m_common_part : FnS := (semD 2 2 b_common_part)
/-! ### wheel_of -/
abbrev N_wheel_of : List Str := ["sentence", "found", "atom", "one", "last", "fore"]
noncomputable def b_wheel_of : SM := fSeq (fSet 1 (gC (.int 1)))
    (fSeq (fFor (gIt (gCall 1 (m_atoms_of 40) (aCons (gVar 0) (aNil)))) (gPat [2] (tgN))
    (fIf (gB (g2 (oEq) (g2 oIx (gVar 2) (gC (.int 0))) (gC (.str "rest"))))
    (fSeq (fAsg (g2 oIx (gVar 2) (gC (.int 1))) (gPat [5, 4] (tgStar false 2 0 (tgCons (tgN) (tgCons (tgN) (tgNil))))))
    (fSeq (fSet 3 (g2 (oDiv) (g2 oIx (gVar 2) (gC (.int 2))) (gCall 2 m_common_part (aCons (g2 oIx (gVar 2) (gC (.int 2))) (aCons (gVar 4) (aNil))))))
    (fSet 1 (g2 (oDiv) (g2 (oMul false) (gVar 1) (gVar 3)) (gCall 2 m_common_part (aCons (gVar 1) (aCons (gVar 3) (aNil))))))))
    (fNext)))
    (fRet (gVar 1)))
noncomputable def m_wheel_of : FnS := (semD 1 6 b_wheel_of)
/-! ### plainly_some -/
abbrev N_plainly_some : List Str := ["sentence", "wheel", "nought", "found", "atom", "more", "put", "when"]
noncomputable def b_plainly_some : SM := fSeq (fSet 1 (gCall 1 m_wheel_of (aCons (gVar 0) (aNil))))
    (fSeq (fSet 2 (g2 (oMulT false) (gTup (aCons (gC (.int 0)) (aNil))) (g2 (oSub) (gCall 1 m_many_of (aCons (gVar 0) (aNil))) (gC (.int 1)))))
    (fSeq (fSet 3 (gLc true (gRng1 (aCons (gVar 1) (aNil))) [5] [5] (tgN) (gYes) (gMeth [("Put", 2, (m_Put_into 40), [])] "into" (gMake "Put" 4 m_Put___init__ [.int 1] (aCons (gVar 2) (aCons (gVar 5) (aNil)))) (aCons (gVar 0) (aNil)))))
    (fSeq (fFor (gIt (gCall 1 m_breaking (aCons (gVar 0) (aNil)))) (gPat [4] (tgN))
    (fFor (gIt (gCall 2 m_puts_at (aCons (gVar 4) (aCons (gVar 1) (aNil))))) (gPat [6, 7] (tgTup 2 (tgCons (tgN) (tgCons (tgN) (tgNil)))))
    (fDrop (gMt .list (oAppend) (gVar 3) (aCons (gTup (aCons (gC (.str "and")) (aCons (gVar 7) (aCons (gTup (aCons (gC (.str "and")) (aCons (gMeth [("Put", 1, m_Put_is_number, [])] "is_number" (gVar 6) aNil) (aCons (gMeth [("Put", 2, (m_Put_into 40), [])] "into" (gVar 6) (aCons (gVar 0) (aNil))) (aNil))))) (aNil))))) (aNil))))))
    (fRet (gCall 1 m_any_of (aCons (gVar 3) (aNil)))))))
noncomputable def m_plainly_some : FnS := pureS (semD 1 8 b_plainly_some)
/-! ### sought_by -/
abbrev N_sought_by : List Str := ["question", "word", "sentence"]
noncomputable def b_sought_by : SM := fSeq (fAsg (gVar 0) (gPat [1, 2] (tgTup 2 (tgCons (tgN) (tgCons (tgN) (tgNil))))))
    (fRet (gIf (gB (g2 (oEq) (gVar 1) (gC (.str "some")))) (gVar 2) (gTup (aCons (gC (.str "not")) (aCons (gVar 2) (aNil))))))
noncomputable def m_sought_by : FnS := (semD 1 3 b_sought_by)
/-! ### plainly -/
abbrev N_plainly : List Str := ["question", "found"]
noncomputable def b_plainly : SM := fSeq (fSet 1 (gCall 1 m_plainly_some (aCons (gCall 1 m_sought_by (aCons (gVar 0) (aNil))) (aNil))))
    (fRet (gIf (gB (g2 (oEq) (g2 oIx (gVar 0) (gC (.int 0))) (gC (.str "some")))) (gVar 1) (gTup (aCons (gC (.str "not")) (aCons (gVar 1) (aNil))))))
noncomputable def m_plainly : FnS := (semD 1 2 b_plainly)
/-! ### places_between -/
abbrev N_places_between : List Str := ["text", "found", "deep", "at", "sign", "word"]
noncomputable def b_places_between : SM := fSeq (fSet 1 (gLst true (aNil)))
    (fSeq (fSet 2 (gC (.int 0)))
    (fSeq (fFor (gEnum (aCons (gVar 0) (aNil))) (gPat [3, 4] (tgTup 2 (tgCons (tgN) (tgCons (tgN) (tgNil)))))
    (fSeq (fAug 2 (oI0 fun i j => i + j) (gTGet tb_DEEPER (gVar 4) (gC (.int 0))))
    (fFor (gIt (gTup (aCons (gC (.str "and")) (aCons (gC (.str "or")) (aNil))))) (gPat [5] (tgN))
    (fIf (gAndT (gB (g2 (oEq) (gVar 2) (gC (.int 0)))) (gB (g2 (oEq) (gSl false (gVar 0) (pSo (gVar 3)) (pSo (g2 (oAdd false) (g2 (oAdd false) (gVar 3) (gCB oLen (aCons (gVar 5) (aNil)))) (gC (.int 2))))) (g2 (oAdd false) (g2 (oAdd false) (gC (.str " ")) (gVar 5)) (gC (.str " "))))))
    (fDrop (gMt .list (oAppend) (gVar 1) (aCons (gTup (aCons (gVar 3) (aCons (gVar 5) (aNil)))) (aNil))))
    (fNext)))))
    (fRet (gFrz (gVar 1)))))
noncomputable def m_places_between : FnS := pureS (semD 1 6 b_places_between)
/-! ### number_in -/
abbrev N_number_in : List Str := ["word", "least", "most", "found", "number"]
noncomputable def b_number_in : SM := fSeq (fSet 3 (gLc false (gRng2 (aCons (gVar 1) (aCons (g2 (oAdd false) (gVar 2) (gC (.int 1))) (aNil)))) [4] [4] (tgN) (gB (g2 (oEq) (gCB oStr (aCons (gVar 4) (aNil))) (gVar 0))) (gVar 4)))
    (fRet (gIf (gB (g2 (oNe) (gVar 3) (gLst false (aNil)))) (g2 oIx (gVar 3) (gC (.int 0))) (gC .non)))
noncomputable def m_number_in : FnS := (semD 3 5 b_number_in)
/-! ### simple_in -/
abbrev N_simple_in : List Str := ["text", "weights", "part", "left", "word", "bound", "rest", "one"]
noncomputable def b_simple_in : SM := fSeq (fAsg (gMt .str (oSplit false) (gVar 0) (aCons (gC (.str " ")) (aNil))) (gPat [4, 6] (tgStar false 2 1 (tgCons (tgN) (tgCons (tgN) (tgNil))))))
    (fSeq (fIf (gOrT (gB (g2 (oEq) (gVar 6) (gLst false (aNil)))) (gB (g2 (oNe) (gTGet tb_NUMBERS (gVar 4) (gC (.int 0))) (gCB oLen (aCons (gVar 6) (aNil))))))
    (fRet (gC .non))
    (fNext))
    (fSeq (fSet 1 (gCB oTuple (aCons (gLc false (gIt (gMt .str (oSplit false) (g2 oIx (gVar 6) (gC (.int 0))) (aCons (gC (.str ",")) (aNil)))) [7] [7] (tgN) (gYes) (gCall 3 m_number_in (aCons (gVar 7) (aCons (g1 oNeg (gC (.int (3)))) (aCons (gC (.int (3))) (aNil)))))) (aNil))))
    (fSeq (fIf (gOrT (gB (g2 (oGt) (gCB oLen (aCons (gVar 1) (aNil))) (gC (.int (3))))) (gB (g2 (oInA) (gC .non) (gVar 1))))
    (fRet (gC .non))
    (fNext))
    (fSeq (fIf (gB (g2 (oEq) (gVar 4) (gC (.str "least"))))
    (fSeq (fSet 5 (gCall 3 m_number_in (aCons (g2 oIx (gVar 6) (gC (.int 1))) (aCons (g1 oNeg (gC (.int (4)))) (aCons (gC (.int (4))) (aNil))))))
    (fRet (gIf (gB (g2 (oIsN) (gVar 5) (gC .non))) (gC .non) (gTup (aCons (gVar 4) (aCons (gVar 1) (aCons (gVar 5) (aNil))))))))
    (fNext))
    (fSeq (fSet 2 (gCall 3 m_number_in (aCons (g2 oIx (gVar 6) (gC (.int 1))) (aCons (gC (.int 2)) (aCons (gC (.int (5))) (aNil))))))
    (fSeq (fSet 3 (gIf (gB (g2 (oIsN) (gVar 2) (gC .non))) (gC .non) (gCall 3 m_number_in (aCons (g2 oIx (gVar 6) (gC (.int 2))) (aCons (gC (.int 0)) (aCons (g2 (oSub) (gVar 2) (gC (.int 1))) (aNil)))))))
    (fRet (gIf (gB (g2 (oIsN) (gVar 3) (gC .non))) (gC .non) (gTup (aCons (gVar 4) (aCons (gVar 1) (aCons (gVar 2) (aCons (gVar 3) (aNil))))))))))))))
noncomputable def m_simple_in : FnS := (semD 1 8 b_simple_in)
/-! ### both_in -/
abbrev N_both_in : List Str := ["text", "within", "places", "one", "other", "at", "word"]
noncomputable def b_both_in (r_sentence_in : FnS) : SM := fSeq (fSet 2 (gCall 1 m_places_between (aCons (gVar 0) (aNil))))
    (fSeq (fIf (gB (g2 (oNe) (gCB oLen (aCons (gVar 2) (aNil))) (gC (.int 1))))
    (fRet (gC .non))
    (fNext))
    (fSeq (fAsg (g2 oIx (gVar 2) (gC (.int 0))) (gPat [5, 6] (tgTup 2 (tgCons (tgN) (tgCons (tgN) (tgNil))))))
    (fSeq (fSet 3 (gCall 2 r_sentence_in (aCons (gSl false (gVar 0) (pNo) (pSo (gVar 5))) (aCons (g2 (oAdd false) (gVar 1) (gC (.int 1))) (aNil)))))
    (fSeq (fSet 4 (gCall 2 r_sentence_in (aCons (gSl false (gVar 0) (pSo (g2 (oAdd false) (g2 (oAdd false) (gVar 5) (gCB oLen (aCons (gVar 6) (aNil)))) (gC (.int 2)))) (pNo)) (aCons (g2 (oAdd false) (gVar 1) (gC (.int 1))) (aNil)))))
    (fRet (gIf (gOrT (gB (g2 (oIsN) (gVar 3) (gC .non))) (gB (g2 (oIsN) (gVar 4) (gC .non)))) (gC .non) (gTup (aCons (gVar 6) (aCons (gVar 3) (aCons (gVar 4) (aNil)))))))))))
noncomputable def a_both_in (r_sentence_in : FnS) : FnS := (semD 2 7 (b_both_in r_sentence_in))
/-! ### sentence_in -/
abbrev N_sentence_in : List Str := ["text", "within", "one"]
noncomputable def b_sentence_in (r_sentence_in : FnS) : SM := fSeq (fIf (gB (g2 (oGt) (gVar 1) (gC (.int (2)))))
    (fRet (gC .non))
    (fNext))
    (fSeq (fIf (gB (g2 (oEq) (gSl false (gVar 0) (pNo) (pSo (gC (.int 4)))) (gC (.str "not "))))
    (fSeq (fSet 2 (gCall 2 r_sentence_in (aCons (gSl false (gVar 0) (pSo (gC (.int 4))) (pNo)) (aCons (g2 (oAdd false) (gVar 1) (gC (.int 1))) (aNil)))))
    (fRet (gIf (gB (g2 (oIsN) (gVar 2) (gC .non))) (gC .non) (gTup (aCons (gC (.str "not")) (aCons (gVar 2) (aNil)))))))
    (fNext))
    (fSeq (fIf (gAndT (gB (g2 (oEq) (gSl false (gVar 0) (pNo) (pSo (gC (.int 1)))) (gC (.str "(")))) (gB (g2 (oEq) (gSl false (gVar 0) (pSo (g1 oNeg (gC (.int 1)))) (pNo)) (gC (.str ")")))))
    (fRet (gCall 2 (a_both_in r_sentence_in) (aCons (gSl false (gVar 0) (pSo (gC (.int 1))) (pSo (g1 oNeg (gC (.int 1))))) (aCons (gVar 1) (aNil)))))
    (fNext))
    (fRet (gCall 1 m_simple_in (aCons (gVar 0) (aNil))))))
noncomputable def m_sentence_in : Nat → FnS
  | 0 => fun _ _ => none
  | n + 1 => (semD 2 3 (b_sentence_in (m_sentence_in n)))
/-! ### read_sentence -/
abbrev N_read_sentence : List Str := ["text", "sentence", "one"]
noncomputable def b_read_sentence : SM := fSeq (fSet 1 (gCall 2 (m_sentence_in 40) (aCons (gVar 0) (aCons (gC (.int 0)) (aNil)))))
    (fSeq (fIf (gOrT (gB (g2 (oIsN) (gVar 1) (gC .non))) (gB (g2 (oGt) (gLenSc (gIt (gCall 1 (m_atoms_of 40) (aCons (gVar 1) (aNil)))) [2] [2] tgN (gYes) (gCB oLen (aCons (g2 oIx (gVar 2) (gC (.int 1))) (aNil)))) (gC (.int 1)))))
    (fNever)
    (fNext))
    (fRet (gVar 1)))
noncomputable def m_read_sentence : FnS := (semD 1 3 b_read_sentence)
/-! ### show_sentence -/
abbrev N_show_sentence : List Str := ["sentence", "word", "one", "other", "rest", "weights", "numbers", "number", "weight"]
noncomputable def b_show_sentence (r_show_sentence : FnS) : SM := fSeq (fAsg (gVar 0) (gPat [1, 4] (tgStar false 2 1 (tgCons (tgN) (tgCons (tgN) (tgNil))))))
    (fSeq (fIf (gB (g2 (oTIn "NUMBERS" tb_NUMBERS false) (gVar 1) (gC (.glb "NUMBERS"))))
    (fSeq (fAsg (gVar 4) (gPat [5, 6] (tgStar false 2 1 (tgCons (tgN) (tgCons (tgN) (tgNil))))))
    (fRet (gMt .str (oJoin) (gC (.str " ")) (aCons (g2 (oAdd false) (gLst false (aCons (gVar 1) (aCons (gMt .str (oJoin) (gC (.str ",")) (aCons (gLc false (gIt (gVar 5)) [8] [8] (tgN) (gYes) (gCB oStr (aCons (gVar 8) (aNil)))) (aNil))) (aNil)))) (gLc false (gIt (gVar 6)) [7] [7] (tgN) (gYes) (gCB oStr (aCons (gVar 7) (aNil))))) (aNil)))))
    (fNext))
    (fSeq (fIf (gB (g2 (oEq) (gVar 1) (gC (.str "not"))))
    (fRet (g2 (oAdd false) (gC (.str "not ")) (gCall 1 r_show_sentence (aCons (g2 oIx (gVar 4) (gC (.int 0))) (aNil)))))
    (fNext))
    (fSeq (fAsg (gVar 4) (gPat [2, 3] (tgTup 2 (tgCons (tgN) (tgCons (tgN) (tgNil))))))
    (fRet (jsD [gC (.str "("), gFmt (gCall 1 r_show_sentence (aCons (gVar 2) (aNil))), gC (.str " "), gFmt (gVar 1), gC (.str " "), gFmt (gCall 1 r_show_sentence (aCons (gVar 3) (aNil))), gC (.str ")")] Str.empty)))))
noncomputable def m_show_sentence : Nat → FnS
  | 0 => fun _ _ => none
  | n + 1 => (semD 1 9 (b_show_sentence (m_show_sentence n)))
/-! ### law_k83 -/
abbrev N_law_k83 : List Str := ["script", "jar", "turn", "question", "told", "sentence", "text"]
noncomputable def b_law_k83 : SM := fSeq (fSet 1 (gCall 1 m__law_jar (aCons (gVar 0) (aNil))))
    (fSeq (fFor (gRng1 (aCons (gC (.int 8)) (aNil))) (gPat [2] (tgN))
    (fSeq (fSet 5 (gCall 3 (m__law_sentence 40) (aCons (gVar 1) (aCons (g2 (oAdd false) (gC (.int 1)) (gCall 2 m__law_pick (aCons (gVar 1) (aCons (gC (.int 3)) (aNil))))) (aCons (gC (.int 2)) (aNil))))))
    (fSeq (fSet 6 (gCall 1 (m__law_written 40) (aCons (gVar 5) (aNil))))
    (fIf (gOrT (gNotT (gTr (gCall 2 (m__law_same 40) (aCons (gCall 1 (m_show_sentence 40) (aCons (gVar 5) (aNil))) (aCons (gVar 6) (aNil)))))) (gNotT (gTr (gCall 2 (m__law_same 40) (aCons (gCall 1 m_read_sentence (aCons (gVar 6) (aNil))) (aCons (gVar 5) (aNil)))))))
    (fRet (gC (.bl false)))
    (fNext)))))
    (fSeq (fSet 3 (gTup (aCons (g2 oIx (gLst false (aCons (gC (.str "some")) (aCons (gC (.str "all")) (aNil)))) (gCall 2 m__law_pick (aCons (gVar 1) (aCons (gC (.int 2)) (aNil))))) (aCons (gCall 3 (m__law_sentence 40) (aCons (gVar 1) (aCons (g2 (oAdd false) (gC (.int 2)) (gCall 2 m__law_pick (aCons (gVar 1) (aCons (gC (.int 2)) (aNil))))) (aCons (gCall 2 m__law_pick (aCons (gVar 1) (aCons (gC (.int 2)) (aNil)))) (aNil))))) (aNil)))))
    (fSeq (fSet 4 (gCall 1 m_plainly (aCons (gVar 3) (aNil))))
    (fRet (gCall 2 (m__law_same 40) (aCons (gCall 1 (m_show_sentence 40) (aCons (gVar 4) (aNil))) (aCons (gCall 1 (m__law_written 40) (aCons (gVar 4) (aNil))) (aNil))))))))
noncomputable def m_law_k83 : FnS := (semD 1 7 b_law_k83)
/-! ### the end -/
end Cs
set_option linter.all false
set_option maxRecDepth 100000
set_option maxHeartbeats 1000000
namespace Cs
open PySem L2 Dm
inductive Sn where
  | least (ws : List Int) (c : Int) | rest (ws : List Int) (m r : Int) | no (s : Sn) | two (w : Bool) (a b : Sn)
def wd (w : Bool) : Str := if w then "and" else "or"
def enc : Sn → D
  | .least ws c => .tup [.str "least", .tup (ws.map .int), .int c]
  | .rest ws m r => .tup [.str "rest", .tup (ws.map .int), .int m, .int r]
  | .no s => .tup [.str "not", enc s]
  | .two w a b => .tup [.str (wd w), enc a, enc b]
def nums (ws : List Int) : Str := Txt.join "," (ws.map strI)
def txt : Sn → Str
  | .least ws c => Txt.join " " ["least", nums ws, strI c]
  | .rest ws m r => Txt.join " " ["rest", nums ws, strI m, strI r]
  | .no s => "not " ++ txt s
  | .two w a b => ((((((Str.empty ++ "(") ++ txt a) ++ " ") ++ wd w) ++ " ") ++ txt b) ++ ")"
/-! words apart -/
@[simp] theorem w1 : (("not" : Str) = "least") ↔ False := ⟨by decide, False.elim⟩
@[simp] theorem w2 : (("not" : Str) = "rest") ↔ False := ⟨by decide, False.elim⟩
@[simp] theorem w3 : (("and" : Str) = "least") ↔ False := ⟨by decide, False.elim⟩
@[simp] theorem w4 : (("and" : Str) = "rest") ↔ False := ⟨by decide, False.elim⟩
@[simp] theorem w5 : (("or" : Str) = "least") ↔ False := ⟨by decide, False.elim⟩
@[simp] theorem w6 : (("or" : Str) = "rest") ↔ False := ⟨by decide, False.elim⟩
@[simp] theorem w7 : (("and" : Str) = "not") ↔ False := ⟨by decide, False.elim⟩
@[simp] theorem w8 : (("or" : Str) = "not") ↔ False := ⟨by decide, False.elim⟩
@[simp] theorem w9 : (("least" : Str) = "not") ↔ False := ⟨by decide, False.elim⟩
@[simp] theorem w10 : (("rest" : Str) = "not") ↔ False := ⟨by decide, False.elim⟩
@[simp] theorem w11 : (("rest" : Str) = "least") ↔ False := ⟨by decide, False.elim⟩
@[simp] theorem w12 : (("least" : Str) = "rest") ↔ False := ⟨by decide, False.elim⟩
@[simp] theorem n1 : tb_NUMBERS.lookup ("not" : Str) = none := by decide
@[simp] theorem n2 : tb_NUMBERS.lookup ("and" : Str) = none := by decide
@[simp] theorem n3 : tb_NUMBERS.lookup ("or" : Str) = none := by decide
@[simp] theorem n4 : tb_NUMBERS.lookup ("least" : Str) = some 2 := by decide
@[simp] theorem n5 : tb_NUMBERS.lookup ("rest" : Str) = some 3 := by decide
@[simp] theorem tin {z : Str} {S : Store} : oTIn "NUMBERS" tb_NUMBERS false (.str z) (.glb "NUMBERS") S = some (.bl (tb_NUMBERS.lookup z).isSome, S) := by
  simp [oTIn]
theorem la (a b : Str) : (a ++ b).length = a.length + b.length := by
  show (a.cps ++ b.cps).size = _
  rw [Array.size_append]
  rfl
theorem ifle {α : Type} {n m : Nat} {a b : α} (h : n ≤ m) : (if n ≤ m then a else b) = a := if_pos h
theorem show_no {n : Nat} {s : Sn} {S : Store} (h : m_show_sentence n [enc s] S = some (.ok (.str (txt s)), S)) (hl : (txt s).length ≤ 10000000) :
    m_show_sentence (n + 1) [enc (.no s)] S = some (.ok (.str (txt (.no s))), S) := by
  unfold m_show_sentence
  unfold b_show_sentence
  have e : (Str.ofString "not ").length = 4 := by decide
  simp [startD, tgStar, enc, tgCons, setA, h, txt]
  rw [v_addS (by omega)]
  simp
theorem show_two {n : Nat} {w : Bool} {s t : Sn} {S : Store} (h : m_show_sentence n [enc s] S = some (.ok (.str (txt s)), S)) (h2 : m_show_sentence n [enc t] S = some (.ok (.str (txt t)), S)) (hl : (txt s).length ≤ 5000000) (hl2 : (txt t).length ≤ 5000000) :
    m_show_sentence (n + 1) [enc (.two w s t)] S = some (.ok (.str (txt (.two w s t))), S) := by
  unfold m_show_sentence
  unfold b_show_sentence
  have e : (Str.ofString " ").length = 1 := by decide
  have e1 : (Str.ofString "(").length = 1 := by decide
  have e2 : (Str.ofString ")").length = 1 := by decide
  have e3 : (Str.ofString "and").length = 3 := by decide
  have e4 : (Str.ofString "or").length = 2 := by decide
  have e5 : (Str.empty).length = 0 := by decide
  cases w <;> simp (disch := first | (simp; done) | omega | (simp only [la, e, e1, e2, e3, e4, e5]; omega)) [startD, tgStar, tgTup, enc, tgCons, setA, h, h2, txt, wd, e, e1, e2, e3, e4, e5, ifle]
/-! numbers -/
def Small (i : Int) : Prop := i.natAbs.log2 < 1920 ∧ (strI i).length ≤ 1000
theorem lcW_str {ws : List Int} {k : Nat} {ρ0 : Dm.Env} {S : Store} (hk : k < ρ0.length) (h : ∀ i ∈ ws, Small i) (hl : ws.length ≤ 1000) :
    lcW (wkC (ws.map D.int)) [k] tgN gYes (gCB oStr (aCons (gVar k) aNil)) ρ0 [] S = some (ws.map (D.str ∘ strI), S) := by
  have e := lcW_map (i := k) (el := gCB oStr (aCons (gVar k) aNil)) (ρ0 := ρ0) (S := S) (xs := ws.map D.int) (fun d => match d with
    | .int i => .str (strI i)
    | d => d) (fun d hd => by
      obtain ⟨i, hi, rfl⟩ := List.mem_map.mp hd
      have q := h i hi
      have e2 : (ρ0.set k (some (D.int i)))[k]? = some (some (.int i)) := List.getElem?_set_self hk
      simp [e2, v_str (i := i) ⟨q.1, Nat.le_trans q.2 (by decide)⟩]) (by rw [List.length_map]; exact Nat.le_trans hl (by decide))
  rw [e, List.map_map]
  rfl
theorem lcW_str1 {c : Int} {k : Nat} {ρ0 : Dm.Env} {S : Store} (hk : k < ρ0.length) (h : Small c) :
    lcW (wkC [D.int c]) [k] tgN gYes (gCB oStr (aCons (gVar k) aNil)) ρ0 [] S = some ([.str (strI c)], S) :=
  lcW_str (ws := [c]) hk (by simpa using h) (show 1 ≤ 1000 by decide)
theorem lcW_str2 {c d : Int} {k : Nat} {ρ0 : Dm.Env} {S : Store} (hk : k < ρ0.length) (h : Small c) (h2 : Small d) :
    lcW (wkC [D.int c, D.int d]) [k] tgN gYes (gCB oStr (aCons (gVar k) aNil)) ρ0 [] S = some ([.str (strI c), .str (strI d)], S) :=
  lcW_str (ws := [c, d]) hk (by intro i hi; simp at hi; rcases hi with e | e <;> (subst e; assumption)) (show 2 ≤ 1000 by decide)
theorem sum_len {ws : List Int} (h : ∀ i ∈ ws, Small i) : ((ws.map strI).map (·.length)).sum ≤ 1000 * ws.length := by
  induction ws with
  | nil => simp
  | cons w r ih =>
    have h1 := (h w (List.mem_cons_self ..)).2
    have h2 := ih fun i hi => h i (List.mem_cons_of_mem _ hi)
    simp only [List.map_cons, List.sum_cons, List.length_cons]
    omega
theorem join_le (a : Str) (zs : List Str) : (Txt.join a zs).length ≤ (zs.map (·.length)).sum + zs.length * a.length := by
  rw [TL.join_eq]
  exact StrLaws.join_length_le a zs
structure Wts (ws : List Int) : Prop where
  sm : ∀ i ∈ ws, Small i
  le : ws.length ≤ 1000
theorem comma1 : (Str.ofString ",").length = 1 := by decide
theorem blank1 : (Str.ofString " ").length = 1 := by decide
theorem nums_le {ws : List Int} (h : Wts ws) : (nums ws).length ≤ 1001000 := by
  have h1 := join_le "," (ws.map strI)
  have h2 := sum_len h.sm
  have h3 := h.le
  rw [List.length_map, comma1] at h1
  unfold nums
  omega
theorem v_nums {ws : List Int} {S : Store} (h : Wts ws) : oJoin (.str ",") [.lst (ws.map (D.str ∘ strI))] S = some (.str (nums ws), S) := by
  rw [← List.map_map]
  have h2 := sum_len h.sm
  have h3 := h.le
  refine v_join ?_ (Nat.le_trans (nums_le h) (by decide))
  rw [List.length_map, comma1]
  omega
theorem v_joinE {ds : List D} {zs : List Str} {a : Str} {S : Store} (h0 : asS ds = some zs) (h : (zs.map (·.length)).sum + zs.length * a.length ≤ 16777216) : oJoin (.str a) [.lst ds] S = some (.str (Txt.join a zs), S) := by
  show ((sqA S (D.lst ds)).bind asS).bind _ = _
  rw [v_sqAL, Option.bind_some, h0, Option.bind_some]
  exact if_pos ⟨h, Nat.le_trans (join_le a zs) h⟩
theorem show_least {n : Nat} {ws : List Int} {c : Int} {S : Store} (h : Wts ws) (hc : Small c) : m_show_sentence (n + 1) [enc (.least ws c)] S = some (.ok (.str (txt (.least ws c))), S) := by
  unfold m_show_sentence
  unfold b_show_sentence
  have q := nums_le h
  have q1 : (Str.ofString "least").length = 5 := by decide
  have q2 := hc.2
  simp [startD, tgStar, enc, tgCons, setA, wipeA, lcW_str (ρ0 := _ :: _) _ h.sm h.le, lcW_str1 (ρ0 := _ :: _) _ hc, v_nums h]
  rw [v_addL (by simp)]
  simp
  rw [v_joinE (zs := ["least", nums ws, strI c]) rfl (by simp only [List.map_cons, List.map_nil, List.sum_cons, List.sum_nil, List.length_cons, List.length_nil, blank1, q1]; omega)]
  simp [txt]
theorem show_rest {n : Nat} {ws : List Int} {m r : Int} {S : Store} (h : Wts ws) (hm : Small m) (hr : Small r) : m_show_sentence (n + 1) [enc (.rest ws m r)] S = some (.ok (.str (txt (.rest ws m r))), S) := by
  unfold m_show_sentence
  unfold b_show_sentence
  have q := nums_le h
  have q1 : (Str.ofString "rest").length = 4 := by decide
  have q2 := hm.2
  have q3 := hr.2
  simp [startD, tgStar, enc, tgCons, setA, wipeA, lcW_str (ρ0 := _ :: _) _ h.sm h.le, lcW_str2 (ρ0 := _ :: _) _ hm hr, v_nums h]
  rw [v_addL (by simp)]
  simp
  rw [v_joinE (zs := ["rest", nums ws, strI m, strI r]) rfl (by simp only [List.map_cons, List.map_nil, List.sum_cons, List.sum_nil, List.length_cons, List.length_nil, blank1, q1]; omega)]
  simp [txt]
def Fit : Sn → Prop
  | .least ws c => Wts ws ∧ Small c
  | .rest ws m r => Wts ws ∧ Small m ∧ Small r
  | .no s => Fit s ∧ (txt s).length ≤ 5000000
  | .two _ a b => Fit a ∧ Fit b ∧ (txt a).length ≤ 5000000 ∧ (txt b).length ≤ 5000000
def dep : Sn → Nat
  | .least _ _ => 1
  | .rest _ _ _ => 1
  | .no s => dep s + 1
  | .two _ a b => max (dep a) (dep b) + 1
theorem show_all {S : Store} : ∀ (s : Sn) (n : Nat), Fit s → dep s ≤ n → m_show_sentence n [enc s] S = some (.ok (.str (txt s)), S)
  | .least ws c, 0, h, hd => by simp [dep] at hd
  | .rest ws m r, 0, h, hd => by simp [dep] at hd
  | .no s, 0, h, hd => by simp [dep] at hd
  | .two _ a b, 0, h, hd => by simp [dep] at hd
  | .least ws c, n + 1, h, hd => show_least h.1 h.2
  | .rest ws m r, n + 1, h, hd => show_rest h.1 h.2.1 h.2.2
  | .no s, n + 1, h, hd => show_no (show_all s n h.1 (by simp [dep] at hd; omega)) (Nat.le_trans h.2 (by decide))
  | .two w a b, n + 1, h, hd => show_two (show_all a n h.1 (by simp [dep] at hd; omega)) (show_all b n h.2.1 (by simp [dep] at hd; omega)) h.2.2.1 h.2.2.2
end Cs
set_option linter.all false
set_option maxRecDepth 100000
set_option maxHeartbeats 1000000
namespace Cs
open PySem L2 Dm
@[simp] theorem w13 : (("and" : Str) = "or") ↔ False := ⟨by decide, False.elim⟩
@[simp] theorem w14 : (("or" : Str) = "and") ↔ False := ⟨by decide, False.elim⟩
theorem lcW_two {k : Nat} {r : FnS} {x y : D} {u v : Str} {ρ0 : Dm.Env} {S : Store} (hk : k < ρ0.length) (h1 : r [x] S = some (.ok (.str u), S)) (h2 : r [y] S = some (.ok (.str v), S)) :
    lcW (wkC [x, y]) [k] tgN gYes (gCall 1 r (aCons (gVar k) aNil)) ρ0 [] S = some ([.str u, .str v], S) := by
  have e2 : ∀ d : D, (ρ0.set k (some d))[k]? = some (some d) := fun d => List.getElem?_set_self hk
  refine lcW_C (xs := [x, y]) (wkC [x, y]) [k] tgN gYes _ ρ0 (fun _ _ => rfl) ?_
  simp [lcL, setA, e2, h1, h2, show sizeLine = 16777216 from rfl]
theorem wr_no {n : Nat} {s : Sn} {S : Store} (h : m__law_written n [enc s] S = some (.ok (.str (txt s)), S)) (hl : (txt s).length ≤ 10000000) :
    m__law_written (n + 1) [enc (.no s)] S = some (.ok (.str (txt (.no s))), S) := by
  unfold m__law_written
  unfold b__law_written
  have e : (Str.ofString "not ").length = 4 := by decide
  simp [startD, enc, h, txt]
  rw [v_addS (by omega)]
  simp
theorem join2 (a x y : Str) : Txt.join a [x, y] = x ++ a ++ y := by
  rw [TL.join_eq]
  rfl
theorem wr_two {n : Nat} {w : Bool} {s t : Sn} {S : Store} (h : m__law_written n [enc s] S = some (.ok (.str (txt s)), S)) (h2 : m__law_written n [enc t] S = some (.ok (.str (txt t)), S)) (hl : (txt s).length ≤ 5000000) (hl2 : (txt t).length ≤ 5000000) :
    m__law_written (n + 1) [enc (.two w s t)] S = some (.ok (.str (txt (.two w s t))), S) := by
  unfold m__law_written
  unfold b__law_written
  have e : (Str.ofString " ").length = 1 := by decide
  have e1 : (Str.ofString "(").length = 1 := by decide
  have e2 : (Str.ofString ")").length = 1 := by decide
  have e3 : (Str.ofString "and").length = 3 := by decide
  have e4 : (Str.ofString "or").length = 2 := by decide
  cases w <;> simp [startD, enc, wd, wipeA, lcW_two (ρ0 := _ :: _) _ h h2, v_addS, e, e1, e2, e3, e4, la]
  all_goals
    rw [v_joinE (zs := [txt s, txt t]) rfl (by simp only [List.map_cons, List.map_nil, List.sum_cons, List.sum_nil, List.length_cons, List.length_nil, la, e, e3, e4]; omega)]
    simp [join2]
    rw [v_addS (by simp only [la, e, e1, e2, e3, e4]; omega)]
    simp
    rw [v_addS (by simp only [la, e, e1, e2, e3, e4]; omega)]
    simp [txt, wd]
    apply TL.ext_tl
    simp only [TL.tl_append, List.append_assoc]
    rfl
theorem join3 (a x y z : Str) : Txt.join a [x, y, z] = x ++ a ++ (y ++ a ++ z) := by
  rw [TL.join_eq]
  rfl
theorem join4 (a x y z u : Str) : Txt.join a [x, y, z, u] = x ++ a ++ (y ++ a ++ (z ++ a ++ u)) := by
  rw [TL.join_eq]
  rfl
theorem wr_least {n : Nat} {ws : List Int} {c : Int} {S : Store} (h : Wts ws) (hc : Small c) : m__law_written (n + 1) [enc (.least ws c)] S = some (.ok (.str (txt (.least ws c))), S) := by
  unfold m__law_written
  unfold b__law_written
  have q := nums_le h
  have q1 : (Str.ofString "least").length = 5 := by decide
  have q2 := hc.2
  have e : (Str.ofString " ").length = 1 := by decide
  simp [startD, enc, wipeA, lcW_str (ρ0 := _ :: _) _ h.sm h.le, v_nums h, v_addS, q1, e]
  rw [v_addS (by simp only [la, e, q1]; omega)]
  simp [setA]
  rw [v_addS (by simp only [la, e, q1]; omega)]
  simp [v_str (i := c) ⟨hc.1, Nat.le_trans hc.2 (by decide)⟩]
  rw [v_addS (by simp only [la, e, q1]; omega)]
  simp [txt, join3]
  apply TL.ext_tl
  simp only [TL.tl_append, List.append_assoc]
theorem wr_rest {n : Nat} {ws : List Int} {c d : Int} {S : Store} (h : Wts ws) (hc : Small c) (hd : Small d) : m__law_written (n + 1) [enc (.rest ws c d)] S = some (.ok (.str (txt (.rest ws c d))), S) := by
  unfold m__law_written
  unfold b__law_written
  have q := nums_le h
  have q1 : (Str.ofString "rest").length = 4 := by decide
  have q2 := hc.2
  have q3 := hd.2
  have e : (Str.ofString " ").length = 1 := by decide
  simp [startD, enc, wipeA, lcW_str (ρ0 := _ :: _) _ h.sm h.le, v_nums h, v_addS, q1, e]
  rw [v_addS (by simp only [la, e, q1]; omega)]
  simp [setA]
  rw [v_addS (by simp only [la, e, q1]; omega)]
  simp [v_str (i := c) ⟨hc.1, Nat.le_trans hc.2 (by decide)⟩, v_str (i := d) ⟨hd.1, Nat.le_trans hd.2 (by decide)⟩]
  rw [v_addS (by simp only [la, e, q1]; omega)]
  simp [setA]
  rw [v_addS (by simp only [la, e, q1]; omega)]
  simp [v_str (i := c) ⟨hc.1, Nat.le_trans hc.2 (by decide)⟩, v_str (i := d) ⟨hd.1, Nat.le_trans hd.2 (by decide)⟩]
  rw [v_addS (by simp only [la, e, q1]; omega)]
  simp [txt, join4]
  apply TL.ext_tl
  simp only [TL.tl_append, List.append_assoc]
theorem wr_all {S : Store} : ∀ (s : Sn) (n : Nat), Fit s → dep s ≤ n → m__law_written n [enc s] S = some (.ok (.str (txt s)), S)
  | .least ws c, 0, h, hd => by simp [dep] at hd
  | .rest ws m r, 0, h, hd => by simp [dep] at hd
  | .no s, 0, h, hd => by simp [dep] at hd
  | .two _ a b, 0, h, hd => by simp [dep] at hd
  | .least ws c, n + 1, h, hd => wr_least h.1 h.2
  | .rest ws m r, n + 1, h, hd => wr_rest h.1 h.2.1 h.2.2
  | .no s, n + 1, h, hd => wr_no (wr_all s n h.1 (by simp [dep] at hd; omega)) (Nat.le_trans h.2 (by decide))
  | .two w a b, n + 1, h, hd => wr_two (wr_all a n h.1 (by simp [dep] at hd; omega)) (wr_all b n h.2.1 (by simp [dep] at hd; omega)) h.2.2.1 h.2.2.2
end Cs
set_option linter.all false
set_option maxRecDepth 100000
set_option maxHeartbeats 1000000
namespace Cs
open PySem L2 Dm
section
variable {S : Store} {a : Str} {i : Int} {xs : List D}
@[simp] theorem k_sb : kIsi "bool" (some (.ok (.str a), S)) = some (.ok (.bl false), S) := kIsi_ok (n := "str") rfl (by decide)
@[simp] theorem k_si : kIsi "int" (some (.ok (.str a), S)) = some (.ok (.bl false), S) := kIsi_ok (n := "str") rfl (by decide)
@[simp] theorem k_ss : kIsi "str" (some (.ok (.str a), S)) = some (.ok (.bl true), S) := kIsi_ok (n := "str") rfl (by decide)
@[simp] theorem k_ib : kIsi "bool" (some (.ok (.int i), S)) = some (.ok (.bl false), S) := kIsi_ok (n := "int") rfl (by decide)
@[simp] theorem k_ii : kIsi "int" (some (.ok (.int i), S)) = some (.ok (.bl true), S) := kIsi_ok (n := "int") rfl (by decide)
@[simp] theorem k_tb : kIsi "bool" (some (.ok (.tup xs), S)) = some (.ok (.bl false), S) := kIsi_ok (n := "tuple") rfl (by decide)
@[simp] theorem k_ti : kIsi "int" (some (.ok (.tup xs), S)) = some (.ok (.bl false), S) := kIsi_ok (n := "tuple") rfl (by decide)
@[simp] theorem k_ts : kIsi "str" (some (.ok (.tup xs), S)) = some (.ok (.bl false), S) := kIsi_ok (n := "tuple") rfl (by decide)
@[simp] theorem k_tt : kIsi "tuple" (some (.ok (.tup xs), S)) = some (.ok (.bl true), S) := kIsi_ok (n := "tuple") rfl (by decide)
@[simp] theorem k_tl : kIsi "list" (some (.ok (.tup xs), S)) = some (.ok (.bl false), S) := kIsi_ok (n := "tuple") rfl (by decide)
@[simp] theorem v_neB {k l : Bool} : oNe (.bl k) (.bl l) S = some (.bl (!decide (k = l)), S) := rfl
theorem same_str {n : Nat} : m__law_same (n + 1) [.str a, .str a] S = some (.ok (.bl true), S) := by
  unfold m__law_same
  unfold b__law_same
  simp [startD]
theorem same_int {n : Nat} : m__law_same (n + 1) [.int i, .int i] S = some (.ok (.bl true), S) := by
  unfold m__law_same
  unfold b__law_same
  simp [startD]
theorem lcW_same {r : FnS} {j k : Nat} {ρ0 : Dm.Env} (hj : j < ρ0.length) (hk : k < ρ0.length) (hjk : j ≠ k) (h : ∀ d ∈ xs, r [d, d] S = some (.ok (.bl true), S)) (hl : xs.length ≤ 1000) :
    lcW (wkZ false (.tup xs) (.tup xs)) [j, k] (tgTup 2 (tgCons tgN (tgCons tgN tgNil))) gYes (gCall 2 r (aCons (gVar j) (aCons (gVar k) aNil))) ρ0 [] S = some (List.replicate xs.length (.bl true), S) := by
  refine lcW_C (xs := (xs.zip xs).map fun p => D.tup [p.1, p.2]) _ _ _ _ _ ρ0 (fun i S => wkZ_eq rfl i S) ?_
  have key : ∀ (ys acc : List D), (∀ d ∈ ys, r [d, d] S = some (.ok (.bl true), S)) → acc.length + ys.length ≤ 1000 →
      lcL [j, k] (tgTup 2 (tgCons tgN (tgCons tgN tgNil))) gYes (gCall 2 r (aCons (gVar j) (aCons (gVar k) aNil))) ρ0 ((ys.zip ys).map fun p => D.tup [p.1, p.2]) acc S = some (acc ++ List.replicate ys.length (.bl true), S) := by
    intro ys
    induction ys with
    | nil => intro acc _ _; simp [lcL]
    | cons d t ih =>
      intro acc h hl
      have e1 : ((ρ0.set j (some d)).set k (some d))[j]? = some (some d) := by
        rw [List.getElem?_set_ne (Ne.symm hjk), List.getElem?_set_self hj]
      have e2 : ((ρ0.set j (some d)).set k (some d))[k]? = some (some d) := List.getElem?_set_self (by rw [List.length_set]; exact hk)
      have e3 := h d (List.mem_cons_self ..)
      rw [List.length_cons] at hl
      have e4 : acc.length < sizeLine := Nat.lt_of_lt_of_le (show acc.length < 1001 by omega) (by decide)
      simp [lcL, tgTup, tgCons, setA, e1, e2, e3, e4]
      rw [ih (acc ++ [D.bl true]) (fun d hd => h d (List.mem_cons_of_mem _ hd)) (by rw [List.length_append, List.length_singleton]; omega)]
      simp [List.replicate_succ]
  have := key xs [] h (by simpa using hl)
  simpa using this
theorem asB_rep : ∀ n : Nat, asB (List.replicate n (.bl true)) = some (List.replicate n true)
  | 0 => rfl
  | n + 1 => by show (asB (List.replicate n (.bl true))).map (true :: ·) = _; rw [asB_rep n]; rfl
theorem v_all (n : Nat) : oAll [.lst (List.replicate n (.bl true))] S = some (.bl true, S) := by
  show ((sqL S (D.lst (List.replicate n (.bl true)))).bind asB).bind _ = _
  show (asB (List.replicate n (.bl true))).bind _ = _
  rw [asB_rep]
  simp
theorem same_tup {n : Nat} (h : ∀ d ∈ xs, m__law_same n [d, d] S = some (.ok (.bl true), S)) (hl : xs.length ≤ 1000) : m__law_same (n + 1) [.tup xs, .tup xs] S = some (.ok (.bl true), S) := by
  unfold m__law_same
  unfold b__law_same
  simp [-e_lcW, -wkZ_ftt, startD, wipeA, lcW_same (ρ0 := _ :: _) _ _ _ h hl, v_all]
theorem same_ints {ws : List Int} {n : Nat} (hl : ws.length ≤ 1000) : m__law_same (n + 2) [.tup (ws.map .int), .tup (ws.map .int)] S = some (.ok (.bl true), S) :=
  same_tup (fun d hd => by
    obtain ⟨i, _, rfl⟩ := List.mem_map.mp hd
    exact same_int) (by rw [List.length_map]; exact hl)
theorem same_enc : ∀ (s : Sn) (n : Nat), Fit s → dep s ≤ n → m__law_same (n + 2) [enc s, enc s] S = some (.ok (.bl true), S)
  | .least ws c, 0, h, hd => by simp [dep] at hd
  | .rest ws m r, 0, h, hd => by simp [dep] at hd
  | .no s, 0, h, hd => by simp [dep] at hd
  | .two _ a b, 0, h, hd => by simp [dep] at hd
  | .least ws c, n + 1, h, hd => same_tup (fun d hd => by
      simp at hd
      rcases hd with e | e | e <;> subst e
      · exact same_str
      · exact same_ints h.1.le
      · exact same_int) (by simp)
  | .rest ws m r, n + 1, h, hd => same_tup (fun d hd => by
      simp at hd
      rcases hd with e | e | e | e <;> subst e
      · exact same_str
      · exact same_ints h.1.le
      · exact same_int
      · exact same_int) (by simp)
  | .no s, n + 1, h, hd => same_tup (fun d hd => by
      simp at hd
      rcases hd with e | e <;> subst e
      · exact same_str
      · exact same_enc s n h.1 (by simp [dep] at *; omega)) (by simp)
  | .two w a b, n + 1, h, hd => same_tup (fun d hd => by
      simp at hd
      rcases hd with e | e | e <;> subst e
      · exact same_str
      · exact same_enc a n h.1 (by simp [dep] at *; omega)
      · exact same_enc b n h.2.1 (by simp [dep] at *; omega)) (by simp)
end
end Cs
set_option linter.all false
set_option maxRecDepth 100000
set_option maxHeartbeats 1000000
namespace Cs
open PySem L2 Dm
section
variable {S : Store} {i j : Int}
theorem v_mul {bx : Bool} (h : CMul i j) : oMul bx (.int i) (.int j) S = some (.int (i * j), S) :=
  orO_s (orO_s (if_pos h))
theorem v_mulR {bx : Bool} (h : 0 ≤ j ∧ j < 2 ^ 64) : oMul bx (.int i) (.int j) S = some (.int (i * j), S) := v_mul (.inr ⟨by omega, h.2⟩)
theorem v_mulL {bx : Bool} (h : 0 ≤ i ∧ i < 2 ^ 64) : oMul bx (.int i) (.int j) S = some (.int (i * j), S) := v_mul (.inl ⟨by omega, h.2⟩)
theorem v_mod (h : 0 < j) : oMod (.int i) (.int j) S = some (.int (i % j), S) := if_pos h
theorem v_div (h : 0 < j ∧ j.natAbs.log2 < 9000) : oDiv (.int i) (.int j) S = some (.int (i / j), S) := if_pos h
theorem s_mod (h : 0 < j) : k2b (some (.ok (.int j), S)) oMod (.int i) = some (.ok (.int (i % j)), S) := by
  rw [k2b_ok, v_mod h]
  rfl
theorem s_div (h : 0 < j ∧ j.natAbs.log2 < 9000) : k2b (some (.ok (.int j), S)) oDiv (.int i) = some (.ok (.int (i / j)), S) := by
  rw [k2b_ok, v_div h]
  rfl
theorem s_mulR {bx : Bool} (h : 0 ≤ j ∧ j < 2 ^ 64) : k2b (some (.ok (.int j), S)) (oMul bx) (.int i) = some (.ok (.int (i * j)), S) := by
  rw [k2b_ok, v_mulR h]
  rfl
/-- one step of the mixer, its numbers unnamed -/
theorem mix_step {ρ : Dm.Env} {a b c : Int} (hρ : ρ[0]? = some (some (.int i))) (ha : 0 < a ∧ a.natAbs.log2 < 9000) (hb : 0 ≤ b ∧ b < 2 ^ 64) (hc : 0 < c) :
    fSet 0 (g2 oMod (g2 (oMul false) (g2 oXor (gVar 0) (g2 oDiv (gVar 0) (gC (.int a)))) (gC (.int b))) (gC (.int c))) ρ S = some (.nx (ρ.set 0 (some (.int (Builtin.bitXor i (i / a) * b % c)))), S) := by
  simp only [e_set, e_2, e_var, hρ, kVar_ok, k2_ok, e_c, s_div ha, k2b_ok, v_xor, e_okM, v_mulR hb, v_mod hc, kSet_ok, v_div ha]
theorem mix_last {ρ : Dm.Env} {a : Int} (hρ : ρ[0]? = some (some (.int i))) (ha : 0 < a ∧ a.natAbs.log2 < 9000) :
    fRet (g2 oXor (gVar 0) (g2 oDiv (gVar 0) (gC (.int a)))) ρ S = some (.rt (.int (Builtin.bitXor i (i / a))), S) := by
  simp only [e_ret, e_2, e_var, hρ, kVar_ok, k2_ok, e_c, k2b_ok, v_xor, e_okM, kRet_ok, v_div ha]
theorem bitXor_lt {x y : Int} {n : Nat} (hx : 0 ≤ x) (hy : 0 ≤ y) (h1 : x < 2 ^ n) (h2 : y < 2 ^ n) : Builtin.bitXor x y < 2 ^ n := by
  rw [Bits.bitXor_pp hx hy]
  have e : ((2 ^ n : Nat) : Int) = 2 ^ n := by simp
  have := Nat.xor_lt_two_pow (x := x.toNat) (y := y.toNat) (n := n) (by omega) (by omega)
  omega
theorem mix_gen {a b c d e f g : Int} (hf : 0 < f) (ha : 0 < a ∧ a.natAbs.log2 < 9000) (hb : 0 ≤ b ∧ b < 2 ^ 64) (hc : 0 < c) (hd : 0 < d ∧ d.natAbs.log2 < 9000) (he : 0 ≤ e ∧ e < 2 ^ 64) (hg : 0 < g ∧ g.natAbs.log2 < 9000) (hfm : f ≤ 2 ^ 64) :
    ∃ r : Int, 0 ≤ r ∧ r < 2 ^ 64 ∧ semD 1 1 (fSeq (fSet 0 (g2 oMod (g2 (oMul false) (g2 oXor (gVar 0) (g2 oDiv (gVar 0) (gC (.int a)))) (gC (.int b))) (gC (.int c))))
      (fSeq (fSet 0 (g2 oMod (g2 (oMul false) (g2 oXor (gVar 0) (g2 oDiv (gVar 0) (gC (.int d)))) (gC (.int e))) (gC (.int f))))
      (fRet (g2 oXor (gVar 0) (g2 oDiv (gVar 0) (gC (.int g))))))) [.int i] S = some (.ok (.int r), S) := by
  rw [e_sem1]
  show ∃ r : Int, 0 ≤ r ∧ r < 2 ^ 64 ∧ endD (fSeq _ _ [some (.int i)] S) = _
  rw [e_seq, mix_step (i := i) rfl ha hb hc, kSeq_nx, e_seq]
  show ∃ r : Int, 0 ≤ r ∧ r < 2 ^ 64 ∧ endD (kSeq (fSet _ _ [some (.int (Builtin.bitXor i (i / a) * b % c))] S) _) = _
  generalize Builtin.bitXor i (i / a) * b % c = z
  rw [mix_step (i := z) rfl hd he hf, kSeq_nx]
  show ∃ r : Int, 0 ≤ r ∧ r < 2 ^ 64 ∧ endD (fRet _ [some (.int (Builtin.bitXor z (z / d) * e % f))] S) = _
  have z0 : 0 ≤ Builtin.bitXor z (z / d) * e % f := Int.emod_nonneg _ (by omega)
  have z1 : Builtin.bitXor z (z / d) * e % f < f := Int.emod_lt_of_pos _ hf
  generalize Builtin.bitXor z (z / d) * e % f = y at z0 z1
  rw [mix_last (i := y) rfl hg, e_endR]
  have y0 : 0 ≤ y / g := Int.ediv_nonneg z0 (by omega)
  have y1 : y / g ≤ y := Int.ediv_le_self _ z0
  exact ⟨_, Bits.bitXor_nonneg z0 y0, bitXor_lt z0 y0 (by omega) (by omega), rfl⟩
theorem mix_ok (i : Int) : ∃ r : Int, 0 ≤ r ∧ r < 2 ^ 64 ∧ m__law_mix [.int i] S = some (.ok (.int r), S) :=
  mix_gen (by decide) (by decide +kernel) (by decide +kernel) (by decide) (by decide +kernel) (by decide +kernel) (by decide +kernel) (by decide +kernel)
end
end Cs
set_option linter.all false
set_option maxRecDepth 100000
set_option maxHeartbeats 1000000
namespace Cs
open PySem L2 Dm
/-! the jar -/
def jarC (q : Nat) (r s t : Int) : Cell := .dic 0 false [(.str "cells", .box q), (.str "rest", .int r), (.str "seed", .int s), (.str "turn", .int t)]
section
variable {S : Store} {p q : Nat} {r s t v : Int}
theorem ixD {x k d : D} (h0 : orO oIxL (orO oIxT oIxS) x k S = none) (h : dget S x k = some (some d)) : oIx x k S = some (d, S) := by
  refine (orO_n h0).trans ?_
  unfold oIxD
  rw [h]
theorem jget {k : Str} {d : D} (h : S[p]? = some (jarC q r s t)) (hk : findF keyK [(D.str "cells", D.box q), (.str "rest", .int r), (.str "seed", .int s), (.str "turn", .int t)] (Sum.inr k) = some d) : oIx (.box p) (.str k) S = some (d, S) := by
  refine ixD rfl ?_
  show (S[p]?).bind (fun c => dGetC c (.str k)) = _
  rw [h, Option.bind_some]
  show (some (Sum.inr k : Key)).map (findF keyK [(D.str "cells", D.box q), (.str "rest", .int r), (.str "seed", .int s), (.str "turn", .int t)]) = _
  rw [Option.map_some, hk]
theorem jget_cells (h : S[p]? = some (jarC q r s t)) : oIx (.box p) (.str "cells") S = some (.box q, S) := jget h rfl
theorem jget_rest (h : S[p]? = some (jarC q r s t)) : oIx (.box p) (.str "rest") S = some (.int r, S) := jget h rfl
theorem jget_seed (h : S[p]? = some (jarC q r s t)) : oIx (.box p) (.str "seed") S = some (.int s, S) := jget h rfl
theorem jget_turn (h : S[p]? = some (jarC q r s t)) : oIx (.box p) (.str "turn") S = some (.int t, S) := jget h rfl
theorem jset {k : Str} {d : D} {q' : Nat} {r' s' t' : Int} (h : S[p]? = some (jarC q r s t)) (hk : setF keyK [(D.str "cells", D.box q), (.str "rest", .int r), (.str "seed", .int s), (.str "turn", .int t)] (.str k) (Sum.inr k) d = [(D.str "cells", D.box q'), (.str "rest", .int r'), (.str "seed", .int s'), (.str "turn", .int t')]) :
    oSet S (.box p) (.str k) d = some (S.set p (jarC q' r' s' t')) := by
  show (S[p]?).bind (fun c => (dSetC c (.str k) d).map fun c' => S.set p c') = _
  rw [h, Option.bind_some]
  show (dSetC (.dic 0 false _) (.str k) d).map _ = _
  unfold dSetC
  simp only [jarC, keyK, Option.map_some]
  rw [if_pos ⟨True.intro, show 4 < sizeLine by decide⟩, if_pos True.intro, hk, Option.map_some]
theorem jset_rest (h : S[p]? = some (jarC q r s t)) : oSet S (.box p) (.str "rest") (.int v) = some (S.set p (jarC q v s t)) := jset h rfl
theorem jset_seed (h : S[p]? = some (jarC q r s t)) : oSet S (.box p) (.str "seed") (.int v) = some (S.set p (jarC q r v t)) := jset h rfl
theorem jset_turn (h : S[p]? = some (jarC q r s t)) : oSet S (.box p) (.str "turn") (.int v) = some (S.set p (jarC q r s v)) := jset h rfl
end
end Cs
set_option linter.all false
set_option maxRecDepth 100000
set_option maxHeartbeats 1000000
namespace Cs
open PySem L2 Dm
structure Jar (S : Store) (p q : Nat) : Prop where
  ne : p ≠ q
  ex : ∃ (r s t : Int) (cs : List Int), S[p]? = some (jarC q r s t) ∧ S[q]? = some (.lst (cs.map D.int))
/-- only the jar's two cells were written -/
structure Only (p q : Nat) (S S' : Store) : Prop where
  len : S'.length = S.length
  at_ : ∀ i, i ≠ p → i ≠ q → S'[i]? = S[i]?
theorem Only.refl (p q : Nat) (S : Store) : Only p q S S := ⟨rfl, fun _ _ _ => rfl⟩
theorem Only.trans {p q : Nat} {S S' S'' : Store} (a : Only p q S S') (b : Only p q S' S'') : Only p q S S'' := ⟨b.len.trans a.len, fun i h1 h2 => (b.at_ i h1 h2).trans (a.at_ i h1 h2)⟩
theorem Only.setp {p q : Nat} {S : Store} {c : Cell} : Only p q S (S.set p c) := ⟨List.length_set .., fun i h1 _ => List.getElem?_set_ne (Ne.symm h1)⟩
theorem Only.setq {p q : Nat} {S : Store} {c : Cell} : Only p q S (S.set q c) := ⟨List.length_set .., fun i _ h2 => List.getElem?_set_ne (Ne.symm h2)⟩
section
variable {S : Store} {p q : Nat} {r s t v : Int} {cs : List Int}
theorem Jar.setp (ne : p ≠ q) (hp : S[p]? = some (jarC q r s t)) (hq : S[q]? = some (.lst (cs.map D.int))) (r' s' t' : Int) : (S.set p (jarC q r' s' t'))[p]? = some (jarC q r' s' t') ∧ (S.set p (jarC q r' s' t'))[q]? = some (.lst (cs.map D.int)) :=
  ⟨List.getElem?_set_self (List.getElem?_eq_some_iff.mp hp).1, by rw [List.getElem?_set_ne ne]; exact hq⟩
/-- the end of it: the rest by total -/
theorem pick_end {total : Int} {ρ : Dm.Env} (ne : p ≠ q) (hp : S[p]? = some (jarC q r s t)) (hq : S[q]? = some (.lst (cs.map D.int))) (h0 : 0 < total) (h1 : total.natAbs.log2 < 9000) (e0 : ρ[0]? = some (some (.box p))) (e1 : ρ[1]? = some (some (.int total))) (e2 : 2 < ρ.length) :
    ∃ v S', 0 ≤ v ∧ v < total ∧ endD (fSeq (fSet 2 (g2 oMod (g2 oIx (gVar 0) (gC (.str "rest"))) (gVar 1)))
      (fSeq (fAsg (g2 oDiv (g2 oIx (gVar 0) (gC (.str "rest"))) (gVar 1)) (Dm.gSub (gVar 0) (gC (.str "rest")))) (fRet (gVar 2))) ρ S) = some (.ok (.int v), S') ∧ Jar S' p q ∧ Only p q S S' := by
  refine ⟨r % total, S.set p (jarC q (r / total) s t), Int.emod_nonneg _ (by omega), Int.emod_lt_of_pos _ h0, ?_, ⟨ne, _, _, _, _, Jar.setp ne hp hq (r / total) s t⟩, Only.setp⟩
  have a0 : (ρ.set 2 (some (.int (r % total))))[0]? = some (some (.box p)) := by rw [List.getElem?_set_ne (by decide)]; exact e0
  have a1 : (ρ.set 2 (some (.int (r % total))))[1]? = some (some (.int total)) := by rw [List.getElem?_set_ne (by decide)]; exact e1
  have a2 : (ρ.set 2 (some (.int (r % total))))[2]? = some (some (.int (r % total))) := List.getElem?_set_self e2
  simp only [e_seq, e_set, e_2, e_var, e0, e1, kVar_ok, k2_ok, e_c, k2b_ok, jget_rest hp, e_okM, v_mod h0, kSet_ok, kSeq_nx, e_asg, a0, a1, v_div ⟨h0, h1⟩, kAsg_ok, e_gsub, kSub_ok, kSub2_ok, kSub3_ok, jset_rest hp, kAsg2_ok, e_ret, a2, kRet_ok, e_endR]
/-- the jar's cells are there or not -/
theorem v_cells (hq : S[q]? = some (.lst (cs.map D.int))) : oNe (.box q) (.lst []) S = some (.bl (!cs.isEmpty), S) := by
  have h1 : Cln S (.box q) (.lst (cs.map D.int)) := cln_box (by rw [hq]; rfl) (clL_ints cs) (by rw [dpL_ints]; decide)
  rw [v_neCl h1 (cln_self rfl (by decide))]
  cases cs with
  | nil => simp [eqb_refl]
  | cons c r => rw [eqb_ne (by simp)]; rfl
theorem v_pop {c : Int} (hq : S[q]? = some (.lst ((c :: cs).map D.int))) : oPopAt (.box q) [.int 0] S = some (.int c, S.set q (.lst (cs.map D.int))) := by
  unfold oPopAt
  simp only []
  rw [if_pos (by decide)]
  unfold onL
  dsimp only
  rw [hq]
  simp [seqIndex?]
end
end Cs
set_option linter.all false
set_option maxRecDepth 100000
set_option maxHeartbeats 1000000
namespace Cs
open PySem L2 Dm
section
variable {S : Store} {p q : Nat} {r s t v : Int} {cs : List Int}
theorem v_pow18 : oPow (.int 10) (.int 18) S = some (.int 1000000000000000000, S) := by
  have h : CPow 10 18 := ⟨by decide, by decide, by decide +kernel⟩
  show (if CPow 10 18 then some (D.int (10 ^ (18 : Int).toNat), S) else none) = _
  rw [if_pos h]
  have e : (10 : Int) ^ (18 : Int).toNat = 1000000000000000000 := by decide +kernel
  rw [e]
theorem jset_rest2 {S : Store} {q2 : Nat} (h : S[p]? = some (jarC q r s t)) : oSet S (.box p) (.str "rest") (.int v) = some (S.set p (jarC q v s t)) := jset_rest h
/-- the spun cell -/
theorem spin {k : Nat} {ρ : Dm.Env} {c M A B : Int} (hM : 0 < M) (hM2 : M ≤ 2 ^ 64) (hM3 : -(2 ^ 64) < M ∧ M < 2 ^ 65) (hA : 0 ≤ A ∧ A < 2 ^ 64)
    (e0 : ρ[0]? = some (some (.box p))) (e3 : ρ[3]? = some (some (.int c))) (hl : ρ.length = 6) (hp : S[p]? = some (jarC q r s t)) :
    ∃ v ρ', (fSeq (fSet 4 (g2 (oAdd false) (g2 (oMul false) (gVar 3) (gC (.int 7))) (g2 (oMul false) (g2 oIx (gVar 0) (gC (.str "turn"))) (gC (.int A)))))
      (fSeq (fSet 5 (gCall 1 m__law_mix (aCons (g2 (oMod) (gVar 4) (gC (.int M))) (aNil))))
      (fAsg (g2 (oAdd false) (g2 (oMul false) (gVar 5) (gC (.int M))) (gCall 1 m__law_mix (aCons (g2 (oXor) (gVar 5) (gC (.int B))) (aNil)))) (Dm.gSub (gVar 0) (gC (.str "rest")))))) ρ S =
      some (.nx ρ', S.set p (jarC q v s t)) ∧ ρ'[0]? = ρ[0]? ∧ ρ'[1]? = ρ[1]? ∧ ρ'.length = 6 := by
  obtain ⟨x, x0, x1, hx⟩ := mix_ok (S := S) ((c * 7 + t * A) % M)
  obtain ⟨y, y0, y1, hy⟩ := mix_ok (S := S) (Builtin.bitXor x B)
  refine ⟨x * M + y, (ρ.set 4 (some (.int (c * 7 + t * A)))).set 5 (some (.int x)), ?_, ?_, ?_, ?_⟩
  · have a4 : (ρ.set 4 (some (.int (c * 7 + t * A))))[4]? = some (some (.int (c * 7 + t * A))) := List.getElem?_set_self (by omega)
    have a5 : ((ρ.set 4 (some (.int (c * 7 + t * A)))).set 5 (some (.int x)))[5]? = some (some (.int x)) := List.getElem?_set_self (by rw [List.length_set]; omega)
    have a0 : ((ρ.set 4 (some (.int (c * 7 + t * A)))).set 5 (some (.int x)))[0]? = some (some (.box p)) := by
      rw [List.getElem?_set_ne (by decide), List.getElem?_set_ne (by decide)]; exact e0
    have m7 : oMul false (.int c) (.int 7) S = some (.int (c * 7), S) := v_mulR (by decide)
    have mA : oMul false (.int t) (.int A) S = some (.int (t * A), S) := v_mulR hA
    have mM : oMul false (.int x) (.int M) S = some (.int (x * M), S) := v_mul (.inl ⟨by omega, x1⟩)
    simp only [e_seq, e_set, e_2, e_var, e3, e0, kVar_ok, k2_ok, e_c, k2b_ok, m7, e_okM, jget_turn hp, mA, v_addI, kSet_ok, kSeq_nx, e_call, e_cons, a4, v_mod hM, kA_ok, e_nil, kA2_ok, kCall_ok, List.length_cons, List.length_nil, if_pos, hx, e_asg, a5, mM, v_xor, hy, kAsg_ok, e_gsub, a0, kSub_ok, kSub2_ok, jset_rest hp, kSub3_ok, kAsg2_ok]
  · rw [List.getElem?_set_ne (by decide), List.getElem?_set_ne (by decide)]
  · rw [List.getElem?_set_ne (by decide), List.getElem?_set_ne (by decide)]
  · rw [List.length_set, List.length_set, hl]
/-- a pick from the jar -/
theorem pick_gen {total A B M T : Int} {C : Nat} (hT : ∀ S : Store, oPow (.int 10) (.int 18) S = some (.int T, S)) (hM : 0 < M) (hM2 : M ≤ 2 ^ 64) (hM3 : -(2 ^ 64) < M ∧ M < 2 ^ 65) (hA : 0 ≤ A ∧ A < 2 ^ 64)
    (J : Jar S p q) (h0 : 0 < total) (h1 : total.natAbs.log2 < 9000) :
    ∃ v S', 0 ≤ v ∧ v < total ∧ semD 2 6 (fSeq (fIf (gB (g2 (oLt) (g2 oIx (gVar 0) (gC (.str "rest"))) (gVar 1)))
    (fSeq (fAsg (g2 (oAdd false) (g2 oIx (gVar 0) (gC (.str "turn"))) (gC (.int 1))) (Dm.gSub (gVar 0) (gC (.str "turn"))))
    (fIf (gB (g2 (oNe) (g2 oIx (gVar 0) (gC (.str "cells"))) (gLst false (aNil))))
    (fSeq (fSet 3 (gMt .list oPopAt (g2 oIx (gVar 0) (gC (.str "cells"))) (aCons (gC (.int 0)) (aNil))))
    (fSeq (fAsg (gVar 3) (Dm.gSub (gVar 0) (gC (.str "rest"))))
    (fIf (gB (g2 (oLt) (gVar 3) (g2 (oPow) (gC (.int 10)) (gC (.int 18)))))
    (fSeq (fSet 4 (g2 (oAdd false) (g2 (oMul false) (gVar 3) (gC (.int 7))) (g2 (oMul false) (g2 oIx (gVar 0) (gC (.str "turn"))) (gC (.int A)))))
    (fSeq (fSet 5 (gCall 1 m__law_mix (aCons (g2 (oMod) (gVar 4) (gC (.int M))) (aNil))))
    (fAsg (g2 (oAdd false) (g2 (oMul false) (gVar 5) (gC (.int M))) (gCall 1 m__law_mix (aCons (g2 (oXor) (gVar 5) (gC (.int B))) (aNil)))) (Dm.gSub (gVar 0) (gC (.str "rest"))))))
    (fNext))))
    (fSeq (fAsg (gCall 1 m__law_mix (aCons (g2 (oMod) (g2 (oAdd false) (g2 oIx (gVar 0) (gC (.str "seed"))) (gC (.int A))) (gC (.int M))) (aNil))) (Dm.gSub (gVar 0) (gC (.str "seed"))))
    (fAsg (g2 oIx (gVar 0) (gC (.str "seed"))) (Dm.gSub (gVar 0) (gC (.str "rest")))))))
    (fNext))
    (fSeq (fSet 2 (g2 (oMod) (g2 oIx (gVar 0) (gC (.str "rest"))) (gVar 1)))
    (fSeq (fAsg (g2 (oDiv) (g2 oIx (gVar 0) (gC (.str "rest"))) (gVar 1)) (Dm.gSub (gVar 0) (gC (.str "rest"))))
    (fRet (gVar 2))))) [.box p, .int total] S = some (.ok (.int v), S') ∧ Jar S' p q ∧ Only p q S S' := by
  obtain ⟨ne, r, s, t, cs, hp, hq⟩ := J
  rw [e_sem2, show startD 6 [D.box p, D.int total] = [some (.box p), some (.int total), none, none, none, none] from rfl, e_seq]
  simp only [e_if, e_b, e_2, e_var, e_c, kVar_ok, k2_ok, k2b_ok, List.getElem?_cons_zero, List.getElem?_cons_succ, jget_rest hp, e_okM, v_lt, kB_ok]
  by_cases hc : r < total
  · rw [decide_eq_true hc, kIf_t, e_seq]
    simp only [e_asg, e_2, e_var, e_c, kVar_ok, k2_ok, k2b_ok, List.getElem?_cons_zero, jget_turn hp, e_okM, v_addI, kAsg_ok, e_gsub, kSub_ok, kSub2_ok, jset_turn hp, kSub3_ok, kAsg2_ok, kSeq_nx]
    obtain ⟨hp, hq⟩ := Jar.setp ne hp hq r s (t + 1)
    have o1 : Only p q S (S.set p (jarC q r s (t + 1))) := Only.setp
    generalize S.set p (jarC q r s (t + 1)) = S1 at hp hq o1 ⊢
    simp only [e_if, e_b, e_2, e_var, e_c, kVar_ok, k2_ok, k2b_ok, List.getElem?_cons_zero, jget_cells hp, e_okM, e_lst, e_nil, kLst_ok, List.length_nil, Nat.zero_le, if_pos, e_mkF, v_cells hq, kB_ok]
    cases cs with
    | nil =>
      simp only [List.isEmpty_nil, Bool.not_true, kIf_f, e_seq]
      obtain ⟨x, x0, x1, hx⟩ := mix_ok (S := S1) ((s + A) % M)
      simp only [e_asg, e_2, e_var, e_c, kVar_ok, k2_ok, k2b_ok, List.getElem?_cons_zero, jget_seed hp, e_okM, v_addI, v_mod hM, e_call, e_cons, kA_ok, e_nil, kA2_ok, kCall_ok, List.length_cons, List.length_nil, if_pos, hx, kAsg_ok, e_gsub, kSub_ok, kSub2_ok, jset_seed hp, kSub3_ok, kAsg2_ok, kSeq_nx]
      obtain ⟨hp, hq⟩ := Jar.setp ne hp hq r x (t + 1)
      have o2 : Only p q S1 (S1.set p (jarC q r x (t + 1))) := Only.setp
      simp only [jget_seed hp, e_okM, kAsg_ok, e_gsub, kSub_ok, e_var, List.getElem?_cons_zero, kVar_ok, e_c, kSub2_ok, jset_rest hp, kSub3_ok, kAsg2_ok, kSeq_nx]
      obtain ⟨hp, hq⟩ := Jar.setp ne hp hq x x (t + 1)
      obtain ⟨v, S', h3, h4, h5, h6, h7⟩ := pick_end ne hp hq h0 h1 (ρ := [some (.box p), some (.int total), none, none, none, none]) rfl rfl (by simp)
      exact ⟨v, S', h3, h4, h5, h6, (o1.trans (o2.trans Only.setp)).trans h7⟩
    | cons c cs =>
      have ty : tyD S1 .list (.box q) = true := by show (match S1[q]? with | some c => tyC .list c | none => false) = true; rw [hq]; rfl
      simp only [List.isEmpty_cons, Bool.not_false, kIf_t, e_seq]
      simp only [e_set, e_mt, e_2, e_var, e_c, kVar_ok, k2_ok, k2b_ok, List.getElem?_cons_zero, jget_cells hp, e_okM, kMt_ok, ty, if_pos, e_cons, kA_ok, e_nil, kA2_ok, kMt2_ok, v_pop hq, kSet_ok, kSeq_nx, List.set_cons_succ, List.set_cons_zero]
      have hp2 : (S1.set q (.lst (cs.map D.int)))[p]? = some (jarC q r s (t + 1)) := by rw [List.getElem?_set_ne (Ne.symm ne)]; exact hp
      have hq2 : (S1.set q (.lst (cs.map D.int)))[q]? = some (.lst (cs.map D.int)) := List.getElem?_set_self (List.getElem?_eq_some_iff.mp hq).1
      have o2 : Only p q S1 (S1.set q (.lst (cs.map D.int))) := Only.setq
      generalize S1.set q (.lst (cs.map D.int)) = S2 at hp2 hq2 o2 ⊢
      simp only [e_seq, e_asg, e_var, List.getElem?_cons_zero, List.getElem?_cons_succ, kVar_ok, kAsg_ok, e_gsub, kSub_ok, e_c, kSub2_ok, jset_rest hp2, kSub3_ok, kAsg2_ok, kSeq_nx]
      obtain ⟨hp, hq⟩ := Jar.setp ne hp2 hq2 c s (t + 1)
      have o3 : Only p q S2 (S2.set p (jarC q c s (t + 1))) := Only.setp
      generalize S2.set p (jarC q c s (t + 1)) = S3 at hp hq o3 ⊢
      simp only [e_if, e_b, e_2, e_var, e_c, kVar_ok, k2_ok, k2b_ok, List.getElem?_cons_zero, List.getElem?_cons_succ, hT, e_okM, v_lt, kB_ok]
      by_cases hc2 : c < T
      · rw [decide_eq_true hc2, kIf_t]
        obtain ⟨v1, ρ', e1, e2, e3, e4⟩ := spin (k := 0) (B := B) (c := c) (ρ := [some (.box p), some (.int total), none, some (.int c), none, none]) hM hM2 hM3 hA rfl rfl rfl hp
        rw [e1, kSeq_nx]
        obtain ⟨hp, hq⟩ := Jar.setp ne hp hq v1 s (t + 1)
        obtain ⟨v, S', h3, h4, h5, h6, h7⟩ := pick_end ne hp hq h0 h1 (ρ := ρ') e2 e3 (by omega)
        exact ⟨v, S', h3, h4, h5, h6, (((o1.trans o2).trans o3).trans Only.setp).trans h7⟩
      · rw [decide_eq_false hc2, kIf_f, e_next, kSeq_nx]
        obtain ⟨v, S', h3, h4, h5, h6, h7⟩ := pick_end ne hp hq h0 h1 (ρ := [some (.box p), some (.int total), none, some (.int c), none, none]) rfl rfl (by simp)
        exact ⟨v, S', h3, h4, h5, h6, ((o1.trans o2).trans o3).trans h7⟩
  · rw [decide_eq_false hc, kIf_f, e_next, kSeq_nx]
    exact pick_end ne hp hq h0 h1 rfl rfl (by simp)
theorem pick_ok {total : Int} (J : Jar S p q) (h0 : 0 < total) (h1 : total.natAbs.log2 < 9000) :
    ∃ v S', 0 ≤ v ∧ v < total ∧ m__law_pick [.box p, .int total] S = some (.ok (.int v), S') ∧ Jar S' p q ∧ Only p q S S' :=
  pick_gen (C := 0) (fun _ => v_pow18) (by decide) (by decide +kernel) (by decide +kernel) (by decide +kernel) J h0 h1
end
end Cs
set_option linter.all false
set_option maxRecDepth 100000
set_option maxHeartbeats 1000000
namespace Cs
open PySem L2 Dm
structure WtOk (t : Nat) (ws : List Int) : Prop where
  len : ws.length = t
  bd : ∀ w ∈ ws, -3 ≤ w ∧ w ≤ 3
/-- a sentence as the law draws it: so many weights, within so many more -/
def SnOk (t : Nat) : Nat → Sn → Prop
  | _, .least ws c => WtOk t ws ∧ -4 ≤ c ∧ c ≤ 4
  | _, .rest ws m r => WtOk t ws ∧ 2 ≤ m ∧ m ≤ 5 ∧ 0 ≤ r ∧ r < m
  | n + 1, .no s => SnOk t n s
  | n + 1, .two _ a b => SnOk t n a ∧ SnOk t n b
  | 0, .no _ => False
  | 0, .two _ _ _ => False
section
variable {S : Store} {p q : Nat}
theorem weights_ok {k : Nat} {t : Nat} {ρ0 : Dm.Env} (J : Jar S p q) (hk : ρ0[0]? = some (some (.box p))) (hk0 : k ≠ 0) (ht : t ≤ 1000) :
    ∃ ws S', lcL [k] tgN gYes (g2 oSub (gCall 2 m__law_pick (aCons (gVar 0) (aCons (gC (.int 7)) aNil))) (gC (.int 3))) ρ0 (rngD 0 t) [] S = some (ws.map D.int, S') ∧ WtOk t ws ∧ Jar S' p q ∧ Only p q S S' := by
  obtain ⟨acc, S', h1, ⟨ws, e, hl, hb, J', o⟩, _⟩ := lc_inv (ns := [k]) (pf := tgN) (t := gYes) (el := g2 oSub (gCall 2 m__law_pick (aCons (gVar 0) (aCons (gC (.int 7)) aNil))) (gC (.int 3))) (ρ0 := ρ0) (S := S) (xs := rngD 0 t) (bad := 1000)
    (I := fun i acc S1 => ∃ ws : List Int, acc = ws.map D.int ∧ ws.length = i ∧ (∀ w ∈ ws, -3 ≤ w ∧ w ≤ 3) ∧ Jar S1 p q ∧ Only p q S S1) (by rw [rngD_len]; exact ht) (by decide)
    (fun i d acc S1 hd ⟨ws, e, hl, hb, J, o⟩ _ => by
      refine ⟨[d], S1, rfl, S1, .inr ⟨rfl, ?_⟩⟩
      obtain ⟨v, S2, v0, v1, hv, J2, o2⟩ := pick_ok J (total := 7) (by decide) (by decide)
      have e0 : (ρ0.set k (some d))[0]? = some (some (.box p)) := by
        rw [List.getElem?_set_ne hk0]; exact hk
      refine ⟨.int (v - 3), S2, ?_, ws ++ [v - 3], by rw [e, List.map_append]; rfl, by rw [List.length_append, hl]; rfl, ?_, J2, o.trans o2⟩
      · simp only [e_seq, kSeq_nx, kSeq_rt, e_next, e_if, kIf_t, kIf_f, e_ret, kRet_ok, e_drop, kDrop_ok, e_set, kSet_ok, e_asg, kAsg_ok, kAsg2_ok, e_par, kPar_ok, e_var, kVar_ok, e_c, e_okM, e_2, k2_ok, k2b_ok, e_1, k1_ok, e_b, kB_ok, e_ifE, kIfE_t, kIfE_f, e_and, kAnd_t, kAnd_f, e_or, kOr_t, kOr_f, e_not, kNot_ok, e_nil, e_cons, kA_ok, kA2_ok, e_tup, kTup_ok, e_lst, kLst_ok, e_mkF, e_mkT, e_call, kCall_ok, e_cb, kCB_ok, e_mt, kMt_ok, kMt2_ok, e_tyS, e_pNo, e_pSo, kSo_ok, e_sl, kSl_ok, kSl2_ok, kSl3_ok, e_it, kIt_tup, kIt_lst, kIt_wlst, kIt_str, e_for, kFor_ok, e_lc, kLc_ok, kLc2_ok, e_tget, kTG_ok, kTG2_ok, e_pat, e_tgN, e_tgNil, e_yes, e_endN, e_endR, e_gsub, kSub_ok, kSub2_ok, kSub3_ok, e_tr, kTr_bl, e_lcW, e_forW, List.getElem?_cons_zero, List.getElem?_cons_succ, List.set_cons_zero, List.set_cons_succ, List.length_cons, List.length_nil, if_pos, v_addI, v_sub, v_lt, v_le, v_gt, v_ge, v_eqI, v_neI, v_eqS, v_neS, Nat.reduceAdd, Nat.reduceLeDiff, Nat.reduceEqDiff, Int.reduceLT, Int.reduceLE, Int.reduceEq, Int.reduceAdd, Int.reduceSub, Int.reduceMul, Int.reduceNeg, decide_true, decide_false, Bool.not_true, Bool.not_false, Option.some.injEq, ite_true, ite_false, setA, e0, hv]
      · intro w hw
        rcases List.mem_append.mp hw with h | h
        · exact hb w h
        · rw [List.mem_singleton] at h; omega)
    ⟨[], rfl, rfl, fun w hw => absurd hw (List.not_mem_nil), J, Only.refl ..⟩
  exact ⟨ws, S', by rw [h1, e], ⟨by rw [hl, rngD_len], hb⟩, J', o⟩
theorem simple_ok {t : Nat} (J : Jar S p q) (ht : t ≤ 1000) : ∃ s S', SnOk t 0 s ∧ m__law_simple [.box p, .int t] S = some (.ok (enc s), S') ∧ Jar S' p q ∧ Only p q S S' := by
  obtain ⟨ws, S1, h1, hw, J1, o1⟩ := weights_ok (k := 4) (t := t) (ρ0 := [some (.box p), some (.int t), none, none, none]) J rfl (by decide) ht
  obtain ⟨f, S2, f0, f1, hf, J2, o2⟩ := pick_ok J1 (total := 2) (by decide) (by decide)
  unfold m__law_simple b__law_simple
  rw [e_sem2, show startD 5 [D.box p, D.int t] = [some (.box p), some (.int t), none, none, none] from rfl, e_seq]
  have hr : kRng1 (some (.ok [.int (t : Int)], S)) = some (.ok (wkC (rngD 0 t)), S) := by
    rw [kRng1_ok (by omega)]; rfl
  simp only [e_seq, kSeq_nx, kSeq_rt, e_next, e_if, kIf_t, kIf_f, e_ret, kRet_ok, e_drop, kDrop_ok, e_set, kSet_ok, e_asg, kAsg_ok, kAsg2_ok, e_par, kPar_ok, e_var, kVar_ok, e_c, e_okM, e_2, k2_ok, k2b_ok, e_1, k1_ok, e_b, kB_ok, e_ifE, kIfE_t, kIfE_f, e_and, kAnd_t, kAnd_f, e_or, kOr_t, kOr_f, e_not, kNot_ok, e_nil, e_cons, kA_ok, kA2_ok, e_tup, kTup_ok, e_lst, kLst_ok, e_mkF, e_mkT, e_call, kCall_ok, e_cb, kCB_ok, e_mt, kMt_ok, kMt2_ok, e_tyS, e_pNo, e_pSo, kSo_ok, e_sl, kSl_ok, kSl2_ok, kSl3_ok, e_it, kIt_tup, kIt_lst, kIt_wlst, kIt_str, e_for, kFor_ok, e_lc, kLc_ok, kLc2_ok, e_tget, kTG_ok, kTG2_ok, e_pat, e_tgN, e_tgNil, e_yes, e_endN, e_endR, e_gsub, kSub_ok, kSub2_ok, kSub3_ok, e_tr, kTr_bl, e_lcW, e_forW, List.getElem?_cons_zero, List.getElem?_cons_succ, List.set_cons_zero, List.set_cons_succ, List.length_cons, List.length_nil, if_pos, v_addI, v_sub, v_lt, v_le, v_gt, v_ge, v_eqI, v_neI, v_eqS, v_neS, Nat.reduceAdd, Nat.reduceLeDiff, Nat.reduceEqDiff, Int.reduceLT, Int.reduceLE, Int.reduceEq, Int.reduceAdd, Int.reduceSub, Int.reduceMul, Int.reduceNeg, decide_true, decide_false, Bool.not_true, Bool.not_false, Option.some.injEq, ite_true, ite_false, setA, e_rng1, hr, wipeA, h1, v_tupL, hf]
  have ht3 : ∀ {x : D}, ([D.str "least", .tup (ws.map D.int), x] : List D).length ≤ 16777216 := fun {x} => by simp
  by_cases hz : f = 0
  · obtain ⟨c, S3, c0, c1, hc, J3, o3⟩ := pick_ok J2 (total := 9) (by decide) (by decide)
    refine ⟨.least ws (c - 4), S3, ⟨hw, by omega, by omega⟩, ?_, J3, (o1.trans o2).trans o3⟩
    rw [decide_eq_true hz, kIf_t]
    simp only [e_seq, kSeq_nx, kSeq_rt, e_next, e_if, kIf_t, kIf_f, e_ret, kRet_ok, e_drop, kDrop_ok, e_set, kSet_ok, e_asg, kAsg_ok, kAsg2_ok, e_par, kPar_ok, e_var, kVar_ok, e_c, e_okM, e_2, k2_ok, k2b_ok, e_1, k1_ok, e_b, kB_ok, e_ifE, kIfE_t, kIfE_f, e_and, kAnd_t, kAnd_f, e_or, kOr_t, kOr_f, e_not, kNot_ok, e_nil, e_cons, kA_ok, kA2_ok, e_tup, kTup_ok, e_lst, kLst_ok, e_mkF, e_mkT, e_call, kCall_ok, e_cb, kCB_ok, e_mt, kMt_ok, kMt2_ok, e_tyS, e_pNo, e_pSo, kSo_ok, e_sl, kSl_ok, kSl2_ok, kSl3_ok, e_it, kIt_tup, kIt_lst, kIt_wlst, kIt_str, e_for, kFor_ok, e_lc, kLc_ok, kLc2_ok, e_tget, kTG_ok, kTG2_ok, e_pat, e_tgN, e_tgNil, e_yes, e_endN, e_endR, e_gsub, kSub_ok, kSub2_ok, kSub3_ok, e_tr, kTr_bl, e_lcW, e_forW, List.getElem?_cons_zero, List.getElem?_cons_succ, List.set_cons_zero, List.set_cons_succ, List.length_cons, List.length_nil, if_pos, v_addI, v_sub, v_lt, v_le, v_gt, v_ge, v_eqI, v_neI, v_eqS, v_neS, Nat.reduceAdd, Nat.reduceLeDiff, Nat.reduceEqDiff, Int.reduceLT, Int.reduceLE, Int.reduceEq, Int.reduceAdd, Int.reduceSub, Int.reduceMul, Int.reduceNeg, decide_true, decide_false, Bool.not_true, Bool.not_false, Option.some.injEq, ite_true, ite_false, setA, hc]
    simp [enc]
  · obtain ⟨m, S3, m0, m1, hm, J3, o3⟩ := pick_ok J2 (total := 4) (by decide) (by decide)
    have hlog : (2 + m).natAbs.log2 < 9000 := by
      have : (2 + m).natAbs ≤ 5 := by omega
      have h5 : (2 + m).natAbs.log2 ≤ (2 + m).natAbs := Nat.log2_le_self _
      omega
    obtain ⟨r, S4, r0, r1, hr, J4, o4⟩ := pick_ok J3 (total := 2 + m) (by omega) hlog
    refine ⟨.rest ws (2 + m) r, S4, ⟨hw, by omega, by omega, r0, r1⟩, ?_, J4, ((o1.trans o2).trans o3).trans o4⟩
    rw [decide_eq_false hz, kIf_f]
    simp only [e_seq, kSeq_nx, kSeq_rt, e_next, e_if, kIf_t, kIf_f, e_ret, kRet_ok, e_drop, kDrop_ok, e_set, kSet_ok, e_asg, kAsg_ok, kAsg2_ok, e_par, kPar_ok, e_var, kVar_ok, e_c, e_okM, e_2, k2_ok, k2b_ok, e_1, k1_ok, e_b, kB_ok, e_ifE, kIfE_t, kIfE_f, e_and, kAnd_t, kAnd_f, e_or, kOr_t, kOr_f, e_not, kNot_ok, e_nil, e_cons, kA_ok, kA2_ok, e_tup, kTup_ok, e_lst, kLst_ok, e_mkF, e_mkT, e_call, kCall_ok, e_cb, kCB_ok, e_mt, kMt_ok, kMt2_ok, e_tyS, e_pNo, e_pSo, kSo_ok, e_sl, kSl_ok, kSl2_ok, kSl3_ok, e_it, kIt_tup, kIt_lst, kIt_wlst, kIt_str, e_for, kFor_ok, e_lc, kLc_ok, kLc2_ok, e_tget, kTG_ok, kTG2_ok, e_pat, e_tgN, e_tgNil, e_yes, e_endN, e_endR, e_gsub, kSub_ok, kSub2_ok, kSub3_ok, e_tr, kTr_bl, e_lcW, e_forW, List.getElem?_cons_zero, List.getElem?_cons_succ, List.set_cons_zero, List.set_cons_succ, List.length_cons, List.length_nil, if_pos, v_addI, v_sub, v_lt, v_le, v_gt, v_ge, v_eqI, v_neI, v_eqS, v_neS, Nat.reduceAdd, Nat.reduceLeDiff, Nat.reduceEqDiff, Int.reduceLT, Int.reduceLE, Int.reduceEq, Int.reduceAdd, Int.reduceSub, Int.reduceMul, Int.reduceNeg, decide_true, decide_false, Bool.not_true, Bool.not_false, Option.some.injEq, ite_true, ite_false, setA, hm, hr]
    simp [enc]
theorem SnOk.up {t : Nat} : ∀ {n : Nat} {s : Sn}, SnOk t n s → SnOk t (n + 1) s
  | _, .least _ _, h => by cases ‹Nat› <;> exact h
  | _, .rest _ _ _, h => by cases ‹Nat› <;> exact h
  | n + 1, .no s, h => SnOk.up (n := n) (s := s) h
  | n + 1, .two _ a b, h => ⟨SnOk.up (n := n) h.1, SnOk.up (n := n) h.2⟩
  | 0, .no _, h => h.elim
  | 0, .two _ _ _, h => h.elim
theorem SnOk.any {t : Nat} {s : Sn} (h : SnOk t 0 s) : ∀ n, SnOk t n s
  | 0 => h
  | n + 1 => (SnOk.any h n).up
/-! one turn of it -/
section
variable {S1 S2 S3 : Store} {a b c d : D} {f w : Int} {F : FnS} (hf : m__law_pick [a, .int 5] S = some (.ok (.int f), S1))
include hf
theorem sen_0 (hw : ¬ 0 < w) (h0 : oMul false (.int f) (.int 0) S1 = some (.int 0, S1)) (h : m__law_simple [a, b] S1 = some (.ok d, S2)) : semD 3 5 (b__law_sentence F) [a, b, .int w] S = some (.ok d, S2) := by
  unfold b__law_sentence
  rw [e_sem3, show startD 5 [a, b, D.int w] = [some a, some b, some (.int w), none, none] from rfl]
  simp only [e_seq, kSeq_nx, kSeq_rt, e_next, e_if, kIf_t, kIf_f, e_ret, kRet_ok, e_drop, kDrop_ok, e_set, kSet_ok, e_asg, kAsg_ok, kAsg2_ok, e_par, kPar_ok, e_var, kVar_ok, e_c, e_okM, e_2, k2_ok, k2b_ok, e_1, k1_ok, e_b, kB_ok, e_ifE, kIfE_t, kIfE_f, e_and, kAnd_t, kAnd_f, e_or, kOr_t, kOr_f, e_not, kNot_ok, e_nil, e_cons, kA_ok, kA2_ok, e_tup, kTup_ok, e_lst, kLst_ok, e_mkF, e_mkT, e_call, kCall_ok, e_cb, kCB_ok, e_mt, kMt_ok, kMt2_ok, e_tyS, e_pNo, e_pSo, kSo_ok, e_sl, kSl_ok, kSl2_ok, kSl3_ok, e_it, kIt_tup, kIt_lst, kIt_wlst, kIt_str, e_for, kFor_ok, e_lc, kLc_ok, kLc2_ok, e_tget, kTG_ok, kTG2_ok, e_pat, e_tgN, e_tgNil, e_yes, e_endN, e_endR, e_gsub, kSub_ok, kSub2_ok, kSub3_ok, e_tr, kTr_bl, e_lcW, e_forW, List.getElem?_cons_zero, List.getElem?_cons_succ, List.set_cons_zero, List.set_cons_succ, List.length_cons, List.length_nil, if_pos, v_addI, v_sub, v_lt, v_le, v_gt, v_ge, v_eqI, v_neI, v_eqS, v_neS, Nat.reduceAdd, Nat.reduceLeDiff, Nat.reduceEqDiff, Int.reduceLT, Int.reduceLE, Int.reduceEq, Int.reduceAdd, Int.reduceSub, Int.reduceMul, Int.reduceNeg, decide_true, decide_false, Bool.not_true, Bool.not_false, Option.some.injEq, ite_true, ite_false, setA, hf, h0, decide_eq_false hw, v_intF, h]
variable (hw : 0 < w) (h0 : oMul false (.int f) (.int 1) S1 = some (.int f, S1))
include hw h0
theorem sen_1 (q : f < 2) (h : m__law_simple [a, b] S1 = some (.ok d, S2)) : semD 3 5 (b__law_sentence F) [a, b, .int w] S = some (.ok d, S2) := by
  unfold b__law_sentence
  rw [e_sem3, show startD 5 [a, b, D.int w] = [some a, some b, some (.int w), none, none] from rfl]
  simp only [e_seq, kSeq_nx, kSeq_rt, e_next, e_if, kIf_t, kIf_f, e_ret, kRet_ok, e_drop, kDrop_ok, e_set, kSet_ok, e_asg, kAsg_ok, kAsg2_ok, e_par, kPar_ok, e_var, kVar_ok, e_c, e_okM, e_2, k2_ok, k2b_ok, e_1, k1_ok, e_b, kB_ok, e_ifE, kIfE_t, kIfE_f, e_and, kAnd_t, kAnd_f, e_or, kOr_t, kOr_f, e_not, kNot_ok, e_nil, e_cons, kA_ok, kA2_ok, e_tup, kTup_ok, e_lst, kLst_ok, e_mkF, e_mkT, e_call, kCall_ok, e_cb, kCB_ok, e_mt, kMt_ok, kMt2_ok, e_tyS, e_pNo, e_pSo, kSo_ok, e_sl, kSl_ok, kSl2_ok, kSl3_ok, e_it, kIt_tup, kIt_lst, kIt_wlst, kIt_str, e_for, kFor_ok, e_lc, kLc_ok, kLc2_ok, e_tget, kTG_ok, kTG2_ok, e_pat, e_tgN, e_tgNil, e_yes, e_endN, e_endR, e_gsub, kSub_ok, kSub2_ok, kSub3_ok, e_tr, kTr_bl, e_lcW, e_forW, List.getElem?_cons_zero, List.getElem?_cons_succ, List.set_cons_zero, List.set_cons_succ, List.length_cons, List.length_nil, if_pos, v_addI, v_sub, v_lt, v_le, v_gt, v_ge, v_eqI, v_neI, v_eqS, v_neS, Nat.reduceAdd, Nat.reduceLeDiff, Nat.reduceEqDiff, Int.reduceLT, Int.reduceLE, Int.reduceEq, Int.reduceAdd, Int.reduceSub, Int.reduceMul, Int.reduceNeg, decide_true, decide_false, Bool.not_true, Bool.not_false, Option.some.injEq, ite_true, ite_false, setA, hf, h0, decide_eq_true hw, v_intT, decide_eq_true q, h]
theorem sen_2 (q : f = 2) (h : F [a, b, .int (w - 1)] S1 = some (.ok d, S2)) : semD 3 5 (b__law_sentence F) [a, b, .int w] S = some (.ok (.tup [.str "not", d]), S2) := by
  unfold b__law_sentence
  rw [e_sem3, show startD 5 [a, b, D.int w] = [some a, some b, some (.int w), none, none] from rfl]
  subst q
  simp only [e_seq, kSeq_nx, kSeq_rt, e_next, e_if, kIf_t, kIf_f, e_ret, kRet_ok, e_drop, kDrop_ok, e_set, kSet_ok, e_asg, kAsg_ok, kAsg2_ok, e_par, kPar_ok, e_var, kVar_ok, e_c, e_okM, e_2, k2_ok, k2b_ok, e_1, k1_ok, e_b, kB_ok, e_ifE, kIfE_t, kIfE_f, e_and, kAnd_t, kAnd_f, e_or, kOr_t, kOr_f, e_not, kNot_ok, e_nil, e_cons, kA_ok, kA2_ok, e_tup, kTup_ok, e_lst, kLst_ok, e_mkF, e_mkT, e_call, kCall_ok, e_cb, kCB_ok, e_mt, kMt_ok, kMt2_ok, e_tyS, e_pNo, e_pSo, kSo_ok, e_sl, kSl_ok, kSl2_ok, kSl3_ok, e_it, kIt_tup, kIt_lst, kIt_wlst, kIt_str, e_for, kFor_ok, e_lc, kLc_ok, kLc2_ok, e_tget, kTG_ok, kTG2_ok, e_pat, e_tgN, e_tgNil, e_yes, e_endN, e_endR, e_gsub, kSub_ok, kSub2_ok, kSub3_ok, e_tr, kTr_bl, e_lcW, e_forW, List.getElem?_cons_zero, List.getElem?_cons_succ, List.set_cons_zero, List.set_cons_succ, List.length_cons, List.length_nil, if_pos, v_addI, v_sub, v_lt, v_le, v_gt, v_ge, v_eqI, v_neI, v_eqS, v_neS, Nat.reduceAdd, Nat.reduceLeDiff, Nat.reduceEqDiff, Int.reduceLT, Int.reduceLE, Int.reduceEq, Int.reduceAdd, Int.reduceSub, Int.reduceMul, Int.reduceNeg, decide_true, decide_false, Bool.not_true, Bool.not_false, Option.some.injEq, ite_true, ite_false, setA, hf, h0, decide_eq_true hw, v_intT, h]
theorem sen_3 (q : 2 < f) (q2 : f < 5) (h : F [a, b, .int (w - 1)] S1 = some (.ok c, S2)) (h2 : F [a, b, .int (w - 1)] S2 = some (.ok d, S3)) : semD 3 5 (b__law_sentence F) [a, b, .int w] S = some (.ok (.tup [.str (wd (decide (f = 3))), c, d]), S3) := by
  unfold b__law_sentence
  rw [e_sem3, show startD 5 [a, b, D.int w] = [some a, some b, some (.int w), none, none] from rfl]
  have q3 : ¬ f < 2 := by omega
  have q4 : ¬ f = 2 := by omega
  simp only [e_seq, kSeq_nx, kSeq_rt, e_next, e_if, kIf_t, kIf_f, e_ret, kRet_ok, e_drop, kDrop_ok, e_set, kSet_ok, e_asg, kAsg_ok, kAsg2_ok, e_par, kPar_ok, e_var, kVar_ok, e_c, e_okM, e_2, k2_ok, k2b_ok, e_1, k1_ok, e_b, kB_ok, e_ifE, kIfE_t, kIfE_f, e_and, kAnd_t, kAnd_f, e_or, kOr_t, kOr_f, e_not, kNot_ok, e_nil, e_cons, kA_ok, kA2_ok, e_tup, kTup_ok, e_lst, kLst_ok, e_mkF, e_mkT, e_call, kCall_ok, e_cb, kCB_ok, e_mt, kMt_ok, kMt2_ok, e_tyS, e_pNo, e_pSo, kSo_ok, e_sl, kSl_ok, kSl2_ok, kSl3_ok, e_it, kIt_tup, kIt_lst, kIt_wlst, kIt_str, e_for, kFor_ok, e_lc, kLc_ok, kLc2_ok, e_tget, kTG_ok, kTG2_ok, e_pat, e_tgN, e_tgNil, e_yes, e_endN, e_endR, e_gsub, kSub_ok, kSub2_ok, kSub3_ok, e_tr, kTr_bl, e_lcW, e_forW, List.getElem?_cons_zero, List.getElem?_cons_succ, List.set_cons_zero, List.set_cons_succ, List.length_cons, List.length_nil, if_pos, v_addI, v_sub, v_lt, v_le, v_gt, v_ge, v_eqI, v_neI, v_eqS, v_neS, Nat.reduceAdd, Nat.reduceLeDiff, Nat.reduceEqDiff, Int.reduceLT, Int.reduceLE, Int.reduceEq, Int.reduceAdd, Int.reduceSub, Int.reduceMul, Int.reduceNeg, decide_true, decide_false, Bool.not_true, Bool.not_false, Option.some.injEq, ite_true, ite_false, setA, hf, h0, decide_eq_true hw, v_intT, decide_eq_false q3, decide_eq_false q4, h]
  have e : oIx (D.lst [D.str "and", D.str "or"]) (D.int (f - 3)) S2 = some (D.str (wd (decide (f = 3))), S2) := by
    rcases (show f = 3 ∨ f = 4 by omega) with e | e
    · subst e; exact v_ixL0
    · subst e; exact v_ixL1
  simp only [e_seq, kSeq_nx, kSeq_rt, e_next, e_if, kIf_t, kIf_f, e_ret, kRet_ok, e_drop, kDrop_ok, e_set, kSet_ok, e_asg, kAsg_ok, kAsg2_ok, e_par, kPar_ok, e_var, kVar_ok, e_c, e_okM, e_2, k2_ok, k2b_ok, e_1, k1_ok, e_b, kB_ok, e_ifE, kIfE_t, kIfE_f, e_and, kAnd_t, kAnd_f, e_or, kOr_t, kOr_f, e_not, kNot_ok, e_nil, e_cons, kA_ok, kA2_ok, e_tup, kTup_ok, e_lst, kLst_ok, e_mkF, e_mkT, e_call, kCall_ok, e_cb, kCB_ok, e_mt, kMt_ok, kMt2_ok, e_tyS, e_pNo, e_pSo, kSo_ok, e_sl, kSl_ok, kSl2_ok, kSl3_ok, e_it, kIt_tup, kIt_lst, kIt_wlst, kIt_str, e_for, kFor_ok, e_lc, kLc_ok, kLc2_ok, e_tget, kTG_ok, kTG2_ok, e_pat, e_tgN, e_tgNil, e_yes, e_endN, e_endR, e_gsub, kSub_ok, kSub2_ok, kSub3_ok, e_tr, kTr_bl, e_lcW, e_forW, List.getElem?_cons_zero, List.getElem?_cons_succ, List.set_cons_zero, List.set_cons_succ, List.length_cons, List.length_nil, if_pos, v_addI, v_sub, v_lt, v_le, v_gt, v_ge, v_eqI, v_neI, v_eqS, v_neS, Nat.reduceAdd, Nat.reduceLeDiff, Nat.reduceEqDiff, Int.reduceLT, Int.reduceLE, Int.reduceEq, Int.reduceAdd, Int.reduceSub, Int.reduceMul, Int.reduceNeg, decide_true, decide_false, Bool.not_true, Bool.not_false, Option.some.injEq, ite_true, ite_false, setA, e, h2]
end
theorem sentence_ok {t : Nat} (ht : t ≤ 1000) : ∀ (n w : Nat) (S : Store), w < n → Jar S p q → ∃ s S', SnOk t w s ∧ m__law_sentence n [.box p, .int t, .int w] S = some (.ok (enc s), S') ∧ Jar S' p q ∧ Only p q S S' := by
  intro n
  induction n with
  | zero => intro w S h _; omega
  | succ n ih =>
    intro w S h J
    obtain ⟨f, S1, f0, f1, hf, J1, o1⟩ := pick_ok J (total := 5) (by decide) (by decide)
    have hm : ∀ x : Int, 0 ≤ x → x ≤ 1 → oMul false (.int f) (.int x) S1 = some (.int (f * x), S1) := fun x h0 h1 => v_mulR ⟨h0, by omega⟩
    by_cases hw : (0 : Int) < w
    · have h1 := hm 1 (by decide) (by decide)
      rw [Int.mul_one] at h1
      by_cases q2 : f < 2
      · obtain ⟨s, S2, hs, h2, J2, o2⟩ := simple_ok (t := t) J1 ht
        exact ⟨s, S2, hs.any w, sen_1 hf hw h1 q2 h2, J2, o1.trans o2⟩
      · obtain ⟨w', rfl⟩ : ∃ w' : Nat, w = w' + 1 := ⟨w - 1, by omega⟩
        have ew : ((w' + 1 : Nat) : Int) - 1 = (w' : Nat) := by omega
        obtain ⟨a, S2, ha, h2, J2, o2⟩ := ih w' S1 (by omega) J1
        rw [← ew] at h2
        by_cases q3 : f = 2
        · exact ⟨.no a, S2, ha, sen_2 hf hw h1 q3 h2, J2, o1.trans o2⟩
        · obtain ⟨b, S3, hb, h3, J3, o3⟩ := ih w' S2 (by omega) J2
          rw [← ew] at h3
          exact ⟨.two (decide (f = 3)) a b, S3, ⟨ha, hb⟩, sen_3 hf hw h1 (by omega) f1 h2 h3, J3, (o1.trans o2).trans o3⟩
    · have h1 := hm 0 (by decide) (by decide)
      rw [Int.mul_zero] at h1
      obtain ⟨s, S2, hs, h2, J2, o2⟩ := simple_ok (t := t) J1 ht
      exact ⟨s, S2, hs.any w, sen_0 hf hw h1 h2, J2, o1.trans o2⟩
end
end Cs
set_option linter.all false
set_option maxRecDepth 100000
set_option maxHeartbeats 1000000
namespace Cs
open PySem L2 Dm
/-! ### split, its sizes -/
theorem spl_sizes (s : Nat) : ∀ (l acc : List Nat), (∀ p ∈ TL.spl [s] 0 acc l, p.length ≤ acc.length + l.length) ∧ (TL.spl [s] 0 acc l).length ≤ l.length + 1
  | [], acc => by
    rw [TL.spl_nil]
    exact ⟨fun p hp => by rw [List.mem_singleton] at hp; subst hp; simp, by simp⟩
  | c :: r, acc => by
    by_cases h : TL.pre [s] (c :: r) = true
    · rw [TL.spl_hit h]
      obtain ⟨h1, h2⟩ := spl_sizes s r []
      refine ⟨fun p hp => ?_, by simpa using h2⟩
      rcases List.mem_cons.mp hp with e | e
      · subst e; simp
      · have := h1 p e; simp at this ⊢; omega
    · rw [TL.spl_miss (by simpa using h)]
      obtain ⟨h1, h2⟩ := spl_sizes s r (acc ++ [c])
      refine ⟨fun p hp => ?_, by simp at h2 ⊢; omega⟩
      have := h1 p hp; simp at this ⊢; omega
theorem split_sizes {x y : Str} {s : Nat} (hy : TL.tl y = [s]) (hs : s < 256) : (∀ z ∈ Txt.split x y, z.length ≤ x.length) ∧ (Txt.split x y).length ≤ x.length + 1 := by
  have e := TL.split_spl x y (by rw [hy]; simp) (TL.kind_ok (by
    have : y.cps = #[s] := by
      have := congrArg List.toArray hy
      simpa [TL.tl] using this
    rw [this]; simp [hs]))
  rw [hy] at e
  obtain ⟨h1, h2⟩ := spl_sizes s (TL.tl x) []
  rw [← e] at h1 h2
  refine ⟨fun z hz => ?_, by rw [List.length_map, ← TL.len_tl] at h2; exact h2⟩
  have := h1 (TL.tl z) (List.mem_map_of_mem hz)
  rw [← TL.len_tl, ← TL.len_tl] at this
  simpa using this
section
variable {S : Store}
theorem v_split {x y : Str} {s : Nat} (hy : TL.tl y = [s]) (hs : s < 256) (hx : x.length ≤ 10000000) : oSplit false (.str x) [.str y] S = some (.lst ((Txt.split x y).map D.str), S) := by
  obtain ⟨h1, h2⟩ := split_sizes (x := x) hy hs
  have hl : (y.length == 0) = false := by rw [TL.len_tl, hy]; rfl
  show (if (y.length == 0) = false ∧ x.length + 2 ≤ sizeLine ∧ (∀ z ∈ Txt.split x y, z.length ≤ sizeLine) ∧ (Txt.split x y).length ≤ sizeLine then some (mkL false ((Txt.split x y).map D.str) S) else none) = _
  have hz : sizeLine = 16777216 := rfl
  rw [if_pos ⟨hl, by omega, fun z hz' => Nat.le_trans (h1 z hz') (by omega), by omega⟩]
  rfl
theorem tl_blank : TL.tl (Str.ofString " ") = [32] := by rw [TL.tl_ofString]; rfl
theorem tl_comma : TL.tl (Str.ofString ",") = [44] := by rw [TL.tl_ofString]; rfl
/-! ### number_in -/
def rngI (lo : Int) (n : Nat) : List Int := (List.range n).map fun i => lo + (i : Nat)
theorem rngD_I (lo : Int) (n : Nat) : rngD lo n = (rngI lo n).map D.int := by
  unfold rngD rngI
  rw [List.map_map]
  rfl
theorem mem_rngI {lo i : Int} {n : Nat} : i ∈ rngI lo n ↔ lo ≤ i ∧ i < lo + n := by
  unfold rngI
  rw [List.mem_map]
  constructor
  · rintro ⟨k, hk, rfl⟩
    rw [List.mem_range] at hk
    omega
  · rintro ⟨h1, h2⟩
    exact ⟨(i - lo).toNat, by rw [List.mem_range]; omega, by omega⟩
def numIn (z : Str) (lo hi : Int) : Option Int := (rngI lo (hi + 1 - lo).toNat).find? fun i => decide (strI i = z)
def oD : Option Int → D
  | none => .non
  | some i => .int i
theorem strI_small {i : Int} (h : i.natAbs < 10000) : i.natAbs.log2 < 1920 ∧ (strI i).length ≤ 5 := by
  have h1 : i.natAbs.log2 ≤ 14 := by
    rcases Nat.eq_zero_or_pos i.natAbs with e | e
    · rw [e]; decide
    · have : i.natAbs < 2 ^ 14 := by omega
      have := (Nat.log2_lt (by omega)).mpr this
      omega
  refine ⟨by omega, ?_⟩
  obtain ⟨n, hn⟩ := Int.eq_nat_or_neg i
  have hl : (TL.numL n).length ≤ 4 := TL.numL_len (by decide) (by rcases hn with e | e <;> (subst e; simpa using h))
  rcases hn with e | e
  · subst e
    rw [TL.len_tl]
    show (TL.tl (Str.ofString (toString ((n : Nat) : Int)))).length ≤ 5
    rw [TL.tl_num]; omega
  · subst e
    cases n with
    | zero => decide
    | succ n =>
      rw [TL.len_tl]
      show (TL.tl (Str.ofString (toString (-((n + 1 : Nat) : Int))))).length ≤ 5
      have e : toString (-((n + 1 : Nat) : Int)) = "-" ++ toString (n + 1) := rfl
      rw [e, TL.tl_ofString, String.toList_append, List.map_append, List.length_append]
      have e2 := TL.tl_num (n + 1)
      have e3 : toString ((n + 1 : Nat) : Int) = toString (n + 1) := rfl
      rw [e3, TL.tl_ofString] at e2
      rw [e2]
      have e4 : (String.toList "-").map Char.toNat = [45] := by decide
      rw [e4]
      simp
      omega
theorem Small.of {i : Int} (h : i.natAbs < 10000) : Small i := ⟨(strI_small h).1, Nat.le_trans (strI_small h).2 (by decide)⟩
theorem number_ok {z : Str} {lo hi : Int} (hb : -1000 ≤ lo ∧ lo ≤ 1000 ∧ -1000 ≤ hi ∧ hi ≤ 1000) : m_number_in [.str z, .int lo, .int hi] S = some (.ok (oD (numIn z lo hi)), S) := by
  unfold m_number_in b_number_in
  rw [e_sem3, show startD 5 [D.str z, D.int lo, D.int hi] = [some (.str z), some (.int lo), some (.int hi), none, none] from rfl, e_seq]
  have hr : kRng2 (some (.ok [.int lo, .int (hi + 1)], S)) = some (.ok (wkC (rngD lo (hi + 1 - lo).toNat)), S) := kRng2_ok ⟨by omega, by omega, by omega, by omega⟩
  have hf := lc_filG (ns := [4]) (pf := tgN) (t := gB (g2 oEq (gCB oStr (aCons (gVar 4) aNil)) (gVar 0))) (el := gVar 4) (ρ0 := [some (D.str z), some (.int lo), some (.int hi), none, none]) (S := S)
    (fun d => match d with
      | .int i => decide (strI i = z)
      | _ => false) id (xs := rngD lo (hi + 1 - lo).toNat) [] (fun d hd => by
        rw [rngD_I] at hd
        obtain ⟨i, hi2, rfl⟩ := List.mem_map.mp hd
        rw [mem_rngI] at hi2
        have hs := strI_small (i := i) (by omega)
        have hs2 : oStr [.int i] S = some (.str (strI i), S) := v_str ⟨hs.1, Nat.le_trans hs.2 (by decide)⟩
        refine ⟨[.int i], rfl, ?_, fun _ => ?_⟩
        · simp only [e_seq, kSeq_nx, kSeq_rt, e_next, e_if, kIf_t, kIf_f, e_ret, kRet_ok, e_drop, kDrop_ok, e_set, kSet_ok, e_asg, kAsg_ok, kAsg2_ok, e_par, kPar_ok, e_var, kVar_ok, e_c, e_okM, e_2, k2_ok, k2b_ok, e_1, k1_ok, e_b, kB_ok, e_ifE, kIfE_t, kIfE_f, e_and, kAnd_t, kAnd_f, e_or, kOr_t, kOr_f, e_not, kNot_ok, e_nil, e_cons, kA_ok, kA2_ok, e_tup, kTup_ok, e_lst, kLst_ok, e_mkF, e_mkT, e_call, kCall_ok, e_cb, kCB_ok, e_mt, kMt_ok, kMt2_ok, e_tyS, e_pNo, e_pSo, kSo_ok, e_sl, kSl_ok, kSl2_ok, kSl3_ok, e_it, kIt_tup, kIt_lst, kIt_wlst, kIt_str, e_for, kFor_ok, e_lc, kLc_ok, kLc2_ok, e_tget, kTG_ok, kTG2_ok, e_pat, e_tgN, e_tgNil, e_yes, e_endN, e_endR, e_gsub, kSub_ok, kSub2_ok, kSub3_ok, e_tr, kTr_bl, e_lcW, e_forW, List.getElem?_cons_zero, List.getElem?_cons_succ, List.set_cons_zero, List.set_cons_succ, List.length_cons, List.length_nil, if_pos, v_addI, v_sub, v_lt, v_le, v_gt, v_ge, v_eqI, v_neI, v_eqS, v_neS, Nat.reduceAdd, Nat.reduceLeDiff, Nat.reduceEqDiff, Int.reduceLT, Int.reduceLE, Int.reduceEq, Int.reduceAdd, Int.reduceSub, Int.reduceMul, Int.reduceNeg, decide_true, decide_false, Bool.not_true, Bool.not_false, Option.some.injEq, ite_true, ite_false, setA, hs2]
        · simp only [e_seq, kSeq_nx, kSeq_rt, e_next, e_if, kIf_t, kIf_f, e_ret, kRet_ok, e_drop, kDrop_ok, e_set, kSet_ok, e_asg, kAsg_ok, kAsg2_ok, e_par, kPar_ok, e_var, kVar_ok, e_c, e_okM, e_2, k2_ok, k2b_ok, e_1, k1_ok, e_b, kB_ok, e_ifE, kIfE_t, kIfE_f, e_and, kAnd_t, kAnd_f, e_or, kOr_t, kOr_f, e_not, kNot_ok, e_nil, e_cons, kA_ok, kA2_ok, e_tup, kTup_ok, e_lst, kLst_ok, e_mkF, e_mkT, e_call, kCall_ok, e_cb, kCB_ok, e_mt, kMt_ok, kMt2_ok, e_tyS, e_pNo, e_pSo, kSo_ok, e_sl, kSl_ok, kSl2_ok, kSl3_ok, e_it, kIt_tup, kIt_lst, kIt_wlst, kIt_str, e_for, kFor_ok, e_lc, kLc_ok, kLc2_ok, e_tget, kTG_ok, kTG2_ok, e_pat, e_tgN, e_tgNil, e_yes, e_endN, e_endR, e_gsub, kSub_ok, kSub2_ok, kSub3_ok, e_tr, kTr_bl, e_lcW, e_forW, List.getElem?_cons_zero, List.getElem?_cons_succ, List.set_cons_zero, List.set_cons_succ, List.length_cons, List.length_nil, if_pos, v_addI, v_sub, v_lt, v_le, v_gt, v_ge, v_eqI, v_neI, v_eqS, v_neS, Nat.reduceAdd, Nat.reduceLeDiff, Nat.reduceEqDiff, Int.reduceLT, Int.reduceLE, Int.reduceEq, Int.reduceAdd, Int.reduceSub, Int.reduceMul, Int.reduceNeg, decide_true, decide_false, Bool.not_true, Bool.not_false, Option.some.injEq, ite_true, ite_false, setA]; rfl) (by rw [rngD_len]; simp; omega)
  simp only [e_seq, kSeq_nx, kSeq_rt, e_next, e_if, kIf_t, kIf_f, e_ret, kRet_ok, e_drop, kDrop_ok, e_set, kSet_ok, e_asg, kAsg_ok, kAsg2_ok, e_par, kPar_ok, e_var, kVar_ok, e_c, e_okM, e_2, k2_ok, k2b_ok, e_1, k1_ok, e_b, kB_ok, e_ifE, kIfE_t, kIfE_f, e_and, kAnd_t, kAnd_f, e_or, kOr_t, kOr_f, e_not, kNot_ok, e_nil, e_cons, kA_ok, kA2_ok, e_tup, kTup_ok, e_lst, kLst_ok, e_mkF, e_mkT, e_call, kCall_ok, e_cb, kCB_ok, e_mt, kMt_ok, kMt2_ok, e_tyS, e_pNo, e_pSo, kSo_ok, e_sl, kSl_ok, kSl2_ok, kSl3_ok, e_it, kIt_tup, kIt_lst, kIt_wlst, kIt_str, e_for, kFor_ok, e_lc, kLc_ok, kLc2_ok, e_tget, kTG_ok, kTG2_ok, e_pat, e_tgN, e_tgNil, e_yes, e_endN, e_endR, e_gsub, kSub_ok, kSub2_ok, kSub3_ok, e_tr, kTr_bl, e_lcW, e_forW, List.getElem?_cons_zero, List.getElem?_cons_succ, List.set_cons_zero, List.set_cons_succ, List.length_cons, List.length_nil, if_pos, v_addI, v_sub, v_lt, v_le, v_gt, v_ge, v_eqI, v_neI, v_eqS, v_neS, Nat.reduceAdd, Nat.reduceLeDiff, Nat.reduceEqDiff, Int.reduceLT, Int.reduceLE, Int.reduceEq, Int.reduceAdd, Int.reduceSub, Int.reduceMul, Int.reduceNeg, decide_true, decide_false, Bool.not_true, Bool.not_false, Option.some.injEq, ite_true, ite_false, setA, e_rng2, hr, wipeA, hf]
  have e : (List.filter (fun d => match d with
      | .int i => decide (strI i = z)
      | _ => false) (rngD lo (hi + 1 - lo).toNat)).map id = ((rngI lo (hi + 1 - lo).toNat).filter fun i => decide (strI i = z)).map D.int := by
    rw [List.map_id, rngD_I, List.filter_map]
    rfl
  rw [List.nil_append, e]
  unfold numIn
  rw [← List.head?_filter]
  generalize (rngI lo (hi + 1 - lo).toNat).filter (fun i => decide (strI i = z)) = l
  have hn : oNe (.lst (l.map D.int)) (.lst []) S = some (.bl (!l.isEmpty), S) := by
    have h1 : Cln S (.lst (l.map D.int)) (.lst (l.map D.int)) := cln_self (by simp [clD, clL_ints]) (by simp [dpD, dpL_ints])
    rw [v_neCl h1 (cln_self rfl (by decide))]
    cases l with
    | nil => simp
    | cons c r => rw [eqb_ne (by simp)]; rfl
  cases l with
  | nil => simp only [e_seq, kSeq_nx, kSeq_rt, e_next, e_if, kIf_t, kIf_f, e_ret, kRet_ok, e_drop, kDrop_ok, e_set, kSet_ok, e_asg, kAsg_ok, kAsg2_ok, e_par, kPar_ok, e_var, kVar_ok, e_c, e_okM, e_2, k2_ok, k2b_ok, e_1, k1_ok, e_b, kB_ok, e_ifE, kIfE_t, kIfE_f, e_and, kAnd_t, kAnd_f, e_or, kOr_t, kOr_f, e_not, kNot_ok, e_nil, e_cons, kA_ok, kA2_ok, e_tup, kTup_ok, e_lst, kLst_ok, e_mkF, e_mkT, e_call, kCall_ok, e_cb, kCB_ok, e_mt, kMt_ok, kMt2_ok, e_tyS, e_pNo, e_pSo, kSo_ok, e_sl, kSl_ok, kSl2_ok, kSl3_ok, e_it, kIt_tup, kIt_lst, kIt_wlst, kIt_str, e_for, kFor_ok, e_lc, kLc_ok, kLc2_ok, e_tget, kTG_ok, kTG2_ok, e_pat, e_tgN, e_tgNil, e_yes, e_endN, e_endR, e_gsub, kSub_ok, kSub2_ok, kSub3_ok, e_tr, kTr_bl, e_lcW, e_forW, List.getElem?_cons_zero, List.getElem?_cons_succ, List.set_cons_zero, List.set_cons_succ, List.length_cons, List.length_nil, if_pos, v_addI, v_sub, v_lt, v_le, v_gt, v_ge, v_eqI, v_neI, v_eqS, v_neS, Nat.reduceAdd, Nat.reduceLeDiff, Nat.reduceEqDiff, Int.reduceLT, Int.reduceLE, Int.reduceEq, Int.reduceAdd, Int.reduceSub, Int.reduceMul, Int.reduceNeg, decide_true, decide_false, Bool.not_true, Bool.not_false, Option.some.injEq, ite_true, ite_false, setA, hn]; simp [oD]
  | cons c r => simp only [e_seq, kSeq_nx, kSeq_rt, e_next, e_if, kIf_t, kIf_f, e_ret, kRet_ok, e_drop, kDrop_ok, e_set, kSet_ok, e_asg, kAsg_ok, kAsg2_ok, e_par, kPar_ok, e_var, kVar_ok, e_c, e_okM, e_2, k2_ok, k2b_ok, e_1, k1_ok, e_b, kB_ok, e_ifE, kIfE_t, kIfE_f, e_and, kAnd_t, kAnd_f, e_or, kOr_t, kOr_f, e_not, kNot_ok, e_nil, e_cons, kA_ok, kA2_ok, e_tup, kTup_ok, e_lst, kLst_ok, e_mkF, e_mkT, e_call, kCall_ok, e_cb, kCB_ok, e_mt, kMt_ok, kMt2_ok, e_tyS, e_pNo, e_pSo, kSo_ok, e_sl, kSl_ok, kSl2_ok, kSl3_ok, e_it, kIt_tup, kIt_lst, kIt_wlst, kIt_str, e_for, kFor_ok, e_lc, kLc_ok, kLc2_ok, e_tget, kTG_ok, kTG2_ok, e_pat, e_tgN, e_tgNil, e_yes, e_endN, e_endR, e_gsub, kSub_ok, kSub2_ok, kSub3_ok, e_tr, kTr_bl, e_lcW, e_forW, List.getElem?_cons_zero, List.getElem?_cons_succ, List.set_cons_zero, List.set_cons_succ, List.length_cons, List.length_nil, if_pos, v_addI, v_sub, v_lt, v_le, v_gt, v_ge, v_eqI, v_neI, v_eqS, v_neS, Nat.reduceAdd, Nat.reduceLeDiff, Nat.reduceEqDiff, Int.reduceLT, Int.reduceLE, Int.reduceEq, Int.reduceAdd, Int.reduceSub, Int.reduceMul, Int.reduceNeg, decide_true, decide_false, Bool.not_true, Bool.not_false, Option.some.injEq, ite_true, ite_false, setA, hn]; simp [oD]
end
end Cs
set_option linter.all false
set_option maxRecDepth 100000
set_option maxHeartbeats 1000000
namespace Cs
open PySem L2 Dm
section
variable {S : Store}
/-! ### simple_in -/
def wtsIn (a : Str) : Option (List Int) :=
  let l := (Txt.split a ",").map fun z => numIn z (-3) 3
  if 3 < l.length ∨ none ∈ l then none else some (l.map fun o => o.getD 0)
def simpleIn (x : Str) : Option Sn := match Txt.split x " " with
  | [w, a, b] => if w = "least" then (wtsIn a).bind fun ws => (numIn b (-4) 4).map fun c => .least ws c else none
  | [w, a, b, c] => if w = "rest" then (wtsIn a).bind fun ws => (numIn b 2 5).bind fun m => (numIn c 0 (m - 1)).map fun r => .rest ws m r else none
  | _ => none
def encO : Option Sn → D
  | none => .non
  | some s => enc s
theorem v_inNone (l : List (Option Int)) : oInA .non (.tup (l.map oD)) S = some (.bl (decide (none ∈ l)), S) := by
  have e : ∀ l : List (Option Int), flL (l.map oD) = some (l.map fun o => match o with
      | none => V.non
      | some i => V.int i) := by
    intro l
    induction l with
    | nil => rfl
    | cons o r ih => cases o <;> simp [flL, flD, oD, ih]
  have e2 : inV V.non (l.map fun o => match o with
      | none => V.non
      | some i => V.int i) = decide (none ∈ l) := by
    unfold inV
    rw [List.any_map]
    induction l with
    | nil => rfl
    | cons o r ih =>
      rw [List.any_cons, ih]
      cases o with
      | none => simp [eqV]
      | some i => simp [eqV]
  refine orO_s (orO_s ?_)
  show (inD S .non (.tup (l.map oD))).map _ = _
  have : inD S .non (.tup (l.map oD)) = some (decide (none ∈ l)) := by
    show (match flD D.non, (sqA S (D.tup (l.map oD))).bind flL with
      | some u, some us => some (inV u us)
      | _, _ => none) = _
    rw [v_sqAT, Option.bind_some, e l]
    show some (inV V.non _) = _
    rw [e2]
  rw [this]
  rfl
theorem wts_ok {a : Str} {ρ0 : Dm.Env} {k : Nat} (hk : k < ρ0.length) (ha : a.length ≤ 10000000) :
    lcL [k] tgN gYes (gCall 3 m_number_in (aCons (gVar k) (aCons (g1 oNeg (gC (.int 3))) (aCons (gC (.int 3)) aNil)))) ρ0 ((Txt.split a ",").map D.str) [] S = some (((Txt.split a ",").map fun z => numIn z (-3) 3).map oD, S) := by
  have h := lc_mapG (ns := [k]) (pf := tgN) (t := gYes) (el := gCall 3 m_number_in (aCons (gVar k) (aCons (g1 oNeg (gC (.int 3))) (aCons (gC (.int 3)) aNil)))) (ρ0 := ρ0) (S := S) (fun d => match d with
    | .str z => oD (numIn z (-3) 3)
    | d => d) (xs := (Txt.split a ",").map D.str) [] (fun d hd => by
      obtain ⟨z, hz, rfl⟩ := List.mem_map.mp hd
      refine ⟨[.str z], rfl, rfl, ?_⟩
      have e : (ρ0.set k (some (D.str z)))[k]? = some (some (.str z)) := List.getElem?_set_self hk
      have e2 : m_number_in [.str z, .int (-3), .int 3] S = some (.ok (oD (numIn z (-3) 3)), S) := number_ok (by decide)
      simp only [e_seq, kSeq_nx, kSeq_rt, e_next, e_if, kIf_t, kIf_f, e_ret, kRet_ok, e_drop, kDrop_ok, e_set, kSet_ok, e_asg, kAsg_ok, kAsg2_ok, e_par, kPar_ok, e_var, kVar_ok, e_c, e_okM, e_2, k2_ok, k2b_ok, e_1, k1_ok, e_b, kB_ok, e_ifE, kIfE_t, kIfE_f, e_and, kAnd_t, kAnd_f, e_or, kOr_t, kOr_f, e_not, kNot_ok, e_nil, e_cons, kA_ok, kA2_ok, e_tup, kTup_ok, e_lst, kLst_ok, e_mkF, e_mkT, e_call, kCall_ok, e_cb, kCB_ok, e_mt, kMt_ok, kMt2_ok, e_tyS, e_pNo, e_pSo, kSo_ok, e_sl, kSl_ok, kSl2_ok, kSl3_ok, e_it, kIt_tup, kIt_lst, kIt_wlst, kIt_str, e_for, kFor_ok, e_lc, kLc_ok, kLc2_ok, e_tget, kTG_ok, kTG2_ok, e_pat, e_tgN, e_tgNil, e_yes, e_endN, e_endR, e_gsub, kSub_ok, kSub2_ok, kSub3_ok, e_tr, kTr_bl, e_lcW, e_forW, List.getElem?_cons_zero, List.getElem?_cons_succ, List.set_cons_zero, List.set_cons_succ, List.length_cons, List.length_nil, if_pos, v_addI, v_sub, v_lt, v_le, v_gt, v_ge, v_eqI, v_neI, v_eqS, v_neS, Nat.reduceAdd, Nat.reduceLeDiff, Nat.reduceEqDiff, Int.reduceLT, Int.reduceLE, Int.reduceEq, Int.reduceAdd, Int.reduceSub, Int.reduceMul, Int.reduceNeg, decide_true, decide_false, Bool.not_true, Bool.not_false, Option.some.injEq, ite_true, ite_false, setA, e, v_neg, e2]) (by
      have := (split_sizes (x := a) tl_comma (by decide)).2
      rw [List.length_map]; simp; omega)
  rw [h, List.map_map, List.map_map]
  rfl
theorem spl_chars {s : Nat} {P : Nat → Prop} : ∀ (l acc : List Nat), (∀ c ∈ l, P c) → (∀ c ∈ acc, P c) → ∀ p ∈ TL.spl [s] 0 acc l, ∀ c ∈ p, P c
  | [], acc, _, h2, p, hp => by
    rw [TL.spl_nil, List.mem_singleton] at hp
    subst hp; exact h2
  | c :: r, acc, h1, h2, p, hp => by
    by_cases h : TL.pre [s] (c :: r) = true
    · rw [TL.spl_hit h] at hp
      rcases List.mem_cons.mp hp with e | e
      · subst e; exact h2
      · exact spl_chars r [] (fun c hc => h1 c (List.mem_cons_of_mem _ hc)) (fun c hc => absurd hc (List.not_mem_nil)) p e
    · rw [TL.spl_miss (by simpa using h)] at hp
      refine spl_chars r (acc ++ [c]) (fun c hc => h1 c (List.mem_cons_of_mem _ hc)) (fun d hd => ?_) p hp
      rcases List.mem_append.mp hd with e | e
      · exact h2 d e
      · rw [List.mem_singleton] at e; subst e; exact h1 _ (List.mem_cons_self ..)
theorem split_chars {x y : Str} {s : Nat} {P : Nat → Prop} (hy : TL.tl y = [s]) (hs : s < 256) (h : ∀ c ∈ TL.tl x, P c) : ∀ z ∈ Txt.split x y, ∀ c ∈ TL.tl z, P c := by
  have e := TL.split_spl x y (by rw [hy]; simp) (TL.kind_ok (by
    have : y.cps = #[s] := by
      have := congrArg List.toArray hy
      simpa [TL.tl] using this
    rw [this]; simp [hs]))
  rw [hy] at e
  have h1 := spl_chars (s := s) (TL.tl x) [] h (fun c hc => absurd hc (List.not_mem_nil))
  rw [← e] at h1
  exact fun z hz => h1 _ (List.mem_map_of_mem hz)
def Real (x : Str) : Prop := ∀ c ∈ TL.tl x, c < 0x110000
theorem Real.ok {x : Str} (h : Real x) : PyData.strOk x = true := by
  unfold PyData.strOk
  rw [← Array.all_toList, List.all_eq_true]
  exact fun c hc => decide_eq_true (h c hc)
theorem v_eqNil {l : List Str} (hx : ∀ z ∈ l, Real z) : oEq (.lst (l.map D.str)) (.lst []) S = some (.bl l.isEmpty, S) := by
  have h1 : Cln S (.lst (l.map D.str)) (.lst (l.map D.str)) := cln_self (by
    simp only [clD]
    exact clL_all fun d hd => by obtain ⟨z, hz, rfl⟩ := List.mem_map.mp hd; simpa [clD] using (hx z hz).ok) (by
    simp only [dpD]
    have : dpL (l.map D.str) ≤ 0 := dpL_all fun d hd => by obtain ⟨z, _, rfl⟩ := List.mem_map.mp hd; simp [dpD]
    omega)
  rw [v_eqCl h1 (cln_self rfl (by decide))]
  cases l with
  | nil => simp
  | cons c r => rw [eqb_ne (by simp)]; rfl
/-! ### the body of simple_in, by its pieces -/
def numB (tb : List (Str × Int)) (w : Str) (n : Nat) : Bool := !decide (((tb.lookup w).getD 0) = (n : Int))
theorem simple_cut {x w : Str} {r : List Str} (hx : Real x) (hl : x.length ≤ 10000000) (hs : Txt.split x " " = w :: r) {fl : YF}
    (h : (if r.isEmpty = true ∨ ((tb_NUMBERS.lookup w).getD 0) ≠ (r.length : Int) then some (.rt .non, S) else
      (fSeq (fSet 1 (gCB oTuple (aCons (gLc false (gIt (gMt .str (oSplit false) (g2 oIx (gVar 6) (gC (.int 0))) (aCons (gC (.str ",")) (aNil)))) [7] [7] (tgN) (gYes) (gCall 3 m_number_in (aCons (gVar 7) (aCons (g1 oNeg (gC (.int (3)))) (aCons (gC (.int (3))) (aNil)))))) (aNil))))
    (fSeq (fIf (gOrT (gB (g2 (oGt) (gCB oLen (aCons (gVar 1) (aNil))) (gC (.int (3))))) (gB (g2 (oInA) (gC .non) (gVar 1))))
    (fRet (gC .non))
    (fNext))
    (fSeq (fIf (gB (g2 (oEq) (gVar 4) (gC (.str "least"))))
    (fSeq (fSet 5 (gCall 3 m_number_in (aCons (g2 oIx (gVar 6) (gC (.int 1))) (aCons (g1 oNeg (gC (.int (4)))) (aCons (gC (.int (4))) (aNil))))))
    (fRet (gIf (gB (g2 (oIsN) (gVar 5) (gC .non))) (gC .non) (gTup (aCons (gVar 4) (aCons (gVar 1) (aCons (gVar 5) (aNil))))))))
    (fNext))
    (fSeq (fSet 2 (gCall 3 m_number_in (aCons (g2 oIx (gVar 6) (gC (.int 1))) (aCons (gC (.int 2)) (aCons (gC (.int (5))) (aNil))))))
    (fSeq (fSet 3 (gIf (gB (g2 (oIsN) (gVar 2) (gC .non))) (gC .non) (gCall 3 m_number_in (aCons (g2 oIx (gVar 6) (gC (.int 2))) (aCons (gC (.int 0)) (aCons (g2 (oSub) (gVar 2) (gC (.int 1))) (aNil)))))))
    (fRet (gIf (gB (g2 (oIsN) (gVar 3) (gC .non))) (gC .non) (gTup (aCons (gVar 4) (aCons (gVar 1) (aCons (gVar 2) (aCons (gVar 3) (aNil)))))))))))))
      [some (.str x), none, none, none, some (.str w), none, some (.lst (r.map D.str)), none] S) = fl) : m_simple_in [.str x] S = endD fl := by
  unfold m_simple_in b_simple_in
  rw [e_sem1, show startD 8 [D.str x] = [some (.str x), none, none, none, none, none, none, none] from rfl, e_seq]
  have h1 : oSplit false (.str x) [.str " "] S = some (.lst (D.str w :: r.map D.str), S) := by rw [v_split tl_blank (by decide) hl, hs]; rfl
  have hrr : ∀ z ∈ r, Real z := fun z hz => split_chars (P := fun c => c < 0x110000) tl_blank (by decide) hx z (by rw [hs]; exact List.mem_cons_of_mem _ hz)
  have h2 : oEq (.lst (r.map D.str)) (.lst []) S = some (.bl r.isEmpty, S) := v_eqNil hrr
  have h3 : tgStar false 2 1 (tgCons tgN (tgCons tgN tgNil)) (.lst (D.str w :: r.map D.str)) S = some ([.str w, .lst (r.map D.str)], S) := by
    have e1 : List.take r.length (r.map D.str) = r.map D.str := List.take_of_length_le (by simp)
    have e2 : List.drop r.length (r.map D.str) = [] := List.drop_of_length_le (by simp)
    simp [tgStar, tgCons, e1, e2]
  simp only [e_seq, kSeq_nx, kSeq_rt, e_next, e_if, kIf_t, kIf_f, e_ret, kRet_ok, e_drop, kDrop_ok, e_set, kSet_ok, e_asg, kAsg_ok, kAsg2_ok, e_par, kPar_ok, e_var, kVar_ok, e_c, e_okM, e_2, k2_ok, k2b_ok, e_1, k1_ok, e_b, kB_ok, e_ifE, kIfE_t, kIfE_f, e_and, kAnd_t, kAnd_f, e_or, kOr_t, kOr_f, e_not, kNot_ok, e_nil, e_cons, kA_ok, kA2_ok, e_tup, kTup_ok, e_lst, kLst_ok, e_mkF, e_mkT, e_call, kCall_ok, e_cb, kCB_ok, e_mt, kMt_ok, kMt2_ok, e_tyS, e_pNo, e_pSo, kSo_ok, e_sl, kSl_ok, kSl2_ok, kSl3_ok, e_it, kIt_tup, kIt_lst, kIt_wlst, kIt_str, e_for, kFor_ok, e_lc, kLc_ok, kLc2_ok, e_tget, kTG_ok, kTG2_ok, e_pat, e_tgN, e_tgNil, e_yes, e_endN, e_endR, e_gsub, kSub_ok, kSub2_ok, kSub3_ok, e_tr, kTr_bl, e_lcW, e_forW, List.getElem?_cons_zero, List.getElem?_cons_succ, List.set_cons_zero, List.set_cons_succ, List.length_cons, List.length_nil, if_pos, v_addI, v_sub, v_lt, v_le, v_gt, v_ge, v_eqI, v_neI, v_eqS, v_neS, Nat.reduceAdd, Nat.reduceLeDiff, Nat.reduceEqDiff, Int.reduceLT, Int.reduceLE, Int.reduceEq, Int.reduceAdd, Int.reduceSub, Int.reduceMul, Int.reduceNeg, decide_true, decide_false, Bool.not_true, Bool.not_false, Option.some.injEq, ite_true, ite_false, setA, h1, h3, h2]
  cases hr : r.isEmpty with
  | true =>
    rw [hr, if_pos (.inl rfl)] at h
    subst h
    simp only [e_seq, kSeq_nx, kSeq_rt, e_next, e_if, kIf_t, kIf_f, e_ret, kRet_ok, e_drop, kDrop_ok, e_set, kSet_ok, e_asg, kAsg_ok, kAsg2_ok, e_par, kPar_ok, e_var, kVar_ok, e_c, e_okM, e_2, k2_ok, k2b_ok, e_1, k1_ok, e_b, kB_ok, e_ifE, kIfE_t, kIfE_f, e_and, kAnd_t, kAnd_f, e_or, kOr_t, kOr_f, e_not, kNot_ok, e_nil, e_cons, kA_ok, kA2_ok, e_tup, kTup_ok, e_lst, kLst_ok, e_mkF, e_mkT, e_call, kCall_ok, e_cb, kCB_ok, e_mt, kMt_ok, kMt2_ok, e_tyS, e_pNo, e_pSo, kSo_ok, e_sl, kSl_ok, kSl2_ok, kSl3_ok, e_it, kIt_tup, kIt_lst, kIt_wlst, kIt_str, e_for, kFor_ok, e_lc, kLc_ok, kLc2_ok, e_tget, kTG_ok, kTG2_ok, e_pat, e_tgN, e_tgNil, e_yes, e_endN, e_endR, e_gsub, kSub_ok, kSub2_ok, kSub3_ok, e_tr, kTr_bl, e_lcW, e_forW, List.getElem?_cons_zero, List.getElem?_cons_succ, List.set_cons_zero, List.set_cons_succ, List.length_cons, List.length_nil, if_pos, v_addI, v_sub, v_lt, v_le, v_gt, v_ge, v_eqI, v_neI, v_eqS, v_neS, Nat.reduceAdd, Nat.reduceLeDiff, Nat.reduceEqDiff, Int.reduceLT, Int.reduceLE, Int.reduceEq, Int.reduceAdd, Int.reduceSub, Int.reduceMul, Int.reduceNeg, decide_true, decide_false, Bool.not_true, Bool.not_false, Option.some.injEq, ite_true, ite_false, setA]
  | false =>
    rw [hr] at h
    simp only [e_seq, kSeq_nx, kSeq_rt, e_next, e_if, kIf_t, kIf_f, e_ret, kRet_ok, e_drop, kDrop_ok, e_set, kSet_ok, e_asg, kAsg_ok, kAsg2_ok, e_par, kPar_ok, e_var, kVar_ok, e_c, e_okM, e_2, k2_ok, k2b_ok, e_1, k1_ok, e_b, kB_ok, e_ifE, kIfE_t, kIfE_f, e_and, kAnd_t, kAnd_f, e_or, kOr_t, kOr_f, e_not, kNot_ok, e_nil, e_cons, kA_ok, kA2_ok, e_tup, kTup_ok, e_lst, kLst_ok, e_mkF, e_mkT, e_call, kCall_ok, e_cb, kCB_ok, e_mt, kMt_ok, kMt2_ok, e_tyS, e_pNo, e_pSo, kSo_ok, e_sl, kSl_ok, kSl2_ok, kSl3_ok, e_it, kIt_tup, kIt_lst, kIt_wlst, kIt_str, e_for, kFor_ok, e_lc, kLc_ok, kLc2_ok, e_tget, kTG_ok, kTG2_ok, e_pat, e_tgN, e_tgNil, e_yes, e_endN, e_endR, e_gsub, kSub_ok, kSub2_ok, kSub3_ok, e_tr, kTr_bl, e_lcW, e_forW, List.getElem?_cons_zero, List.getElem?_cons_succ, List.set_cons_zero, List.set_cons_succ, List.length_cons, List.length_nil, if_pos, v_addI, v_sub, v_lt, v_le, v_gt, v_ge, v_eqI, v_neI, v_eqS, v_neS, Nat.reduceAdd, Nat.reduceLeDiff, Nat.reduceEqDiff, Int.reduceLT, Int.reduceLE, Int.reduceEq, Int.reduceAdd, Int.reduceSub, Int.reduceMul, Int.reduceNeg, decide_true, decide_false, Bool.not_true, Bool.not_false, Option.some.injEq, ite_true, ite_false, setA, v_lenL, List.length_map]
    by_cases q : ((tb_NUMBERS.lookup w).getD 0) = (r.length : Int)
    · rw [if_neg (by simp [q])] at h
      subst h
      simp only [decide_eq_true q, Bool.not_true, kIf_f, e_next, kSeq_nx]
    · rw [if_pos (.inr q)] at h
      subst h
      simp only [decide_eq_false q, Bool.not_false, kIf_t, kSeq_rt, e_ret, e_c, kRet_ok]
end
end Cs
set_option linter.all false
set_option maxRecDepth 100000
set_option maxHeartbeats 1000000
namespace Cs
open PySem L2 Dm
section
variable {S : Store}
theorem spl_ne (s : Nat) : ∀ (l acc : List Nat), TL.spl [s] 0 acc l ≠ []
  | [], acc => by rw [TL.spl_nil]; simp
  | c :: r, acc => by
    by_cases h : TL.pre [s] (c :: r) = true
    · rw [TL.spl_hit h]; simp
    · rw [TL.spl_miss (by simpa using h)]; exact spl_ne s r _
theorem split_ne {x y : Str} {s : Nat} (hy : TL.tl y = [s]) (hs : s < 256) : Txt.split x y ≠ [] := by
  have e := TL.split_spl x y (by rw [hy]; simp) (TL.kind_ok (by
    have : y.cps = #[s] := by
      have := congrArg List.toArray hy
      simpa [TL.tl] using this
    rw [this]; simp [hs]))
  rw [hy] at e
  intro h
  rw [h] at e
  exact spl_ne s _ _ e.symm
theorem oD_non {o : Option Int} : oIsN (oD o) .non S = some (.bl o.isNone, S) := by cases o <;> rfl
/-- the weights, as read -/
theorem wts_all {a : Str} : wtsIn a = (if 3 < ((Txt.split a ",").map fun z => numIn z (-3) 3).length ∨ none ∈ ((Txt.split a ",").map fun z => numIn z (-3) 3) then none else some (((Txt.split a ",").map fun z => numIn z (-3) 3).map fun o => o.getD 0)) := rfl
theorem oD_map {l : List (Option Int)} (h : none ∉ l) : l.map oD = (l.map fun o => o.getD 0).map D.int := by
  rw [List.map_map]
  refine List.map_congr_left fun o ho => ?_
  cases o with
  | none => exact absurd ho h
  | some i => rfl
theorem lookup_other {w : Str} (h1 : w ≠ "least") (h2 : w ≠ "rest") : tb_NUMBERS.lookup w = none := by
  have e1 : (w == "least") = false := by simpa using h1
  have e2 : (w == "rest") = false := by simpa using h2
  simp [tb_NUMBERS, List.lookup, e1, e2]
theorem simpleIn_ok {x : Str} (hx : Real x) (hl : x.length ≤ 10000000) : m_simple_in [.str x] S = some (.ok (encO (simpleIn x)), S) := by
  cases hs : Txt.split x " " with
  | nil => exact absurd hs (split_ne tl_blank (by decide))
  | cons w r =>
    have hlen : ∀ z ∈ r, z.length ≤ 10000000 := fun z hz => Nat.le_trans ((split_sizes (x := x) tl_blank (by decide)).1 z (by rw [hs]; exact List.mem_cons_of_mem _ hz)) hl
    have bad : (r.isEmpty = true ∨ ((tb_NUMBERS.lookup w).getD 0) ≠ (r.length : Int)) → simpleIn x = none → m_simple_in [.str x] S = some (.ok (encO (simpleIn x)), S) := fun h1 h2 => by
      rw [simple_cut hx hl hs (fl := some (.rt .non, S)) (if_pos h1), h2]; rfl
    by_cases h1 : w = "least"
    · subst h1
      by_cases h2 : r.length = 2
      · obtain ⟨a, b, rfl⟩ : ∃ a b, r = [a, b] := by
          match r, h2 with
          | [a, b], _ => exact ⟨a, b, rfl⟩
        have ha := hlen a (by simp)
        have hsp : oSplit false (.str a) [.str ","] S = some (.lst ((Txt.split a ",").map D.str), S) := v_split tl_comma (by decide) ha
        have hn : m_number_in [.str b, .int (-4), .int 4] S = some (.ok (oD (numIn b (-4) 4)), S) := number_ok (by decide)
        have hw := wts_ok (S := S) (a := a) (k := 7) (ρ0 := [some (.str x), none, none, none, some (.str "least"), none, some (.lst [.str a, .str b]), none]) (by simp) ha
        have e : simpleIn x = (wtsIn a).bind fun ws => (numIn b (-4) 4).map fun c => .least ws c := by
          unfold simpleIn; rw [hs]; exact if_pos rfl
        rw [simple_cut hx hl hs (if_neg (by rw [n4]; simp)), e]
        simp only [e_seq, kSeq_nx, kSeq_rt, e_next, e_if, kIf_t, kIf_f, e_ret, kRet_ok, e_drop, kDrop_ok, e_set, kSet_ok, e_asg, kAsg_ok, kAsg2_ok, e_par, kPar_ok, e_var, kVar_ok, e_c, e_okM, e_2, k2_ok, k2b_ok, e_1, k1_ok, e_b, kB_ok, e_ifE, kIfE_t, kIfE_f, e_and, kAnd_t, kAnd_f, e_or, kOr_t, kOr_f, e_not, kNot_ok, e_nil, e_cons, kA_ok, kA2_ok, e_tup, kTup_ok, e_lst, kLst_ok, e_mkF, e_mkT, e_call, kCall_ok, e_cb, kCB_ok, e_mt, kMt_ok, kMt2_ok, e_tyS, e_pNo, e_pSo, kSo_ok, e_sl, kSl_ok, kSl2_ok, kSl3_ok, e_it, kIt_tup, kIt_lst, kIt_wlst, kIt_str, e_for, kFor_ok, e_lc, kLc_ok, kLc2_ok, e_tget, kTG_ok, kTG2_ok, e_pat, e_tgN, e_tgNil, e_yes, e_endN, e_endR, e_gsub, kSub_ok, kSub2_ok, kSub3_ok, e_tr, kTr_bl, e_lcW, e_forW, List.getElem?_cons_zero, List.getElem?_cons_succ, List.set_cons_zero, List.set_cons_succ, List.length_cons, List.length_nil, if_pos, v_addI, v_sub, v_lt, v_le, v_gt, v_ge, v_eqI, v_neI, v_eqS, v_neS, Nat.reduceAdd, Nat.reduceLeDiff, Nat.reduceEqDiff, Int.reduceLT, Int.reduceLE, Int.reduceEq, Int.reduceAdd, Int.reduceSub, Int.reduceMul, Int.reduceNeg, decide_true, decide_false, Bool.not_true, Bool.not_false, Option.some.injEq, ite_true, ite_false, setA, List.map_cons, List.map_nil, v_ixL0, hsp, wipeA, hw, v_tupL, v_lenT, v_inNone]
        by_cases q1 : 3 < ((Txt.split a ",").map fun z => numIn z (-3) 3).length
        · rw [List.length_map, decide_eq_true (show (3 : Int) < _ by omega)]
          simp only [e_seq, kSeq_nx, kSeq_rt, e_next, e_if, kIf_t, kIf_f, e_ret, kRet_ok, e_drop, kDrop_ok, e_set, kSet_ok, e_asg, kAsg_ok, kAsg2_ok, e_par, kPar_ok, e_var, kVar_ok, e_c, e_okM, e_2, k2_ok, k2b_ok, e_1, k1_ok, e_b, kB_ok, e_ifE, kIfE_t, kIfE_f, e_and, kAnd_t, kAnd_f, e_or, kOr_t, kOr_f, e_not, kNot_ok, e_nil, e_cons, kA_ok, kA2_ok, e_tup, kTup_ok, e_lst, kLst_ok, e_mkF, e_mkT, e_call, kCall_ok, e_cb, kCB_ok, e_mt, kMt_ok, kMt2_ok, e_tyS, e_pNo, e_pSo, kSo_ok, e_sl, kSl_ok, kSl2_ok, kSl3_ok, e_it, kIt_tup, kIt_lst, kIt_wlst, kIt_str, e_for, kFor_ok, e_lc, kLc_ok, kLc2_ok, e_tget, kTG_ok, kTG2_ok, e_pat, e_tgN, e_tgNil, e_yes, e_endN, e_endR, e_gsub, kSub_ok, kSub2_ok, kSub3_ok, e_tr, kTr_bl, e_lcW, e_forW, List.getElem?_cons_zero, List.getElem?_cons_succ, List.set_cons_zero, List.set_cons_succ, List.length_cons, List.length_nil, if_pos, v_addI, v_sub, v_lt, v_le, v_gt, v_ge, v_eqI, v_neI, v_eqS, v_neS, Nat.reduceAdd, Nat.reduceLeDiff, Nat.reduceEqDiff, Int.reduceLT, Int.reduceLE, Int.reduceEq, Int.reduceAdd, Int.reduceSub, Int.reduceMul, Int.reduceNeg, decide_true, decide_false, Bool.not_true, Bool.not_false, Option.some.injEq, ite_true, ite_false, setA]
          rw [wts_all, if_pos (.inl q1)]
          rfl
        · rw [List.length_map, decide_eq_false (show ¬ (3 : Int) < _ by omega)]
          simp only [e_seq, kSeq_nx, kSeq_rt, e_next, e_if, kIf_t, kIf_f, e_ret, kRet_ok, e_drop, kDrop_ok, e_set, kSet_ok, e_asg, kAsg_ok, kAsg2_ok, e_par, kPar_ok, e_var, kVar_ok, e_c, e_okM, e_2, k2_ok, k2b_ok, e_1, k1_ok, e_b, kB_ok, e_ifE, kIfE_t, kIfE_f, e_and, kAnd_t, kAnd_f, e_or, kOr_t, kOr_f, e_not, kNot_ok, e_nil, e_cons, kA_ok, kA2_ok, e_tup, kTup_ok, e_lst, kLst_ok, e_mkF, e_mkT, e_call, kCall_ok, e_cb, kCB_ok, e_mt, kMt_ok, kMt2_ok, e_tyS, e_pNo, e_pSo, kSo_ok, e_sl, kSl_ok, kSl2_ok, kSl3_ok, e_it, kIt_tup, kIt_lst, kIt_wlst, kIt_str, e_for, kFor_ok, e_lc, kLc_ok, kLc2_ok, e_tget, kTG_ok, kTG2_ok, e_pat, e_tgN, e_tgNil, e_yes, e_endN, e_endR, e_gsub, kSub_ok, kSub2_ok, kSub3_ok, e_tr, kTr_bl, e_lcW, e_forW, List.getElem?_cons_zero, List.getElem?_cons_succ, List.set_cons_zero, List.set_cons_succ, List.length_cons, List.length_nil, if_pos, v_addI, v_sub, v_lt, v_le, v_gt, v_ge, v_eqI, v_neI, v_eqS, v_neS, Nat.reduceAdd, Nat.reduceLeDiff, Nat.reduceEqDiff, Int.reduceLT, Int.reduceLE, Int.reduceEq, Int.reduceAdd, Int.reduceSub, Int.reduceMul, Int.reduceNeg, decide_true, decide_false, Bool.not_true, Bool.not_false, Option.some.injEq, ite_true, ite_false, setA, v_inNone]
          by_cases q2 : none ∈ ((Txt.split a ",").map fun z => numIn z (-3) 3)
          · rw [decide_eq_true q2]
            simp only [e_seq, kSeq_nx, kSeq_rt, e_next, e_if, kIf_t, kIf_f, e_ret, kRet_ok, e_drop, kDrop_ok, e_set, kSet_ok, e_asg, kAsg_ok, kAsg2_ok, e_par, kPar_ok, e_var, kVar_ok, e_c, e_okM, e_2, k2_ok, k2b_ok, e_1, k1_ok, e_b, kB_ok, e_ifE, kIfE_t, kIfE_f, e_and, kAnd_t, kAnd_f, e_or, kOr_t, kOr_f, e_not, kNot_ok, e_nil, e_cons, kA_ok, kA2_ok, e_tup, kTup_ok, e_lst, kLst_ok, e_mkF, e_mkT, e_call, kCall_ok, e_cb, kCB_ok, e_mt, kMt_ok, kMt2_ok, e_tyS, e_pNo, e_pSo, kSo_ok, e_sl, kSl_ok, kSl2_ok, kSl3_ok, e_it, kIt_tup, kIt_lst, kIt_wlst, kIt_str, e_for, kFor_ok, e_lc, kLc_ok, kLc2_ok, e_tget, kTG_ok, kTG2_ok, e_pat, e_tgN, e_tgNil, e_yes, e_endN, e_endR, e_gsub, kSub_ok, kSub2_ok, kSub3_ok, e_tr, kTr_bl, e_lcW, e_forW, List.getElem?_cons_zero, List.getElem?_cons_succ, List.set_cons_zero, List.set_cons_succ, List.length_cons, List.length_nil, if_pos, v_addI, v_sub, v_lt, v_le, v_gt, v_ge, v_eqI, v_neI, v_eqS, v_neS, Nat.reduceAdd, Nat.reduceLeDiff, Nat.reduceEqDiff, Int.reduceLT, Int.reduceLE, Int.reduceEq, Int.reduceAdd, Int.reduceSub, Int.reduceMul, Int.reduceNeg, decide_true, decide_false, Bool.not_true, Bool.not_false, Option.some.injEq, ite_true, ite_false, setA]
            rw [wts_all, if_pos (.inr q2)]
            rfl
          · rw [decide_eq_false q2]
            simp only [e_seq, kSeq_nx, kSeq_rt, e_next, e_if, kIf_t, kIf_f, e_ret, kRet_ok, e_drop, kDrop_ok, e_set, kSet_ok, e_asg, kAsg_ok, kAsg2_ok, e_par, kPar_ok, e_var, kVar_ok, e_c, e_okM, e_2, k2_ok, k2b_ok, e_1, k1_ok, e_b, kB_ok, e_ifE, kIfE_t, kIfE_f, e_and, kAnd_t, kAnd_f, e_or, kOr_t, kOr_f, e_not, kNot_ok, e_nil, e_cons, kA_ok, kA2_ok, e_tup, kTup_ok, e_lst, kLst_ok, e_mkF, e_mkT, e_call, kCall_ok, e_cb, kCB_ok, e_mt, kMt_ok, kMt2_ok, e_tyS, e_pNo, e_pSo, kSo_ok, e_sl, kSl_ok, kSl2_ok, kSl3_ok, e_it, kIt_tup, kIt_lst, kIt_wlst, kIt_str, e_for, kFor_ok, e_lc, kLc_ok, kLc2_ok, e_tget, kTG_ok, kTG2_ok, e_pat, e_tgN, e_tgNil, e_yes, e_endN, e_endR, e_gsub, kSub_ok, kSub2_ok, kSub3_ok, e_tr, kTr_bl, e_lcW, e_forW, List.getElem?_cons_zero, List.getElem?_cons_succ, List.set_cons_zero, List.set_cons_succ, List.length_cons, List.length_nil, if_pos, v_addI, v_sub, v_lt, v_le, v_gt, v_ge, v_eqI, v_neI, v_eqS, v_neS, Nat.reduceAdd, Nat.reduceLeDiff, Nat.reduceEqDiff, Int.reduceLT, Int.reduceLE, Int.reduceEq, Int.reduceAdd, Int.reduceSub, Int.reduceMul, Int.reduceNeg, decide_true, decide_false, Bool.not_true, Bool.not_false, Option.some.injEq, ite_true, ite_false, setA, v_ixL1, v_neg, hn, oD_non]
            rw [wts_all, if_neg (by rintro (h | h); exact q1 h; exact q2 h), oD_map q2]
            cases numIn b (-4) 4 with
            | none => simp [encO]
            | some c => simp [encO, enc, oD]
      · refine bad (.inr (by rw [n4]; simp; omega)) ?_
        unfold simpleIn
        rw [hs]
        match r, h2 with
        | [], _ => rfl
        | [_], _ => rfl
        | [_, _, _], _ => exact if_neg (by decide)
        | _ :: _ :: _ :: _ :: _, _ => rfl
    · by_cases h3 : w = "rest"
      · subst h3
        by_cases h2 : r.length = 3
        · obtain ⟨a, b, c, rfl⟩ : ∃ a b c, r = [a, b, c] := by
            match r, h2 with
            | [a, b, c], _ => exact ⟨a, b, c, rfl⟩
          have ha := hlen a (by simp)
          have hsp : oSplit false (.str a) [.str ","] S = some (.lst ((Txt.split a ",").map D.str), S) := v_split tl_comma (by decide) ha
          have hn : m_number_in [.str b, .int 2, .int 5] S = some (.ok (oD (numIn b 2 5)), S) := number_ok (by decide)
          have hw := wts_ok (S := S) (a := a) (k := 7) (ρ0 := [some (.str x), none, none, none, some (.str "rest"), none, some (.lst [.str a, .str b, .str c]), none]) (by simp) ha
          have e : simpleIn x = (wtsIn a).bind fun ws => (numIn b 2 5).bind fun m => (numIn c 0 (m - 1)).map fun r => .rest ws m r := by
            unfold simpleIn; rw [hs]; exact if_pos rfl
          rw [simple_cut hx hl hs (if_neg (by rw [n5]; simp)), e]
          simp only [e_seq, kSeq_nx, kSeq_rt, e_next, e_if, kIf_t, kIf_f, e_ret, kRet_ok, e_drop, kDrop_ok, e_set, kSet_ok, e_asg, kAsg_ok, kAsg2_ok, e_par, kPar_ok, e_var, kVar_ok, e_c, e_okM, e_2, k2_ok, k2b_ok, e_1, k1_ok, e_b, kB_ok, e_ifE, kIfE_t, kIfE_f, e_and, kAnd_t, kAnd_f, e_or, kOr_t, kOr_f, e_not, kNot_ok, e_nil, e_cons, kA_ok, kA2_ok, e_tup, kTup_ok, e_lst, kLst_ok, e_mkF, e_mkT, e_call, kCall_ok, e_cb, kCB_ok, e_mt, kMt_ok, kMt2_ok, e_tyS, e_pNo, e_pSo, kSo_ok, e_sl, kSl_ok, kSl2_ok, kSl3_ok, e_it, kIt_tup, kIt_lst, kIt_wlst, kIt_str, e_for, kFor_ok, e_lc, kLc_ok, kLc2_ok, e_tget, kTG_ok, kTG2_ok, e_pat, e_tgN, e_tgNil, e_yes, e_endN, e_endR, e_gsub, kSub_ok, kSub2_ok, kSub3_ok, e_tr, kTr_bl, e_lcW, e_forW, List.getElem?_cons_zero, List.getElem?_cons_succ, List.set_cons_zero, List.set_cons_succ, List.length_cons, List.length_nil, if_pos, v_addI, v_sub, v_lt, v_le, v_gt, v_ge, v_eqI, v_neI, v_eqS, v_neS, Nat.reduceAdd, Nat.reduceLeDiff, Nat.reduceEqDiff, Int.reduceLT, Int.reduceLE, Int.reduceEq, Int.reduceAdd, Int.reduceSub, Int.reduceMul, Int.reduceNeg, decide_true, decide_false, Bool.not_true, Bool.not_false, Option.some.injEq, ite_true, ite_false, setA, List.map_cons, List.map_nil, v_ixL0, hsp, wipeA, hw, v_tupL, v_lenT, v_inNone]
          by_cases q1 : 3 < ((Txt.split a ",").map fun z => numIn z (-3) 3).length
          · rw [List.length_map, decide_eq_true (show (3 : Int) < _ by omega)]
            simp only [e_seq, kSeq_nx, kSeq_rt, e_next, e_if, kIf_t, kIf_f, e_ret, kRet_ok, e_drop, kDrop_ok, e_set, kSet_ok, e_asg, kAsg_ok, kAsg2_ok, e_par, kPar_ok, e_var, kVar_ok, e_c, e_okM, e_2, k2_ok, k2b_ok, e_1, k1_ok, e_b, kB_ok, e_ifE, kIfE_t, kIfE_f, e_and, kAnd_t, kAnd_f, e_or, kOr_t, kOr_f, e_not, kNot_ok, e_nil, e_cons, kA_ok, kA2_ok, e_tup, kTup_ok, e_lst, kLst_ok, e_mkF, e_mkT, e_call, kCall_ok, e_cb, kCB_ok, e_mt, kMt_ok, kMt2_ok, e_tyS, e_pNo, e_pSo, kSo_ok, e_sl, kSl_ok, kSl2_ok, kSl3_ok, e_it, kIt_tup, kIt_lst, kIt_wlst, kIt_str, e_for, kFor_ok, e_lc, kLc_ok, kLc2_ok, e_tget, kTG_ok, kTG2_ok, e_pat, e_tgN, e_tgNil, e_yes, e_endN, e_endR, e_gsub, kSub_ok, kSub2_ok, kSub3_ok, e_tr, kTr_bl, e_lcW, e_forW, List.getElem?_cons_zero, List.getElem?_cons_succ, List.set_cons_zero, List.set_cons_succ, List.length_cons, List.length_nil, if_pos, v_addI, v_sub, v_lt, v_le, v_gt, v_ge, v_eqI, v_neI, v_eqS, v_neS, Nat.reduceAdd, Nat.reduceLeDiff, Nat.reduceEqDiff, Int.reduceLT, Int.reduceLE, Int.reduceEq, Int.reduceAdd, Int.reduceSub, Int.reduceMul, Int.reduceNeg, decide_true, decide_false, Bool.not_true, Bool.not_false, Option.some.injEq, ite_true, ite_false, setA]
            rw [wts_all, if_pos (.inl q1)]
            rfl
          · rw [List.length_map, decide_eq_false (show ¬ (3 : Int) < _ by omega)]
            simp only [e_seq, kSeq_nx, kSeq_rt, e_next, e_if, kIf_t, kIf_f, e_ret, kRet_ok, e_drop, kDrop_ok, e_set, kSet_ok, e_asg, kAsg_ok, kAsg2_ok, e_par, kPar_ok, e_var, kVar_ok, e_c, e_okM, e_2, k2_ok, k2b_ok, e_1, k1_ok, e_b, kB_ok, e_ifE, kIfE_t, kIfE_f, e_and, kAnd_t, kAnd_f, e_or, kOr_t, kOr_f, e_not, kNot_ok, e_nil, e_cons, kA_ok, kA2_ok, e_tup, kTup_ok, e_lst, kLst_ok, e_mkF, e_mkT, e_call, kCall_ok, e_cb, kCB_ok, e_mt, kMt_ok, kMt2_ok, e_tyS, e_pNo, e_pSo, kSo_ok, e_sl, kSl_ok, kSl2_ok, kSl3_ok, e_it, kIt_tup, kIt_lst, kIt_wlst, kIt_str, e_for, kFor_ok, e_lc, kLc_ok, kLc2_ok, e_tget, kTG_ok, kTG2_ok, e_pat, e_tgN, e_tgNil, e_yes, e_endN, e_endR, e_gsub, kSub_ok, kSub2_ok, kSub3_ok, e_tr, kTr_bl, e_lcW, e_forW, List.getElem?_cons_zero, List.getElem?_cons_succ, List.set_cons_zero, List.set_cons_succ, List.length_cons, List.length_nil, if_pos, v_addI, v_sub, v_lt, v_le, v_gt, v_ge, v_eqI, v_neI, v_eqS, v_neS, Nat.reduceAdd, Nat.reduceLeDiff, Nat.reduceEqDiff, Int.reduceLT, Int.reduceLE, Int.reduceEq, Int.reduceAdd, Int.reduceSub, Int.reduceMul, Int.reduceNeg, decide_true, decide_false, Bool.not_true, Bool.not_false, Option.some.injEq, ite_true, ite_false, setA, v_inNone]
            by_cases q2 : none ∈ ((Txt.split a ",").map fun z => numIn z (-3) 3)
            · rw [decide_eq_true q2]
              simp only [e_seq, kSeq_nx, kSeq_rt, e_next, e_if, kIf_t, kIf_f, e_ret, kRet_ok, e_drop, kDrop_ok, e_set, kSet_ok, e_asg, kAsg_ok, kAsg2_ok, e_par, kPar_ok, e_var, kVar_ok, e_c, e_okM, e_2, k2_ok, k2b_ok, e_1, k1_ok, e_b, kB_ok, e_ifE, kIfE_t, kIfE_f, e_and, kAnd_t, kAnd_f, e_or, kOr_t, kOr_f, e_not, kNot_ok, e_nil, e_cons, kA_ok, kA2_ok, e_tup, kTup_ok, e_lst, kLst_ok, e_mkF, e_mkT, e_call, kCall_ok, e_cb, kCB_ok, e_mt, kMt_ok, kMt2_ok, e_tyS, e_pNo, e_pSo, kSo_ok, e_sl, kSl_ok, kSl2_ok, kSl3_ok, e_it, kIt_tup, kIt_lst, kIt_wlst, kIt_str, e_for, kFor_ok, e_lc, kLc_ok, kLc2_ok, e_tget, kTG_ok, kTG2_ok, e_pat, e_tgN, e_tgNil, e_yes, e_endN, e_endR, e_gsub, kSub_ok, kSub2_ok, kSub3_ok, e_tr, kTr_bl, e_lcW, e_forW, List.getElem?_cons_zero, List.getElem?_cons_succ, List.set_cons_zero, List.set_cons_succ, List.length_cons, List.length_nil, if_pos, v_addI, v_sub, v_lt, v_le, v_gt, v_ge, v_eqI, v_neI, v_eqS, v_neS, Nat.reduceAdd, Nat.reduceLeDiff, Nat.reduceEqDiff, Int.reduceLT, Int.reduceLE, Int.reduceEq, Int.reduceAdd, Int.reduceSub, Int.reduceMul, Int.reduceNeg, decide_true, decide_false, Bool.not_true, Bool.not_false, Option.some.injEq, ite_true, ite_false, setA]
              rw [wts_all, if_pos (.inr q2)]
              rfl
            · rw [decide_eq_false q2]
              simp only [e_seq, kSeq_nx, kSeq_rt, e_next, e_if, kIf_t, kIf_f, e_ret, kRet_ok, e_drop, kDrop_ok, e_set, kSet_ok, e_asg, kAsg_ok, kAsg2_ok, e_par, kPar_ok, e_var, kVar_ok, e_c, e_okM, e_2, k2_ok, k2b_ok, e_1, k1_ok, e_b, kB_ok, e_ifE, kIfE_t, kIfE_f, e_and, kAnd_t, kAnd_f, e_or, kOr_t, kOr_f, e_not, kNot_ok, e_nil, e_cons, kA_ok, kA2_ok, e_tup, kTup_ok, e_lst, kLst_ok, e_mkF, e_mkT, e_call, kCall_ok, e_cb, kCB_ok, e_mt, kMt_ok, kMt2_ok, e_tyS, e_pNo, e_pSo, kSo_ok, e_sl, kSl_ok, kSl2_ok, kSl3_ok, e_it, kIt_tup, kIt_lst, kIt_wlst, kIt_str, e_for, kFor_ok, e_lc, kLc_ok, kLc2_ok, e_tget, kTG_ok, kTG2_ok, e_pat, e_tgN, e_tgNil, e_yes, e_endN, e_endR, e_gsub, kSub_ok, kSub2_ok, kSub3_ok, e_tr, kTr_bl, e_lcW, e_forW, List.getElem?_cons_zero, List.getElem?_cons_succ, List.set_cons_zero, List.set_cons_succ, List.length_cons, List.length_nil, if_pos, v_addI, v_sub, v_lt, v_le, v_gt, v_ge, v_eqI, v_neI, v_eqS, v_neS, Nat.reduceAdd, Nat.reduceLeDiff, Nat.reduceEqDiff, Int.reduceLT, Int.reduceLE, Int.reduceEq, Int.reduceAdd, Int.reduceSub, Int.reduceMul, Int.reduceNeg, decide_true, decide_false, Bool.not_true, Bool.not_false, Option.some.injEq, ite_true, ite_false, setA, w11, decide_false, v_ixL1, v_ixL2, hn, oD_non]
              rw [wts_all, if_neg (by rintro (h | h); exact q1 h; exact q2 h), oD_map q2]
              cases hb : numIn b 2 5 with
              | none => simp [encO, oD]
              | some m =>
                have hm : 2 ≤ m ∧ m ≤ 5 := by
                  have := List.mem_of_find?_eq_some hb
                  rw [mem_rngI] at this
                  omega
                have hn2 : m_number_in [.str c, .int 0, .int (m - 1)] S = some (.ok (oD (numIn c 0 (m - 1))), S) := number_ok (by omega)
                simp [oD, hn2, oD_non]
                cases numIn c 0 (m - 1) with
                | none => simp [encO]
                | some c => simp [encO, enc, oD]
        · refine bad (.inr (by rw [n5]; simp; omega)) ?_
          unfold simpleIn
          rw [hs]
          match r, h2 with
          | [], _ => rfl
          | [_], _ => rfl
          | [_, _], _ => exact if_neg (by decide)
          | _ :: _ :: _ :: _ :: _, _ => rfl
      · refine bad ?_ ?_
        · rw [lookup_other h1 h3]
          cases r with
          | nil => exact .inl rfl
          | cons a r => exact .inr (by simp; omega)
        · unfold simpleIn
          rw [hs]
          match r with
          | [] => rfl
          | [_] => rfl
          | [_, _] => exact if_neg h1
          | [_, _, _] => exact if_neg h3
          | _ :: _ :: _ :: _ :: _ => rfl
end
end Cs
set_option linter.all false
set_option maxRecDepth 100000
set_option maxHeartbeats 1000000
namespace Cs
open PySem L2 Dm
section
variable {S : Store}
/-! ### x op= e; a cell at the store's end -/
theorem at_end {c : Cell} {n : Nat} (hn : n = S.length) : (S ++ [c])[n]? = some c := by rw [hn, List.getElem?_append_right (Nat.le_refl _), Nat.sub_self]; rfl
theorem set_end {c c' : Cell} {n : Nat} (hn : n = S.length) : (S ++ [c]).set n c' = S ++ [c'] := by
  rw [hn, List.set_append_right _ _ (Nat.le_refl _), Nat.sub_self]; rfl
theorem frz_end {xs : List D} {n : Nat} (hn : n = S.length) : frz (.box n) (S ++ [.lst xs]) = (.lst xs, S ++ [.dead]) := by
  show (match (S ++ [Cell.lst xs])[n]? with
    | some (.lst ds) => (D.lst ds, (S ++ [Cell.lst xs]).set n .dead)
    | _ => (D.box n, S ++ [Cell.lst xs])) = _
  rw [at_end hn]
  show (D.lst xs, (S ++ [Cell.lst xs]).set n .dead) = _
  rw [set_end hn]
theorem ty_end {xs : List D} {n : Nat} (hn : n = S.length) : tyD (S ++ [.lst xs]) .list (.box n) = true := by
  show (match (S ++ [Cell.lst xs])[n]? with | some c => tyC .list c | none => false) = true
  rw [at_end hn]; rfl
theorem v_appE {xs : List D} {y : D} {n : Nat} (hn : n = S.length) (h : xs.length < 16777216) : oAppend (.box n) [y] (S ++ [.lst xs]) = some (.non, S ++ [.lst (xs ++ [y])]) := by
  show onL (fun xs => if xs.length < sizeLine then some (.non, xs ++ [y]) else none) (.box n) (S ++ [.lst xs]) = _
  unfold onL
  dsimp only
  rw [at_end hn]
  show ((if xs.length < sizeLine then some (D.non, xs ++ [y]) else none) : Option (D × List D)).map _ = _
  rw [if_pos (show xs.length < sizeLine from h)]
  show some (D.non, (S ++ [Cell.lst xs]).set n (.lst (xs ++ [y]))) = _
  rw [set_end hn]
/-! ### places_between -/
def dl (c : Nat) : Int := (tb_DEEPER.lookup ⟨#[c]⟩).getD 0
def hit (x : Str) (i : Nat) (w : Str) : Bool := decide (cutS x (some (i : Int)) (some ((i : Int) + (w.length : Int) + 2)) = Str.ofString " " ++ w ++ Str.ofString " ")
def plc (x : Str) : Int → Nat → List Nat → List (Nat × Str)
  | _, _, [] => []
  | d, i, c :: r => (if d + dl c = 0 ∧ hit x i "and" = true then [(i, Str.ofString "and")] else []) ++ ((if d + dl c = 0 ∧ hit x i "or" = true then [(i, Str.ofString "or")] else []) ++ plc x (d + dl c) (i + 1) r)
theorem if1 {α : Type} (p : Prop) [Decidable p] (a : α) : (if p then [a] else []).length ≤ 1 := by split <;> simp
def encP (p : Nat × Str) : D := .tup [.int p.1, .str p.2]
theorem plc_len (x : Str) : ∀ (r : List Nat) (d : Int) (i : Nat), (plc x d i r).length ≤ 2 * r.length
  | [], _, _ => by simp [plc]
  | c :: r, d, i => by
    have := plc_len x r (d + dl c) (i + 1)
    unfold plc
    rw [List.length_append, List.length_append, List.length_cons]
    have h1 := if1 (d + dl c = 0 ∧ hit x i "and" = true) (i, Str.ofString "and")
    have h2 := if1 (d + dl c = 0 ∧ hit x i "or" = true) (i, Str.ofString "or")
    omega
theorem plc_word {x w acc : Str} {xs : List D} {n i : Nat} {d : Int} {e4 : Option D} (hn : n = S.length) (hxs : xs.length < 16777216) (hw : w.length ≤ 100) :
    fIf (gAndT (gB (g2 (oEq) (gVar 2) (gC (.int 0)))) (gB (g2 (oEq) (gSl false (gVar 0) (pSo (gVar 3)) (pSo (g2 (oAdd false) (g2 (oAdd false) (gVar 3) (gCB oLen (aCons (gVar 5) (aNil)))) (gC (.int 2))))) (g2 (oAdd false) (g2 (oAdd false) (gC (.str " ")) (gVar 5)) (gC (.str " "))))))
    (fDrop (gMt .list (oAppend) (gVar 1) (aCons (gTup (aCons (gVar 3) (aCons (gVar 5) (aNil)))) (aNil))))
    (fNext) [some (.str x), some (.box n), some (.int d), some (.int (i : Nat)), e4, some (.str w)] (S ++ [.lst xs]) =
    some (.nx [some (.str x), some (.box n), some (.int d), some (.int (i : Nat)), e4, some (.str w)], S ++ [.lst (xs ++ if d = 0 ∧ hit x i w = true then [encP (i, w)] else [])]) := by
  have a1 : oAdd false (.str " ") (.str w) (S ++ [.lst xs]) = some (.str (" " ++ w), S ++ [.lst xs]) := v_addS (by rw [blank1]; omega)
  have a2 : oAdd false (.str (" " ++ w)) (.str " ") (S ++ [.lst xs]) = some (.str (" " ++ w ++ " "), S ++ [.lst xs]) := v_addS (by rw [la, blank1]; omega)
  have a3 : ∀ l h, oSl false (.str x) l h (S ++ [.lst xs]) = some (.str (cutS x l h), S ++ [.lst xs]) := fun _ _ => rfl
  by_cases h1 : d = 0
  · subst h1
    simp only [e_seq, kSeq_nx, kSeq_rt, e_next, e_if, kIf_t, kIf_f, e_ret, kRet_ok, e_drop, kDrop_ok, e_set, kSet_ok, e_asg, kAsg_ok, kAsg2_ok, e_par, kPar_ok, e_var, kVar_ok, e_c, e_okM, e_2, k2_ok, k2b_ok, e_1, k1_ok, e_b, kB_ok, e_ifE, kIfE_t, kIfE_f, e_and, kAnd_t, kAnd_f, e_or, kOr_t, kOr_f, e_not, kNot_ok, e_nil, e_cons, kA_ok, kA2_ok, e_tup, kTup_ok, e_lst, kLst_ok, e_mkF, e_mkT, e_call, kCall_ok, e_cb, kCB_ok, e_mt, kMt_ok, kMt2_ok, e_tyS, e_pNo, e_pSo, kSo_ok, e_sl, kSl_ok, kSl2_ok, kSl3_ok, e_it, kIt_tup, kIt_lst, kIt_wlst, kIt_str, e_for, kFor_ok, e_lc, kLc_ok, kLc2_ok, e_tget, kTG_ok, kTG2_ok, e_pat, e_tgN, e_tgNil, e_yes, e_endN, e_endR, e_gsub, kSub_ok, kSub2_ok, kSub3_ok, e_tr, kTr_bl, e_lcW, e_forW, List.getElem?_cons_zero, List.getElem?_cons_succ, List.set_cons_zero, List.set_cons_succ, List.length_cons, List.length_nil, if_pos, v_addI, v_sub, v_lt, v_le, v_gt, v_ge, v_eqI, v_neI, v_eqS, v_neS, Nat.reduceAdd, Nat.reduceLeDiff, Nat.reduceEqDiff, Int.reduceLT, Int.reduceLE, Int.reduceEq, Int.reduceAdd, Int.reduceSub, Int.reduceMul, Int.reduceNeg, decide_true, decide_false, Bool.not_true, Bool.not_false, Option.some.injEq, ite_true, ite_false, setA, a1, a2, a3, v_lenS]
    by_cases h2 : hit x i w = true
    · rw [show decide (cutS x (some (i : Int)) (some ((i : Int) + (w.length : Int) + 2)) = Str.ofString " " ++ w ++ Str.ofString " ") = true from h2]
      simp only [e_seq, kSeq_nx, kSeq_rt, e_next, e_if, kIf_t, kIf_f, e_ret, kRet_ok, e_drop, kDrop_ok, e_set, kSet_ok, e_asg, kAsg_ok, kAsg2_ok, e_par, kPar_ok, e_var, kVar_ok, e_c, e_okM, e_2, k2_ok, k2b_ok, e_1, k1_ok, e_b, kB_ok, e_ifE, kIfE_t, kIfE_f, e_and, kAnd_t, kAnd_f, e_or, kOr_t, kOr_f, e_not, kNot_ok, e_nil, e_cons, kA_ok, kA2_ok, e_tup, kTup_ok, e_lst, kLst_ok, e_mkF, e_mkT, e_call, kCall_ok, e_cb, kCB_ok, e_mt, kMt_ok, kMt2_ok, e_tyS, e_pNo, e_pSo, kSo_ok, e_sl, kSl_ok, kSl2_ok, kSl3_ok, e_it, kIt_tup, kIt_lst, kIt_wlst, kIt_str, e_for, kFor_ok, e_lc, kLc_ok, kLc2_ok, e_tget, kTG_ok, kTG2_ok, e_pat, e_tgN, e_tgNil, e_yes, e_endN, e_endR, e_gsub, kSub_ok, kSub2_ok, kSub3_ok, e_tr, kTr_bl, e_lcW, e_forW, List.getElem?_cons_zero, List.getElem?_cons_succ, List.set_cons_zero, List.set_cons_succ, List.length_cons, List.length_nil, if_pos, v_addI, v_sub, v_lt, v_le, v_gt, v_ge, v_eqI, v_neI, v_eqS, v_neS, Nat.reduceAdd, Nat.reduceLeDiff, Nat.reduceEqDiff, Int.reduceLT, Int.reduceLE, Int.reduceEq, Int.reduceAdd, Int.reduceSub, Int.reduceMul, Int.reduceNeg, decide_true, decide_false, Bool.not_true, Bool.not_false, Option.some.injEq, ite_true, ite_false, setA, ty_end hn, v_appE hn hxs, h2, and_self]
      rfl
    · rw [show decide (cutS x (some (i : Int)) (some ((i : Int) + (w.length : Int) + 2)) = Str.ofString " " ++ w ++ Str.ofString " ") = false by simpa [hit] using h2]
      simp only [e_seq, kSeq_nx, kSeq_rt, e_next, e_if, kIf_t, kIf_f, e_ret, kRet_ok, e_drop, kDrop_ok, e_set, kSet_ok, e_asg, kAsg_ok, kAsg2_ok, e_par, kPar_ok, e_var, kVar_ok, e_c, e_okM, e_2, k2_ok, k2b_ok, e_1, k1_ok, e_b, kB_ok, e_ifE, kIfE_t, kIfE_f, e_and, kAnd_t, kAnd_f, e_or, kOr_t, kOr_f, e_not, kNot_ok, e_nil, e_cons, kA_ok, kA2_ok, e_tup, kTup_ok, e_lst, kLst_ok, e_mkF, e_mkT, e_call, kCall_ok, e_cb, kCB_ok, e_mt, kMt_ok, kMt2_ok, e_tyS, e_pNo, e_pSo, kSo_ok, e_sl, kSl_ok, kSl2_ok, kSl3_ok, e_it, kIt_tup, kIt_lst, kIt_wlst, kIt_str, e_for, kFor_ok, e_lc, kLc_ok, kLc2_ok, e_tget, kTG_ok, kTG2_ok, e_pat, e_tgN, e_tgNil, e_yes, e_endN, e_endR, e_gsub, kSub_ok, kSub2_ok, kSub3_ok, e_tr, kTr_bl, e_lcW, e_forW, List.getElem?_cons_zero, List.getElem?_cons_succ, List.set_cons_zero, List.set_cons_succ, List.length_cons, List.length_nil, if_pos, v_addI, v_sub, v_lt, v_le, v_gt, v_ge, v_eqI, v_neI, v_eqS, v_neS, Nat.reduceAdd, Nat.reduceLeDiff, Nat.reduceEqDiff, Int.reduceLT, Int.reduceLE, Int.reduceEq, Int.reduceAdd, Int.reduceSub, Int.reduceMul, Int.reduceNeg, decide_true, decide_false, Bool.not_true, Bool.not_false, Option.some.injEq, ite_true, ite_false, setA]
      rw [if_neg (fun h => h2 h.2), List.append_nil]
  · simp only [e_seq, kSeq_nx, kSeq_rt, e_next, e_if, kIf_t, kIf_f, e_ret, kRet_ok, e_drop, kDrop_ok, e_set, kSet_ok, e_asg, kAsg_ok, kAsg2_ok, e_par, kPar_ok, e_var, kVar_ok, e_c, e_okM, e_2, k2_ok, k2b_ok, e_1, k1_ok, e_b, kB_ok, e_ifE, kIfE_t, kIfE_f, e_and, kAnd_t, kAnd_f, e_or, kOr_t, kOr_f, e_not, kNot_ok, e_nil, e_cons, kA_ok, kA2_ok, e_tup, kTup_ok, e_lst, kLst_ok, e_mkF, e_mkT, e_call, kCall_ok, e_cb, kCB_ok, e_mt, kMt_ok, kMt2_ok, e_tyS, e_pNo, e_pSo, kSo_ok, e_sl, kSl_ok, kSl2_ok, kSl3_ok, e_it, kIt_tup, kIt_lst, kIt_wlst, kIt_str, e_for, kFor_ok, e_lc, kLc_ok, kLc2_ok, e_tget, kTG_ok, kTG2_ok, e_pat, e_tgN, e_tgNil, e_yes, e_endN, e_endR, e_gsub, kSub_ok, kSub2_ok, kSub3_ok, e_tr, kTr_bl, e_lcW, e_forW, List.getElem?_cons_zero, List.getElem?_cons_succ, List.set_cons_zero, List.set_cons_succ, List.length_cons, List.length_nil, if_pos, v_addI, v_sub, v_lt, v_le, v_gt, v_ge, v_eqI, v_neI, v_eqS, v_neS, Nat.reduceAdd, Nat.reduceLeDiff, Nat.reduceEqDiff, Int.reduceLT, Int.reduceLE, Int.reduceEq, Int.reduceAdd, Int.reduceSub, Int.reduceMul, Int.reduceNeg, decide_true, decide_false, Bool.not_true, Bool.not_false, Option.some.injEq, ite_true, ite_false, setA, decide_eq_false h1]
    rw [if_neg (fun h => h1 h.1), List.append_nil]
theorem plc_loop {x : Str} {n : Nat} (hn : n = S.length) : ∀ (r : List Nat) (i : Nat) (d : Int) (xs : List D) (e3 e4 e5 : Option D), xs.length + 2 * r.length ≤ 16000000 → ∃ d' e3' e4' e5',
    fForL (gPat [3, 4] (tgTup 2 (tgCons (tgN) (tgCons (tgN) (tgNil)))))
    (fSeq (fAug 2 (oI0 fun i j => i + j) (gTGet tb_DEEPER (gVar 4) (gC (.int 0))))
    (fFor (gIt (gTup (aCons (gC (.str "and")) (aCons (gC (.str "or")) (aNil))))) (gPat [5] (tgN))
    (fIf (gAndT (gB (g2 (oEq) (gVar 2) (gC (.int 0)))) (gB (g2 (oEq) (gSl false (gVar 0) (pSo (gVar 3)) (pSo (g2 (oAdd false) (g2 (oAdd false) (gVar 3) (gCB oLen (aCons (gVar 5) (aNil)))) (gC (.int 2))))) (g2 (oAdd false) (g2 (oAdd false) (gC (.str " ")) (gVar 5)) (gC (.str " "))))))
    (fDrop (gMt .list (oAppend) (gVar 1) (aCons (gTup (aCons (gVar 3) (aCons (gVar 5) (aNil)))) (aNil))))
    (fNext)))) (enumD i (r.map fun c => D.str ⟨#[c]⟩)) [some (.str x), some (.box n), some (.int d), e3, e4, e5] (S ++ [.lst xs]) =
    some (.nx [some (.str x), some (.box n), some (.int d'), e3', e4', e5'], S ++ [.lst (xs ++ (plc x d i r).map encP)])
  | [], i, d, xs, e3, e4, e5, _ => ⟨d, e3, e4, e5, by simp [enumD, plc]⟩
  | c :: r, i, d, xs, e3, e4, e5, h => by
    rw [List.length_cons] at h
    have w1 := plc_word (S := S) (x := x) (w := "and") (acc := "") (xs := xs) (n := n) (i := i) (d := d + dl c) (e4 := some (.str ⟨#[c]⟩)) hn (by omega) (by decide)
    have hl : (xs ++ if d + dl c = 0 ∧ hit x i "and" = true then [encP (i, "and")] else []).length ≤ xs.length + 1 := by
      rw [List.length_append]; exact Nat.add_le_add_left (if1 _ _) _
    have w2 := plc_word (S := S) (x := x) (w := "or") (acc := "") (xs := xs ++ if d + dl c = 0 ∧ hit x i "and" = true then [encP (i, "and")] else []) (n := n) (i := i) (d := d + dl c) (e4 := some (.str ⟨#[c]⟩)) hn (by omega) (by decide)
    have hl2 : ((xs ++ if d + dl c = 0 ∧ hit x i "and" = true then [encP (i, "and")] else []) ++ if d + dl c = 0 ∧ hit x i "or" = true then [encP (i, "or")] else []).length ≤ xs.length + 2 := by
      rw [List.length_append]; exact Nat.le_trans (Nat.add_le_add hl (if1 _ _)) (by omega)
    obtain ⟨d', e3', e4', e5', h3⟩ := plc_loop hn r (i + 1) (d + dl c) ((xs ++ if d + dl c = 0 ∧ hit x i "and" = true then [encP (i, "and")] else []) ++ if d + dl c = 0 ∧ hit x i "or" = true then [encP (i, "or")] else []) (some (.int (i : Nat))) (some (.str ⟨#[c]⟩)) (some (.str "or")) (by omega)
    refine ⟨d', e3', e4', e5', ?_⟩
    have ht : gPat [3, 4] (tgTup 2 (tgCons (tgN) (tgCons (tgN) (tgNil)))) (.tup [.int (i : Nat), .str ⟨#[c]⟩]) [some (.str x), some (.box n), some (.int d), e3, e4, e5] (S ++ [.lst xs]) = some (.ok [some (.str x), some (.box n), some (.int d), some (.int (i : Nat)), some (.str ⟨#[c]⟩), e5], S ++ [.lst xs]) := rfl
    rw [List.map_cons, enumD, e_forL, ht, kForT_ok, e_seq, e_aug]
    simp only [e_tget, e_var, List.getElem?_cons_zero, List.getElem?_cons_succ, kVar_ok, kTG_ok, e_c, kTG2_ok]
    rw [kAug_i, kSeq_nx]
    simp only [List.set_cons_zero, List.set_cons_succ, e_for, e_it, e_tup, e_cons, e_c, kA_ok, e_nil, kA2_ok, kTup_ok, List.length_cons, List.length_nil, Nat.reduceAdd, Nat.reduceLeDiff, if_pos, kIt_tup, kFor_ok, e_forW, e_forL, e_pat, e_tgN, setA, kForT_ok]
    have e1 : d + (tb_DEEPER.lookup ⟨#[c]⟩).getD 0 = d + dl c := rfl
    rw [e1, w1, kLoop_nx]
    simp only [e_forL, e_pat, e_tgN, setA, List.set_cons_zero, List.set_cons_succ, kForT_ok]
    rw [w2, kLoop_nx, e_forL0, kLoop_nx, h3]
    have e2 : ∀ (p q : List D), xs ++ p ++ q ++ (plc x (d + dl c) (i + 1) r).map encP = xs ++ (p ++ (q ++ (plc x (d + dl c) (i + 1) r).map encP)) := by simp
    rw [e2]
    conv => rhs; rw [plc]
    rw [List.map_append, List.map_append]
    congr 7
    · split <;> rfl
    · congr 1
      split <;> rfl
theorem undP_all (k : Nat) : ∀ l : List (Nat × Str), undL k (l.map encP) = true
  | [] => rfl
  | p :: r => by
    show (undD k (encP p) && undL k (r.map encP)) = true
    rw [undP_all k r]
    rfl
theorem places_ok {x : Str} (hx : x.length ≤ 1000000) : m_places_between [.str x] S = some (.ok (.lst ((plc x 0 0 (TL.tl x)).map encP)), S) := by
  unfold m_places_between b_places_between
  obtain ⟨d', e3, e4, e5, h⟩ := plc_loop (S := S) (x := x) (n := S.length) rfl (TL.tl x) 0 0 [] none none none (by rw [← TL.len_tl]; simp; omega)
  refine pureS_eq (J := [.dead]) ?_ ?_
  · rw [e_sem1, show startD 6 [D.str x] = [some (.str x), none, none, none, none, none] from rfl, e_seq]
    simp only [e_seq, kSeq_nx, kSeq_rt, e_next, e_if, kIf_t, kIf_f, e_ret, kRet_ok, e_drop, kDrop_ok, e_set, kSet_ok, e_asg, kAsg_ok, kAsg2_ok, e_par, kPar_ok, e_var, kVar_ok, e_c, e_okM, e_2, k2_ok, k2b_ok, e_1, k1_ok, e_b, kB_ok, e_ifE, kIfE_t, kIfE_f, e_and, kAnd_t, kAnd_f, e_or, kOr_t, kOr_f, e_not, kNot_ok, e_nil, e_cons, kA_ok, kA2_ok, e_tup, kTup_ok, e_lst, kLst_ok, e_mkF, e_mkT, e_call, kCall_ok, e_cb, kCB_ok, e_mt, kMt_ok, kMt2_ok, e_tyS, e_pNo, e_pSo, kSo_ok, e_sl, kSl_ok, kSl2_ok, kSl3_ok, e_it, kIt_tup, kIt_lst, kIt_wlst, kIt_str, e_for, kFor_ok, e_lc, kLc_ok, kLc2_ok, e_tget, kTG_ok, kTG2_ok, e_pat, e_tgN, e_tgNil, e_yes, e_endN, e_endR, e_gsub, kSub_ok, kSub2_ok, kSub3_ok, e_tr, kTr_bl, e_lcW, e_forW, List.getElem?_cons_zero, List.getElem?_cons_succ, List.set_cons_zero, List.set_cons_succ, List.length_cons, List.length_nil, if_pos, v_addI, v_sub, v_lt, v_le, v_gt, v_ge, v_eqI, v_neI, v_eqS, v_neS, Nat.reduceAdd, Nat.reduceLeDiff, Nat.reduceEqDiff, Int.reduceLT, Int.reduceLE, Int.reduceEq, Int.reduceAdd, Int.reduceSub, Int.reduceMul, Int.reduceNeg, decide_true, decide_false, Bool.not_true, Bool.not_false, Option.some.injEq, ite_true, ite_false, setA, e_mkT, e_enum, kEnum_s, e_forE]
    have e : strWk x = (TL.tl x).map fun c => D.str ⟨#[c]⟩ := rfl
    rw [e, h]
    simp only [e_seq, kSeq_nx, kSeq_rt, e_next, e_if, kIf_t, kIf_f, e_ret, kRet_ok, e_drop, kDrop_ok, e_set, kSet_ok, e_asg, kAsg_ok, kAsg2_ok, e_par, kPar_ok, e_var, kVar_ok, e_c, e_okM, e_2, k2_ok, k2b_ok, e_1, k1_ok, e_b, kB_ok, e_ifE, kIfE_t, kIfE_f, e_and, kAnd_t, kAnd_f, e_or, kOr_t, kOr_f, e_not, kNot_ok, e_nil, e_cons, kA_ok, kA2_ok, e_tup, kTup_ok, e_lst, kLst_ok, e_mkF, e_mkT, e_call, kCall_ok, e_cb, kCB_ok, e_mt, kMt_ok, kMt2_ok, e_tyS, e_pNo, e_pSo, kSo_ok, e_sl, kSl_ok, kSl2_ok, kSl3_ok, e_it, kIt_tup, kIt_lst, kIt_wlst, kIt_str, e_for, kFor_ok, e_lc, kLc_ok, kLc2_ok, e_tget, kTG_ok, kTG2_ok, e_pat, e_tgN, e_tgNil, e_yes, e_endN, e_endR, e_gsub, kSub_ok, kSub2_ok, kSub3_ok, e_tr, kTr_bl, e_lcW, e_forW, List.getElem?_cons_zero, List.getElem?_cons_succ, List.set_cons_zero, List.set_cons_succ, List.length_cons, List.length_nil, if_pos, v_addI, v_sub, v_lt, v_le, v_gt, v_ge, v_eqI, v_neI, v_eqS, v_neS, Nat.reduceAdd, Nat.reduceLeDiff, Nat.reduceEqDiff, Int.reduceLT, Int.reduceLE, Int.reduceEq, Int.reduceAdd, Int.reduceSub, Int.reduceMul, Int.reduceNeg, decide_true, decide_false, Bool.not_true, Bool.not_false, Option.some.injEq, ite_true, ite_false, setA, e_frz, kFrz_ok, frz_end rfl]
    simp
  · show undD S.length (.lst _) = true
    show undL S.length _ = true
    exact undP_all _ _
end
end Cs
set_option linter.all false
set_option maxRecDepth 100000
set_option maxHeartbeats 1000000
namespace Cs
open PySem L2 Dm
section
variable {S : Store}
/-! ### sentence_in -/
def sIn : Nat → Str → Nat → Option Sn
  | 0, _, _ => none
  | n + 1, x, w => if 2 < w then none
    else if cutS x none (some 4) = "not " then (sIn n (cutS x (some 4) none) (w + 1)).map .no
    else if cutS x none (some 1) = "(" ∧ cutS x (some (-1)) none = ")" then
      (match plc (cutS x (some 1) (some (-1))) 0 0 (TL.tl (cutS x (some 1) (some (-1)))) with
      | [(i, z)] => (sIn n (cutS (cutS x (some 1) (some (-1))) none (some (i : Nat))) (w + 1)).bind fun a => (sIn n (cutS (cutS x (some 1) (some (-1))) (some ((i : Int) + (z.length : Int) + 2)) none) (w + 1)).map fun b => .two (decide (z = "and")) a b
      | _ => none)
    else simpleIn x
theorem Real.cut {x : Str} (h : Real x) (l r : Option Int) : Real (cutS x l r) := fun c hc => h c (by
  have : TL.tl (cutS x l r) = ((TL.tl x).drop (HT.sIx x.length 0 l)).take (HT.sIx x.length x.length r - HT.sIx x.length 0 l) := rfl
  rw [this] at hc
  exact List.mem_of_mem_drop (List.mem_of_mem_take hc))
theorem v_cut {x : Str} {l r : Option Int} : oSl false (.str x) l r S = some (.str (cutS x l r), S) := rfl
theorem encO_isN {o : Option Sn} : oIsN (encO o) .non S = some (.bl o.isNone, S) := by
  cases o with
  | none => rfl
  | some s => cases s <;> rfl
theorem enc_isN {s : Sn} : oIsN (enc s) .non S = some (.bl false, S) := by cases s <;> rfl
theorem plc_words {x : Str} : ∀ (r : List Nat) (d : Int) (i : Nat), ∀ p ∈ plc x d i r, p.2 = "and" ∨ p.2 = "or"
  | [], _, _, p, hp => by simp [plc] at hp
  | c :: r, d, i, p, hp => by
    unfold plc at hp
    rcases List.mem_append.mp hp with h | h
    · split at h
      · rw [List.mem_singleton] at h; subst h; exact .inl rfl
      · exact absurd h (List.not_mem_nil)
    · rcases List.mem_append.mp h with h | h
      · split at h
        · rw [List.mem_singleton] at h; subst h; exact .inr rfl
        · exact absurd h (List.not_mem_nil)
      · exact plc_words r _ _ p h
theorem wd_of {z : Str} (h : z = "and" ∨ z = "or") : wd (decide (z = "and")) = z := by
  rcases h with e | e
  · subst e; rfl
  · subst e; rfl
theorem both_ok {F : FnS} {f : Str → Option Sn} {y : Str} {w : Nat} (hy : y.length ≤ 1000000) (hF : ∀ l r, F [.str (cutS y l r), .int ((w + 1 : Nat) : Int)] S = some (.ok (encO (f (cutS y l r))), S)) :
    a_both_in F [.str y, .int (w : Nat)] S = some (.ok (encO (match plc y 0 0 (TL.tl y) with
      | [(i, z)] => (f (cutS y none (some (i : Nat)))).bind fun a => (f (cutS y (some ((i : Int) + (z.length : Int) + 2)) none)).map fun b => .two (decide (z = "and")) a b
      | _ => none)), S) := by
  have hw : ((w : Nat) : Int) + 1 = ((w + 1 : Nat) : Int) := by omega
  have hwords := plc_words (x := y) (TL.tl y) 0 0
  have hp := places_ok (S := S) hy
  unfold a_both_in b_both_in
  rw [e_sem2, show startD 7 [D.str y, D.int (w : Nat)] = [some (.str y), some (.int (w : Nat)), none, none, none, none, none] from rfl, e_seq]
  simp only [e_seq, kSeq_nx, kSeq_rt, e_next, e_if, kIf_t, kIf_f, e_ret, kRet_ok, e_drop, kDrop_ok, e_set, kSet_ok, e_asg, kAsg_ok, kAsg2_ok, e_par, kPar_ok, e_var, kVar_ok, e_c, e_okM, e_2, k2_ok, k2b_ok, e_1, k1_ok, e_b, kB_ok, e_ifE, kIfE_t, kIfE_f, e_and, kAnd_t, kAnd_f, e_or, kOr_t, kOr_f, e_not, kNot_ok, e_nil, e_cons, kA_ok, kA2_ok, e_tup, kTup_ok, e_lst, kLst_ok, e_mkF, e_mkT, e_call, kCall_ok, e_cb, kCB_ok, e_mt, kMt_ok, kMt2_ok, e_tyS, e_pNo, e_pSo, kSo_ok, e_sl, kSl_ok, kSl2_ok, kSl3_ok, e_it, kIt_tup, kIt_lst, kIt_wlst, kIt_str, e_for, kFor_ok, e_lc, kLc_ok, kLc2_ok, e_tget, kTG_ok, kTG2_ok, e_pat, e_tgN, e_tgNil, e_yes, e_endN, e_endR, e_gsub, kSub_ok, kSub2_ok, kSub3_ok, e_tr, kTr_bl, e_lcW, e_forW, List.getElem?_cons_zero, List.getElem?_cons_succ, List.set_cons_zero, List.set_cons_succ, List.length_cons, List.length_nil, if_pos, v_addI, v_sub, v_lt, v_le, v_gt, v_ge, v_eqI, v_neI, v_eqS, v_neS, Nat.reduceAdd, Nat.reduceLeDiff, Nat.reduceEqDiff, Int.reduceLT, Int.reduceLE, Int.reduceEq, Int.reduceAdd, Int.reduceSub, Int.reduceMul, Int.reduceNeg, decide_true, decide_false, Bool.not_true, Bool.not_false, Option.some.injEq, ite_true, ite_false, setA, hp, v_lenL, List.length_map]
  generalize plc y 0 0 (TL.tl y) = l at hwords
  match l with
  | [] => rfl
  | p :: q :: r =>
    rw [decide_eq_false (show ¬ (((p :: q :: r).length : Nat) : Int) = 1 by simp; omega)]
    rfl
  | [(i, z)] =>
    have hz := wd_of (hwords (i, z) (by simp))
    have ht : gPat [5, 6] (tgTup 2 (tgCons (tgN) (tgCons (tgN) (tgNil)))) (.tup [.int (i : Nat), .str z]) [some (.str y), some (.int (w : Nat)), some (.lst [encP (i, z)]), none, none, none, none] S = some (.ok [some (.str y), some (.int (w : Nat)), some (.lst [encP (i, z)]), none, none, some (.int (i : Nat)), some (.str z)], S) := rfl
    rw [decide_eq_true (show (([(i, z)].length : Nat) : Int) = 1 from rfl)]
    simp only [List.map_cons, List.map_nil] at ht ⊢
    simp only [e_seq, Bool.not_true, kIf_f, e_next, kSeq_nx, e_asg, e_2, e_var, List.getElem?_cons_zero, List.getElem?_cons_succ, kVar_ok, k2_ok, e_c, k2b_ok, v_ixL0, e_okM, kAsg_ok]
    rw [show encP (i, z) = .tup [.int (i : Nat), .str z] from rfl] at ht ⊢
    rw [ht, kAsg2_ok]
    simp only [e_seq, kSeq_nx, kSeq_rt, e_next, e_if, kIf_t, kIf_f, e_ret, kRet_ok, e_drop, kDrop_ok, e_set, kSet_ok, e_asg, kAsg_ok, kAsg2_ok, e_par, kPar_ok, e_var, kVar_ok, e_c, e_okM, e_2, k2_ok, k2b_ok, e_1, k1_ok, e_b, kB_ok, e_ifE, kIfE_t, kIfE_f, e_and, kAnd_t, kAnd_f, e_or, kOr_t, kOr_f, e_not, kNot_ok, e_nil, e_cons, kA_ok, kA2_ok, e_tup, kTup_ok, e_lst, kLst_ok, e_mkF, e_mkT, e_call, kCall_ok, e_cb, kCB_ok, e_mt, kMt_ok, kMt2_ok, e_tyS, e_pNo, e_pSo, kSo_ok, e_sl, kSl_ok, kSl2_ok, kSl3_ok, e_it, kIt_tup, kIt_lst, kIt_wlst, kIt_str, e_for, kFor_ok, e_lc, kLc_ok, kLc2_ok, e_tget, kTG_ok, kTG2_ok, e_pat, e_tgN, e_tgNil, e_yes, e_endN, e_endR, e_gsub, kSub_ok, kSub2_ok, kSub3_ok, e_tr, kTr_bl, e_lcW, e_forW, List.getElem?_cons_zero, List.getElem?_cons_succ, List.set_cons_zero, List.set_cons_succ, List.length_cons, List.length_nil, if_pos, v_addI, v_sub, v_lt, v_le, v_gt, v_ge, v_eqI, v_neI, v_eqS, v_neS, Nat.reduceAdd, Nat.reduceLeDiff, Nat.reduceEqDiff, Int.reduceLT, Int.reduceLE, Int.reduceEq, Int.reduceAdd, Int.reduceSub, Int.reduceMul, Int.reduceNeg, decide_true, decide_false, Bool.not_true, Bool.not_false, Option.some.injEq, ite_true, ite_false, setA, v_cut, hw, hF, v_lenS, encO_isN]
    cases f (cutS y none (some (i : Nat))) with
    | none => rfl
    | some a =>
      cases f (cutS y (some ((i : Int) + (z.length : Int) + 2)) none) with
      | none => rfl
      | some b =>
        show _ = some (Rs.ok (D.tup [.str (wd (decide (z = "and"))), enc a, enc b]), S)
        rw [hz]
        simp only [Option.isNone_some, e_seq, kSeq_nx, kSeq_rt, e_next, e_if, kIf_t, kIf_f, e_ret, kRet_ok, e_drop, kDrop_ok, e_set, kSet_ok, e_asg, kAsg_ok, kAsg2_ok, e_par, kPar_ok, e_var, kVar_ok, e_c, e_okM, e_2, k2_ok, k2b_ok, e_1, k1_ok, e_b, kB_ok, e_ifE, kIfE_t, kIfE_f, e_and, kAnd_t, kAnd_f, e_or, kOr_t, kOr_f, e_not, kNot_ok, e_nil, e_cons, kA_ok, kA2_ok, e_tup, kTup_ok, e_lst, kLst_ok, e_mkF, e_mkT, e_call, kCall_ok, e_cb, kCB_ok, e_mt, kMt_ok, kMt2_ok, e_tyS, e_pNo, e_pSo, kSo_ok, e_sl, kSl_ok, kSl2_ok, kSl3_ok, e_it, kIt_tup, kIt_lst, kIt_wlst, kIt_str, e_for, kFor_ok, e_lc, kLc_ok, kLc2_ok, e_tget, kTG_ok, kTG2_ok, e_pat, e_tgN, e_tgNil, e_yes, e_endN, e_endR, e_gsub, kSub_ok, kSub2_ok, kSub3_ok, e_tr, kTr_bl, e_lcW, e_forW, List.getElem?_cons_zero, List.getElem?_cons_succ, List.set_cons_zero, List.set_cons_succ, List.length_cons, List.length_nil, if_pos, v_addI, v_sub, v_lt, v_le, v_gt, v_ge, v_eqI, v_neI, v_eqS, v_neS, Nat.reduceAdd, Nat.reduceLeDiff, Nat.reduceEqDiff, Int.reduceLT, Int.reduceLE, Int.reduceEq, Int.reduceAdd, Int.reduceSub, Int.reduceMul, Int.reduceNeg, decide_true, decide_false, Bool.not_true, Bool.not_false, Option.some.injEq, ite_true, ite_false, setA, encO, enc_isN]
theorem sentence_in_ok : ∀ (n : Nat) (x : Str) (w : Nat), Real x → x.length ≤ 1000000 → w ≤ 3 → 4 ≤ w + n → m_sentence_in n [.str x, .int (w : Nat)] S = some (.ok (encO (sIn n x w)), S) := by
  intro n
  induction n with
  | zero => intro x w _ _ _ _; omega
  | succ n ih =>
    intro x w hx hl hw hn
    have hw1 : ((w : Nat) : Int) + 1 = ((w + 1 : Nat) : Int) := by omega
    show semD 2 3 (b_sentence_in (m_sentence_in n)) [.str x, .int (w : Nat)] S = _
    have hs := simpleIn_ok (S := S) hx (by omega)
    unfold b_sentence_in
    rw [e_sem2, show startD 3 [D.str x, D.int (w : Nat)] = [some (.str x), some (.int (w : Nat)), none] from rfl, e_seq]
    simp only [e_seq, kSeq_nx, kSeq_rt, e_next, e_if, kIf_t, kIf_f, e_ret, kRet_ok, e_drop, kDrop_ok, e_set, kSet_ok, e_asg, kAsg_ok, kAsg2_ok, e_par, kPar_ok, e_var, kVar_ok, e_c, e_okM, e_2, k2_ok, k2b_ok, e_1, k1_ok, e_b, kB_ok, e_ifE, kIfE_t, kIfE_f, e_and, kAnd_t, kAnd_f, e_or, kOr_t, kOr_f, e_not, kNot_ok, e_nil, e_cons, kA_ok, kA2_ok, e_tup, kTup_ok, e_lst, kLst_ok, e_mkF, e_mkT, e_call, kCall_ok, e_cb, kCB_ok, e_mt, kMt_ok, kMt2_ok, e_tyS, e_pNo, e_pSo, kSo_ok, e_sl, kSl_ok, kSl2_ok, kSl3_ok, e_it, kIt_tup, kIt_lst, kIt_wlst, kIt_str, e_for, kFor_ok, e_lc, kLc_ok, kLc2_ok, e_tget, kTG_ok, kTG2_ok, e_pat, e_tgN, e_tgNil, e_yes, e_endN, e_endR, e_gsub, kSub_ok, kSub2_ok, kSub3_ok, e_tr, kTr_bl, e_lcW, e_forW, List.getElem?_cons_zero, List.getElem?_cons_succ, List.set_cons_zero, List.set_cons_succ, List.length_cons, List.length_nil, if_pos, v_addI, v_sub, v_lt, v_le, v_gt, v_ge, v_eqI, v_neI, v_eqS, v_neS, Nat.reduceAdd, Nat.reduceLeDiff, Nat.reduceEqDiff, Int.reduceLT, Int.reduceLE, Int.reduceEq, Int.reduceAdd, Int.reduceSub, Int.reduceMul, Int.reduceNeg, decide_true, decide_false, Bool.not_true, Bool.not_false, Option.some.injEq, ite_true, ite_false, setA]
    by_cases h1 : 2 < w
    · rw [decide_eq_true (show (2 : Int) < (w : Nat) by omega), kIf_t, e_ret, e_c, kRet_ok, kSeq_rt, e_endR]
      unfold sIn
      rw [if_pos h1]
      rfl
    · have e1 : sIn (n + 1) x w = if cutS x none (some 4) = "not " then (sIn n (cutS x (some 4) none) (w + 1)).map .no
          else if cutS x none (some 1) = "(" ∧ cutS x (some (-1)) none = ")" then
          (match plc (cutS x (some 1) (some (-1))) 0 0 (TL.tl (cutS x (some 1) (some (-1)))) with
          | [(i, z)] => (sIn n (cutS (cutS x (some 1) (some (-1))) none (some (i : Nat))) (w + 1)).bind fun a => (sIn n (cutS (cutS x (some 1) (some (-1))) (some ((i : Int) + (z.length : Int) + 2)) none) (w + 1)).map fun b => .two (decide (z = "and")) a b
          | _ => none) else simpleIn x := by
        rw [sIn, if_neg h1]
      have hF : ∀ l r, m_sentence_in n [.str (cutS x l r), .int ((w + 1 : Nat) : Int)] S = some (.ok (encO (sIn n (cutS x l r) (w + 1))), S) := fun l r => ih _ _ (hx.cut l r) (Nat.le_trans (L2.cutS_length x l r) hl) (by omega) (by omega)
      rw [decide_eq_false (show ¬ (2 : Int) < (w : Nat) by omega), e1]
      simp only [e_seq, kSeq_nx, kSeq_rt, e_next, e_if, kIf_t, kIf_f, e_ret, kRet_ok, e_drop, kDrop_ok, e_set, kSet_ok, e_asg, kAsg_ok, kAsg2_ok, e_par, kPar_ok, e_var, kVar_ok, e_c, e_okM, e_2, k2_ok, k2b_ok, e_1, k1_ok, e_b, kB_ok, e_ifE, kIfE_t, kIfE_f, e_and, kAnd_t, kAnd_f, e_or, kOr_t, kOr_f, e_not, kNot_ok, e_nil, e_cons, kA_ok, kA2_ok, e_tup, kTup_ok, e_lst, kLst_ok, e_mkF, e_mkT, e_call, kCall_ok, e_cb, kCB_ok, e_mt, kMt_ok, kMt2_ok, e_tyS, e_pNo, e_pSo, kSo_ok, e_sl, kSl_ok, kSl2_ok, kSl3_ok, e_it, kIt_tup, kIt_lst, kIt_wlst, kIt_str, e_for, kFor_ok, e_lc, kLc_ok, kLc2_ok, e_tget, kTG_ok, kTG2_ok, e_pat, e_tgN, e_tgNil, e_yes, e_endN, e_endR, e_gsub, kSub_ok, kSub2_ok, kSub3_ok, e_tr, kTr_bl, e_lcW, e_forW, List.getElem?_cons_zero, List.getElem?_cons_succ, List.set_cons_zero, List.set_cons_succ, List.length_cons, List.length_nil, if_pos, v_addI, v_sub, v_lt, v_le, v_gt, v_ge, v_eqI, v_neI, v_eqS, v_neS, Nat.reduceAdd, Nat.reduceLeDiff, Nat.reduceEqDiff, Int.reduceLT, Int.reduceLE, Int.reduceEq, Int.reduceAdd, Int.reduceSub, Int.reduceMul, Int.reduceNeg, decide_true, decide_false, Bool.not_true, Bool.not_false, Option.some.injEq, ite_true, ite_false, setA, v_cut]
      by_cases h2 : cutS x none (some 4) = "not "
      · rw [decide_eq_true h2, if_pos h2]
        simp only [e_seq, kSeq_nx, kSeq_rt, e_next, e_if, kIf_t, kIf_f, e_ret, kRet_ok, e_drop, kDrop_ok, e_set, kSet_ok, e_asg, kAsg_ok, kAsg2_ok, e_par, kPar_ok, e_var, kVar_ok, e_c, e_okM, e_2, k2_ok, k2b_ok, e_1, k1_ok, e_b, kB_ok, e_ifE, kIfE_t, kIfE_f, e_and, kAnd_t, kAnd_f, e_or, kOr_t, kOr_f, e_not, kNot_ok, e_nil, e_cons, kA_ok, kA2_ok, e_tup, kTup_ok, e_lst, kLst_ok, e_mkF, e_mkT, e_call, kCall_ok, e_cb, kCB_ok, e_mt, kMt_ok, kMt2_ok, e_tyS, e_pNo, e_pSo, kSo_ok, e_sl, kSl_ok, kSl2_ok, kSl3_ok, e_it, kIt_tup, kIt_lst, kIt_wlst, kIt_str, e_for, kFor_ok, e_lc, kLc_ok, kLc2_ok, e_tget, kTG_ok, kTG2_ok, e_pat, e_tgN, e_tgNil, e_yes, e_endN, e_endR, e_gsub, kSub_ok, kSub2_ok, kSub3_ok, e_tr, kTr_bl, e_lcW, e_forW, List.getElem?_cons_zero, List.getElem?_cons_succ, List.set_cons_zero, List.set_cons_succ, List.length_cons, List.length_nil, if_pos, v_addI, v_sub, v_lt, v_le, v_gt, v_ge, v_eqI, v_neI, v_eqS, v_neS, Nat.reduceAdd, Nat.reduceLeDiff, Nat.reduceEqDiff, Int.reduceLT, Int.reduceLE, Int.reduceEq, Int.reduceAdd, Int.reduceSub, Int.reduceMul, Int.reduceNeg, decide_true, decide_false, Bool.not_true, Bool.not_false, Option.some.injEq, ite_true, ite_false, setA, v_cut, hw1, hF, encO_isN]
        cases sIn n (cutS x (some 4) none) (w + 1) with
        | none => rfl
        | some a => simp only [Option.isNone_some, e_seq, kSeq_nx, kSeq_rt, e_next, e_if, kIf_t, kIf_f, e_ret, kRet_ok, e_drop, kDrop_ok, e_set, kSet_ok, e_asg, kAsg_ok, kAsg2_ok, e_par, kPar_ok, e_var, kVar_ok, e_c, e_okM, e_2, k2_ok, k2b_ok, e_1, k1_ok, e_b, kB_ok, e_ifE, kIfE_t, kIfE_f, e_and, kAnd_t, kAnd_f, e_or, kOr_t, kOr_f, e_not, kNot_ok, e_nil, e_cons, kA_ok, kA2_ok, e_tup, kTup_ok, e_lst, kLst_ok, e_mkF, e_mkT, e_call, kCall_ok, e_cb, kCB_ok, e_mt, kMt_ok, kMt2_ok, e_tyS, e_pNo, e_pSo, kSo_ok, e_sl, kSl_ok, kSl2_ok, kSl3_ok, e_it, kIt_tup, kIt_lst, kIt_wlst, kIt_str, e_for, kFor_ok, e_lc, kLc_ok, kLc2_ok, e_tget, kTG_ok, kTG2_ok, e_pat, e_tgN, e_tgNil, e_yes, e_endN, e_endR, e_gsub, kSub_ok, kSub2_ok, kSub3_ok, e_tr, kTr_bl, e_lcW, e_forW, List.getElem?_cons_zero, List.getElem?_cons_succ, List.set_cons_zero, List.set_cons_succ, List.length_cons, List.length_nil, if_pos, v_addI, v_sub, v_lt, v_le, v_gt, v_ge, v_eqI, v_neI, v_eqS, v_neS, Nat.reduceAdd, Nat.reduceLeDiff, Nat.reduceEqDiff, Int.reduceLT, Int.reduceLE, Int.reduceEq, Int.reduceAdd, Int.reduceSub, Int.reduceMul, Int.reduceNeg, decide_true, decide_false, Bool.not_true, Bool.not_false, Option.some.injEq, ite_true, ite_false, setA, encO]; rfl
      · rw [decide_eq_false h2, if_neg h2]
        simp only [e_seq, kSeq_nx, kSeq_rt, e_next, e_if, kIf_t, kIf_f, e_ret, kRet_ok, e_drop, kDrop_ok, e_set, kSet_ok, e_asg, kAsg_ok, kAsg2_ok, e_par, kPar_ok, e_var, kVar_ok, e_c, e_okM, e_2, k2_ok, k2b_ok, e_1, k1_ok, e_b, kB_ok, e_ifE, kIfE_t, kIfE_f, e_and, kAnd_t, kAnd_f, e_or, kOr_t, kOr_f, e_not, kNot_ok, e_nil, e_cons, kA_ok, kA2_ok, e_tup, kTup_ok, e_lst, kLst_ok, e_mkF, e_mkT, e_call, kCall_ok, e_cb, kCB_ok, e_mt, kMt_ok, kMt2_ok, e_tyS, e_pNo, e_pSo, kSo_ok, e_sl, kSl_ok, kSl2_ok, kSl3_ok, e_it, kIt_tup, kIt_lst, kIt_wlst, kIt_str, e_for, kFor_ok, e_lc, kLc_ok, kLc2_ok, e_tget, kTG_ok, kTG2_ok, e_pat, e_tgN, e_tgNil, e_yes, e_endN, e_endR, e_gsub, kSub_ok, kSub2_ok, kSub3_ok, e_tr, kTr_bl, e_lcW, e_forW, List.getElem?_cons_zero, List.getElem?_cons_succ, List.set_cons_zero, List.set_cons_succ, List.length_cons, List.length_nil, if_pos, v_addI, v_sub, v_lt, v_le, v_gt, v_ge, v_eqI, v_neI, v_eqS, v_neS, Nat.reduceAdd, Nat.reduceLeDiff, Nat.reduceEqDiff, Int.reduceLT, Int.reduceLE, Int.reduceEq, Int.reduceAdd, Int.reduceSub, Int.reduceMul, Int.reduceNeg, decide_true, decide_false, Bool.not_true, Bool.not_false, Option.some.injEq, ite_true, ite_false, setA, v_cut, v_neg]
        by_cases h3 : cutS x none (some 1) = "("
        · rw [decide_eq_true h3]
          simp only [e_seq, kSeq_nx, kSeq_rt, e_next, e_if, kIf_t, kIf_f, e_ret, kRet_ok, e_drop, kDrop_ok, e_set, kSet_ok, e_asg, kAsg_ok, kAsg2_ok, e_par, kPar_ok, e_var, kVar_ok, e_c, e_okM, e_2, k2_ok, k2b_ok, e_1, k1_ok, e_b, kB_ok, e_ifE, kIfE_t, kIfE_f, e_and, kAnd_t, kAnd_f, e_or, kOr_t, kOr_f, e_not, kNot_ok, e_nil, e_cons, kA_ok, kA2_ok, e_tup, kTup_ok, e_lst, kLst_ok, e_mkF, e_mkT, e_call, kCall_ok, e_cb, kCB_ok, e_mt, kMt_ok, kMt2_ok, e_tyS, e_pNo, e_pSo, kSo_ok, e_sl, kSl_ok, kSl2_ok, kSl3_ok, e_it, kIt_tup, kIt_lst, kIt_wlst, kIt_str, e_for, kFor_ok, e_lc, kLc_ok, kLc2_ok, e_tget, kTG_ok, kTG2_ok, e_pat, e_tgN, e_tgNil, e_yes, e_endN, e_endR, e_gsub, kSub_ok, kSub2_ok, kSub3_ok, e_tr, kTr_bl, e_lcW, e_forW, List.getElem?_cons_zero, List.getElem?_cons_succ, List.set_cons_zero, List.set_cons_succ, List.length_cons, List.length_nil, if_pos, v_addI, v_sub, v_lt, v_le, v_gt, v_ge, v_eqI, v_neI, v_eqS, v_neS, Nat.reduceAdd, Nat.reduceLeDiff, Nat.reduceEqDiff, Int.reduceLT, Int.reduceLE, Int.reduceEq, Int.reduceAdd, Int.reduceSub, Int.reduceMul, Int.reduceNeg, decide_true, decide_false, Bool.not_true, Bool.not_false, Option.some.injEq, ite_true, ite_false, setA, v_cut, v_neg]
          by_cases h4 : cutS x (some (-1)) none = ")"
          · rw [decide_eq_true h4, if_pos ⟨h3, h4⟩]
            have hy : (cutS x (some 1) (some (-1))).length ≤ 1000000 := Nat.le_trans (L2.cutS_length ..) hl
            have hb := both_ok (S := S) (F := m_sentence_in n) (f := fun z => sIn n z (w + 1)) (y := cutS x (some 1) (some (-1))) (w := w) hy (fun l r => ih _ _ ((hx.cut _ _).cut l r) (Nat.le_trans (L2.cutS_length ..) hy) (by omega) (by omega))
            simp only [e_seq, kSeq_nx, kSeq_rt, e_next, e_if, kIf_t, kIf_f, e_ret, kRet_ok, e_drop, kDrop_ok, e_set, kSet_ok, e_asg, kAsg_ok, kAsg2_ok, e_par, kPar_ok, e_var, kVar_ok, e_c, e_okM, e_2, k2_ok, k2b_ok, e_1, k1_ok, e_b, kB_ok, e_ifE, kIfE_t, kIfE_f, e_and, kAnd_t, kAnd_f, e_or, kOr_t, kOr_f, e_not, kNot_ok, e_nil, e_cons, kA_ok, kA2_ok, e_tup, kTup_ok, e_lst, kLst_ok, e_mkF, e_mkT, e_call, kCall_ok, e_cb, kCB_ok, e_mt, kMt_ok, kMt2_ok, e_tyS, e_pNo, e_pSo, kSo_ok, e_sl, kSl_ok, kSl2_ok, kSl3_ok, e_it, kIt_tup, kIt_lst, kIt_wlst, kIt_str, e_for, kFor_ok, e_lc, kLc_ok, kLc2_ok, e_tget, kTG_ok, kTG2_ok, e_pat, e_tgN, e_tgNil, e_yes, e_endN, e_endR, e_gsub, kSub_ok, kSub2_ok, kSub3_ok, e_tr, kTr_bl, e_lcW, e_forW, List.getElem?_cons_zero, List.getElem?_cons_succ, List.set_cons_zero, List.set_cons_succ, List.length_cons, List.length_nil, if_pos, v_addI, v_sub, v_lt, v_le, v_gt, v_ge, v_eqI, v_neI, v_eqS, v_neS, Nat.reduceAdd, Nat.reduceLeDiff, Nat.reduceEqDiff, Int.reduceLT, Int.reduceLE, Int.reduceEq, Int.reduceAdd, Int.reduceSub, Int.reduceMul, Int.reduceNeg, decide_true, decide_false, Bool.not_true, Bool.not_false, Option.some.injEq, ite_true, ite_false, setA, v_cut, v_neg, hb]
          · rw [decide_eq_false h4, if_neg (fun h => h4 h.2)]
            simp only [e_seq, kSeq_nx, kSeq_rt, e_next, e_if, kIf_t, kIf_f, e_ret, kRet_ok, e_drop, kDrop_ok, e_set, kSet_ok, e_asg, kAsg_ok, kAsg2_ok, e_par, kPar_ok, e_var, kVar_ok, e_c, e_okM, e_2, k2_ok, k2b_ok, e_1, k1_ok, e_b, kB_ok, e_ifE, kIfE_t, kIfE_f, e_and, kAnd_t, kAnd_f, e_or, kOr_t, kOr_f, e_not, kNot_ok, e_nil, e_cons, kA_ok, kA2_ok, e_tup, kTup_ok, e_lst, kLst_ok, e_mkF, e_mkT, e_call, kCall_ok, e_cb, kCB_ok, e_mt, kMt_ok, kMt2_ok, e_tyS, e_pNo, e_pSo, kSo_ok, e_sl, kSl_ok, kSl2_ok, kSl3_ok, e_it, kIt_tup, kIt_lst, kIt_wlst, kIt_str, e_for, kFor_ok, e_lc, kLc_ok, kLc2_ok, e_tget, kTG_ok, kTG2_ok, e_pat, e_tgN, e_tgNil, e_yes, e_endN, e_endR, e_gsub, kSub_ok, kSub2_ok, kSub3_ok, e_tr, kTr_bl, e_lcW, e_forW, List.getElem?_cons_zero, List.getElem?_cons_succ, List.set_cons_zero, List.set_cons_succ, List.length_cons, List.length_nil, if_pos, v_addI, v_sub, v_lt, v_le, v_gt, v_ge, v_eqI, v_neI, v_eqS, v_neS, Nat.reduceAdd, Nat.reduceLeDiff, Nat.reduceEqDiff, Int.reduceLT, Int.reduceLE, Int.reduceEq, Int.reduceAdd, Int.reduceSub, Int.reduceMul, Int.reduceNeg, decide_true, decide_false, Bool.not_true, Bool.not_false, Option.some.injEq, ite_true, ite_false, setA, hs]
        · rw [decide_eq_false h3, if_neg (fun h => h3 h.1)]
          simp only [e_seq, kSeq_nx, kSeq_rt, e_next, e_if, kIf_t, kIf_f, e_ret, kRet_ok, e_drop, kDrop_ok, e_set, kSet_ok, e_asg, kAsg_ok, kAsg2_ok, e_par, kPar_ok, e_var, kVar_ok, e_c, e_okM, e_2, k2_ok, k2b_ok, e_1, k1_ok, e_b, kB_ok, e_ifE, kIfE_t, kIfE_f, e_and, kAnd_t, kAnd_f, e_or, kOr_t, kOr_f, e_not, kNot_ok, e_nil, e_cons, kA_ok, kA2_ok, e_tup, kTup_ok, e_lst, kLst_ok, e_mkF, e_mkT, e_call, kCall_ok, e_cb, kCB_ok, e_mt, kMt_ok, kMt2_ok, e_tyS, e_pNo, e_pSo, kSo_ok, e_sl, kSl_ok, kSl2_ok, kSl3_ok, e_it, kIt_tup, kIt_lst, kIt_wlst, kIt_str, e_for, kFor_ok, e_lc, kLc_ok, kLc2_ok, e_tget, kTG_ok, kTG2_ok, e_pat, e_tgN, e_tgNil, e_yes, e_endN, e_endR, e_gsub, kSub_ok, kSub2_ok, kSub3_ok, e_tr, kTr_bl, e_lcW, e_forW, List.getElem?_cons_zero, List.getElem?_cons_succ, List.set_cons_zero, List.set_cons_succ, List.length_cons, List.length_nil, if_pos, v_addI, v_sub, v_lt, v_le, v_gt, v_ge, v_eqI, v_neI, v_eqS, v_neS, Nat.reduceAdd, Nat.reduceLeDiff, Nat.reduceEqDiff, Int.reduceLT, Int.reduceLE, Int.reduceEq, Int.reduceAdd, Int.reduceSub, Int.reduceMul, Int.reduceNeg, decide_true, decide_false, Bool.not_true, Bool.not_false, Option.some.injEq, ite_true, ite_false, setA, hs]
end
end Cs
set_option linter.all false
set_option maxRecDepth 100000
set_option maxHeartbeats 1000000
namespace Cs
open PySem L2 Dm
/-! ### numbers' signs -/
theorem tl_strI (i : Int) : (∃ n : Nat, i = n ∧ TL.tl (strI i) = TL.numL n) ∨ ∃ n : Nat, i = -((n + 1 : Nat) : Int) ∧ TL.tl (strI i) = 45 :: TL.numL (n + 1) := by
  obtain ⟨n, hn | hn⟩ := Int.eq_nat_or_neg i
  · exact .inl ⟨n, hn, by subst hn; exact TL.tl_num n⟩
  · cases n with
    | zero => exact .inl ⟨0, by simpa using hn, by subst hn; exact TL.tl_num 0⟩
    | succ n =>
      refine .inr ⟨n, hn, ?_⟩
      subst hn
      show TL.tl (Str.ofString (toString (-((n + 1 : Nat) : Int)))) = _
      have e : toString (-((n + 1 : Nat) : Int)) = "-" ++ toString (n + 1) := rfl
      rw [e, TL.tl_ofString, String.toList_append, List.map_append]
      have e2 := TL.tl_num (n + 1)
      have e3 : toString ((n + 1 : Nat) : Int) = toString (n + 1) := rfl
      rw [e3, TL.tl_ofString] at e2
      rw [e2]
      rfl
theorem numL_chars {n c : Nat} (h : c ∈ TL.numL n) : 48 ≤ c ∧ c ≤ 57 := by
  constructor
  · rcases Nat.lt_or_ge c 48 with q | q
    · exact absurd h (TL.numL_free (.inl q))
    · exact q
  · rcases Nat.lt_or_ge 57 c with q | q
    · exact absurd h (TL.numL_free (.inr q))
    · exact q
theorem strI_chars {i : Int} {c : Nat} (h : c ∈ TL.tl (strI i)) : c = 45 ∨ (48 ≤ c ∧ c ≤ 57) := by
  rcases tl_strI i with ⟨n, _, e⟩ | ⟨n, _, e⟩
  · rw [e] at h; exact .inr (numL_chars h)
  · rw [e] at h
    rcases List.mem_cons.mp h with q | q
    · exact .inl q
    · exact .inr (numL_chars q)
theorem strI_ne (i : Int) : TL.tl (strI i) ≠ [] := by
  rcases tl_strI i with ⟨n, _, e⟩ | ⟨n, _, e⟩
  · rw [e]; exact TL.numL_ne n
  · rw [e]; simp
theorem strI_inj {i j : Int} (h : strI i = strI j) : i = j := by
  have h := congrArg TL.tl h
  rcases tl_strI i with ⟨n, e1, e⟩ | ⟨n, e1, e⟩ <;> rcases tl_strI j with ⟨m, f1, f⟩ | ⟨m, f1, f⟩ <;> rw [e, f] at h
  · rw [e1, f1, TL.numL_inj h]
  · have : (45 : Nat) ∈ TL.numL n := by rw [h]; simp
    have := numL_chars this; omega
  · have : (45 : Nat) ∈ TL.numL m := by rw [← h]; simp
    have := numL_chars this; omega
  · have := TL.numL_inj (List.cons.inj h).2
    rw [e1, f1, this]
theorem numIn_strI {i lo hi : Int} (h1 : lo ≤ i) (h2 : i ≤ hi) : numIn (strI i) lo hi = some i := by
  unfold numIn
  cases e : (rngI lo (hi + 1 - lo).toNat).find? (fun j => decide (strI j = strI i)) with
  | none =>
    have := List.find?_eq_none.mp e i (mem_rngI.mpr ⟨h1, by omega⟩)
    simp at this
  | some j =>
    have := List.find?_some e
    rw [strI_inj (of_decide_eq_true this)]
/-! ### nums, and simple sentences, read back -/
theorem join_chars {a : Str} {P : Nat → Prop} (ha : ∀ c ∈ TL.tl a, P c) : ∀ zs : List Str, (∀ z ∈ zs, ∀ c ∈ TL.tl z, P c) → ∀ c ∈ TL.tl (Txt.join a zs), P c := by
  intro zs h
  rw [TL.join_eq, TL.tl_join]
  induction zs with
  | nil => intro c hc; exact absurd hc (List.not_mem_nil)
  | cons z r ih =>
    have hz := h z (List.mem_cons_self ..)
    have hr := ih fun y hy => h y (List.mem_cons_of_mem _ hy)
    cases r with
    | nil => exact hz
    | cons y r =>
      intro c hc
      have hc : c ∈ TL.tl z ++ (TL.tl a ++ TL.joinL (TL.tl a) ((y :: r).map TL.tl)) := hc
      rcases List.mem_append.mp hc with q | q
      · exact hz c q
      · rcases List.mem_append.mp q with q | q
        · exact ha c q
        · exact hr c q
/-- a sign of numbers with commas -/
def NumC (c : Nat) : Prop := c = 44 ∨ c = 45 ∨ (48 ≤ c ∧ c ≤ 57)
theorem nums_chars (ws : List Int) : ∀ c ∈ TL.tl (nums ws), NumC c := by
  refine join_chars (a := ",") (P := NumC) ?_ _ ?_
  · intro c hc
    rw [tl_comma, List.mem_singleton] at hc
    exact .inl hc
  · intro z hz c hc
    obtain ⟨i, _, rfl⟩ := List.mem_map.mp hz
    exact .inr (strI_chars hc)
theorem strI_numC {i : Int} : ∀ c ∈ TL.tl (strI i), NumC c := fun c hc => .inr (strI_chars hc)
theorem numC_32 {c : Nat} (h : NumC c) : c ≠ 32 := by
  rcases h with h | h | h <;> omega
theorem lt256 {y : Str} {s : Nat} (hy : TL.tl y = [s]) (hs : s < 256) : y.cps.all (· < 256) = true := by
  have : y.cps = #[s] := by
    have := congrArg List.toArray hy
    simpa [TL.tl] using this
  rw [this]; simp [hs]
theorem wtsIn_nums {ws : List Int} (h0 : ws ≠ []) (hl : ws.length ≤ 3) (hb : ∀ w ∈ ws, -3 ≤ w ∧ w ≤ 3) : wtsIn (nums ws) = some ws := by
  have e : Txt.split (nums ws) "," = ws.map strI := TL.split_join (s := 44) (S := []) tl_comma (lt256 tl_comma (by decide)) (by simpa using h0) (fun p hp hc => by
    obtain ⟨i, _, rfl⟩ := List.mem_map.mp hp
    rcases strI_chars hc with q | q <;> omega)
  have e2 : (ws.map strI).map (fun z => numIn z (-3) 3) = ws.map some := by
    rw [List.map_map]
    refine List.map_congr_left fun w hw => ?_
    exact numIn_strI (hb w hw).1 (hb w hw).2
  unfold wtsIn
  rw [e, e2]
  dsimp only
  rw [if_neg (by
    rintro (q | q)
    · rw [List.length_map] at q; omega
    · obtain ⟨w, _, hw⟩ := List.mem_map.mp q; cases hw), List.map_map]
  congr 1
  exact List.map_id _
theorem blank_split {zs : List Str} (hne : zs ≠ []) (h : ∀ z ∈ zs, 32 ∉ TL.tl z) : Txt.split (Txt.join " " zs) " " = zs := TL.split_join (s := 32) (S := []) tl_blank (lt256 tl_blank (by decide)) hne h
theorem least_32 : 32 ∉ TL.tl (Str.ofString "least") := by decide
theorem rest_32 : 32 ∉ TL.tl (Str.ofString "rest") := by decide
theorem nums_32 (ws : List Int) : 32 ∉ TL.tl (nums ws) := fun h => numC_32 (nums_chars ws _ h) rfl
theorem strI_32 (i : Int) : 32 ∉ TL.tl (strI i) := fun h => numC_32 (strI_numC _ h) rfl
theorem simpleIn_least {t : Nat} {ws : List Int} {c : Int} (ht : 1 ≤ t) (ht2 : t ≤ 3) (h : SnOk t 0 (.least ws c)) : simpleIn (txt (.least ws c)) = some (.least ws c) := by
  obtain ⟨⟨hl, hb⟩, h1, h2⟩ := h
  have h0 : ws ≠ [] := by rintro rfl; simp at hl; omega
  unfold simpleIn
  have e : Txt.split (txt (.least ws c)) " " = [Str.ofString "least", nums ws, strI c] := blank_split (by simp) (by
    intro z hz
    simp at hz
    rcases hz with e | e | e <;> subst e
    · exact least_32
    · exact nums_32 ws
    · exact strI_32 c)
  rw [e]
  dsimp only
  rw [if_pos rfl, wtsIn_nums h0 (by omega) hb, numIn_strI h1 h2]
  rfl
theorem simpleIn_rest {t : Nat} {ws : List Int} {m r : Int} (ht : 1 ≤ t) (ht2 : t ≤ 3) (h : SnOk t 0 (.rest ws m r)) : simpleIn (txt (.rest ws m r)) = some (.rest ws m r) := by
  obtain ⟨⟨hl, hb⟩, h1, h2, h3, h4⟩ := h
  have h0 : ws ≠ [] := by rintro rfl; simp at hl; omega
  unfold simpleIn
  have e : Txt.split (txt (.rest ws m r)) " " = [Str.ofString "rest", nums ws, strI m, strI r] := blank_split (by simp) (by
    intro z hz
    simp at hz
    rcases hz with e | e | e | e <;> subst e
    · exact rest_32
    · exact nums_32 ws
    · exact strI_32 m
    · exact strI_32 r)
  rw [e]
  dsimp only
  rw [if_pos rfl, wtsIn_nums h0 (by omega) hb, Option.bind_some, numIn_strI h1 h2, Option.bind_some, numIn_strI h3 (by omega)]
  rfl
end Cs
set_option linter.all false
set_option maxRecDepth 100000
set_option maxHeartbeats 1000000
namespace Cs
open PySem L2 Dm
/-! ### brackets and places -/
theorem dl_eq (c : Nat) : dl c = if c = 40 then 1 else if c = 41 then -1 else 0 := by
  have e1 : Str.ofString "(" = ⟨#[40]⟩ := by decide
  have e2 : Str.ofString ")" = ⟨#[41]⟩ := by decide
  unfold dl tb_DEEPER
  rw [e1, e2]
  by_cases h1 : c = 40
  · subst h1; rfl
  · have q1 : ((⟨#[c]⟩ : Str) == ⟨#[40]⟩) = false := by
      have : (⟨#[c]⟩ : Str) ≠ ⟨#[40]⟩ := by simpa using h1
      simpa using this
    rw [if_neg h1]
    by_cases h2 : c = 41
    · subst h2; rfl
    · have q2 : ((⟨#[c]⟩ : Str) == ⟨#[41]⟩) = false := by
        have : (⟨#[c]⟩ : Str) ≠ ⟨#[41]⟩ := by simpa using h2
        simpa using this
      rw [if_neg h2]
      simp [List.lookup, q1, q2]
def depth (l : List Nat) : Int := (l.map dl).sum
theorem depth_app (p q : List Nat) : depth (p ++ q) = depth p + depth q := by simp [depth]
theorem depth_cons (c : Nat) (q : List Nat) : depth (c :: q) = dl c + depth q := by simp [depth]
theorem dl_32 : dl 32 = 0 := by rw [dl_eq]; decide
structure Good (l : List Nat) : Prop where
  bal : depth l = 0
  nn : ∀ p q, l = p ++ q → 0 ≤ depth p
  calm : ∀ p q, l = p ++ 32 :: q → depth p = 0 → ∃ c r, q = c :: r ∧ c ≠ 97 ∧ c ≠ 111
  hd : ∃ c r, l = c :: r ∧ c ≠ 97 ∧ c ≠ 111
theorem tl_cut (x : Str) (i : Nat) (k : Int) (hk : 0 ≤ k) : TL.tl (cutS x (some (i : Int)) (some ((i : Int) + k + 2))) = ((TL.tl x).drop i).take (k.toNat + 2) := by
  show ((TL.tl x).drop (HT.sIx x.length 0 (some (i : Int)))).take (HT.sIx x.length x.length (some ((i : Int) + k + 2)) - HT.sIx x.length 0 (some (i : Int))) = _
  have e : (i : Int) + k + 2 = ((i + k.toNat + 2 : Nat) : Int) := by omega
  rw [e, HT.sIx_nat, HT.sIx_nat, TL.len_tl]
  rcases Nat.le_total i (TL.tl x).length with h | h
  · rw [Nat.min_eq_left h]
    rcases Nat.le_total (i + k.toNat + 2) (TL.tl x).length with h2 | h2
    · rw [Nat.min_eq_left h2]
      congr 1; omega
    · rw [Nat.min_eq_right h2, List.take_of_length_le (by rw [List.length_drop]; omega), List.take_of_length_le (by rw [List.length_drop]; omega)]
  · rw [Nat.min_eq_right h, List.drop_of_length_le (Nat.le_refl _), List.drop_of_length_le h, List.take_nil, List.take_nil]
theorem hit_iff {x : Str} {i : Nat} {w : Str} : hit x i w = true ↔ ((TL.tl x).drop i).take (w.length + 2) = 32 :: (TL.tl w ++ [32]) := by
  unfold hit
  rw [decide_eq_true_iff]
  have e := tl_cut x i w.length (by omega)
  rw [Int.toNat_natCast] at e
  have e2 : TL.tl (Str.ofString " " ++ w ++ Str.ofString " ") = 32 :: (TL.tl w ++ [32]) := by
    rw [TL.tl_append, TL.tl_append, tl_blank]; rfl
  constructor
  · intro h
    rw [← e, h, e2]
  · intro h
    apply TL.ext_tl
    rw [e, e2, h]
theorem no_hit {x : Str} {i : Nat} {w : Str} {c : Nat} {r : List Nat} (hd : (TL.tl x).drop i = c :: r) (h : c ≠ 32) : hit x i w = false := by
  cases e : hit x i w with
  | false => rfl
  | true =>
    rw [hit_iff, hd] at e
    rw [show w.length + 2 = (w.length + 1) + 1 from rfl, List.take_succ_cons] at e
    exact absurd (List.cons.inj e).1 h
theorem no_hit2 {x : Str} {i : Nat} {w : Str} {c d : Nat} {r s : List Nat} (hd : (TL.tl x).drop i = c :: d :: r) (hw : TL.tl w = e :: s) (h : d ≠ e) : hit x i w = false := by
  cases e : hit x i w with
  | false => rfl
  | true =>
    rw [hit_iff, hd, hw] at e
    rw [show w.length + 2 = (w.length + 1) + 1 from rfl, List.take_succ_cons] at e
    have e := (List.cons.inj e).2
    rw [List.take_succ_cons] at e
    exact absurd (List.cons.inj e).1 h
theorem tl_and : TL.tl (Str.ofString "and") = [97, 110, 100] := by rw [TL.tl_ofString]; rfl
theorem tl_or : TL.tl (Str.ofString "or") = [111, 114] := by rw [TL.tl_ofString]; rfl
theorem plc_skip {x : Str} {d : Int} {i c : Nat} {r : List Nat} (h : d + dl c = 0 → hit x i "and" = false ∧ hit x i "or" = false) : plc x d i (c :: r) = plc x (d + dl c) (i + 1) r := by
  rw [plc]
  by_cases q : d + dl c = 0
  · obtain ⟨h1, h2⟩ := h q
    rw [if_neg (by rw [h1]; simp), if_neg (by rw [h2]; simp)]
    rfl
  · rw [if_neg (fun z => q z.1), if_neg (fun z => q z.1)]
    rfl
theorem plc_calm {x : Str} {P R l : List Nat} (hx : TL.tl x = P ++ (l ++ R)) (g : Good l) : ∀ (q p : List Nat), l = p ++ q → plc x (depth p) (P.length + p.length) (q ++ R) = plc x 0 (P.length + l.length) R := by
  intro q
  induction q with
  | nil =>
    intro p e
    rw [List.append_nil] at e
    subst e
    rw [g.bal]
    rfl
  | cons c q ih =>
    intro p e
    have e2 : l = (p ++ [c]) ++ q := by rw [e]; simp
    have hdrop : (TL.tl x).drop (P.length + p.length) = c :: (q ++ R) := by
      rw [hx, e]
      rw [show P ++ (p ++ c :: q ++ R) = (P ++ p) ++ (c :: (q ++ R)) by simp, ← List.length_append, List.drop_left]
    have hs : plc x (depth p) (P.length + p.length) (c :: (q ++ R)) = plc x (depth p + dl c) (P.length + p.length + 1) (q ++ R) := by
      refine plc_skip fun hz => ?_
      by_cases hc : c = 32
      · subst hc
        rw [dl_32, Int.add_zero] at hz
        obtain ⟨d, r, rfl, h1, h2⟩ := g.calm p q e hz
        exact ⟨no_hit2 hdrop tl_and h1, no_hit2 hdrop tl_or h2⟩
      · exact ⟨no_hit hdrop hc, no_hit hdrop hc⟩
    rw [List.cons_append, hs]
    have := ih (p ++ [c]) e2
    rw [depth_app, depth_cons, List.length_append, List.length_singleton, ← Nat.add_assoc] at this
    simpa [depth] using this
theorem plc_two {y : Str} {w : Bool} {A B : List Nat} (hy : TL.tl y = A ++ (32 :: (TL.tl (wd w) ++ 32 :: B))) (gA : Good A) (gB : Good B) : plc y 0 0 (TL.tl y) = [(A.length, wd w)] := by
  have h1 := plc_calm (x := y) (P := []) (R := 32 :: (TL.tl (wd w) ++ 32 :: B)) (l := A) hy gA A [] rfl
  rw [show depth [] = 0 from rfl, List.length_nil, Nat.zero_add, Nat.zero_add] at h1
  have hd0 : (TL.tl y).drop A.length = 32 :: (TL.tl (wd w) ++ 32 :: B) := by rw [hy, List.drop_left]
  rw [show TL.tl y = A ++ (32 :: (TL.tl (wd w) ++ 32 :: B)) from hy, h1]
  obtain ⟨b, B', rfl, hb1, hb2⟩ := gB.hd
  have hB := fun (P : List Nat) (hP : TL.tl y = P ++ (b :: B')) => plc_calm (x := y) (P := P) (R := []) (l := b :: B') (by rw [List.append_nil]; exact hP) gB (b :: B') [] rfl
  cases w with
  | true =>
    have hd0 : (TL.tl y).drop A.length = 32 :: 97 :: 110 :: 100 :: 32 :: b :: B' := by rw [hd0]; show 32 :: (TL.tl (Str.ofString "and") ++ _) = _; rw [tl_and]; rfl
    have hd : ∀ k, (TL.tl y).drop (A.length + k) = (32 :: 97 :: 110 :: 100 :: 32 :: b :: B').drop k := fun k => by rw [← hd0, List.drop_drop]
    have t1 : hit y A.length "and" = true := by rw [hit_iff, hd0, tl_and]; rfl
    have t2 : hit y A.length "or" = false := no_hit2 hd0 tl_or (by decide)
    show plc y 0 A.length (32 :: (TL.tl (Str.ofString "and") ++ 32 :: b :: B')) = [(A.length, Str.ofString "and")]
    rw [tl_and]
    show plc y 0 A.length (32 :: 97 :: 110 :: 100 :: 32 :: b :: B') = _
    rw [plc, dl_32, if_pos ⟨by decide, t1⟩, if_neg (by rw [t2]; simp)]
    have e1 : dl 97 = 0 := by rw [dl_eq]; decide
    have e2 : dl 110 = 0 := by rw [dl_eq]; decide
    have e3 : dl 100 = 0 := by rw [dl_eq]; decide
    rw [plc_skip (fun _ => ⟨no_hit (hd 1) (by decide), no_hit (hd 1) (by decide)⟩), plc_skip (fun _ => ⟨no_hit (hd 2) (by decide), no_hit (hd 2) (by decide)⟩), plc_skip (fun _ => ⟨no_hit (hd 3) (by decide), no_hit (hd 3) (by decide)⟩),
      plc_skip (fun _ => ⟨no_hit2 (hd 4) tl_and hb1, no_hit2 (hd 4) tl_or hb2⟩), e1, e2, e3, dl_32]
    have := hB (A ++ [32, 97, 110, 100, 32]) (by rw [hy]; show A ++ (32 :: (TL.tl (Str.ofString "and") ++ _)) = _; rw [tl_and]; simp)
    rw [show depth [] = 0 from rfl, List.length_nil, Nat.add_zero, List.append_nil, List.length_append] at this
    show (A.length, Str.ofString "and") :: ([] ++ plc y 0 (A.length + 5) (b :: B')) = _
    rw [List.nil_append]
    exact congrArg (List.cons _) (this.trans rfl)
  | false =>
    have hd0 : (TL.tl y).drop A.length = 32 :: 111 :: 114 :: 32 :: b :: B' := by rw [hd0]; show 32 :: (TL.tl (Str.ofString "or") ++ _) = _; rw [tl_or]; rfl
    have hd : ∀ k, (TL.tl y).drop (A.length + k) = (32 :: 111 :: 114 :: 32 :: b :: B').drop k := fun k => by rw [← hd0, List.drop_drop]
    have t1 : hit y A.length "or" = true := by rw [hit_iff, hd0, tl_or]; rfl
    have t2 : hit y A.length "and" = false := no_hit2 hd0 tl_and (by decide)
    show plc y 0 A.length (32 :: (TL.tl (Str.ofString "or") ++ 32 :: b :: B')) = [(A.length, Str.ofString "or")]
    rw [tl_or]
    show plc y 0 A.length (32 :: 111 :: 114 :: 32 :: b :: B') = _
    rw [plc, dl_32, if_neg (by rw [t2]; simp), if_pos ⟨by decide, t1⟩]
    have e1 : dl 111 = 0 := by rw [dl_eq]; decide
    have e2 : dl 114 = 0 := by rw [dl_eq]; decide
    rw [plc_skip (fun _ => ⟨no_hit (hd 1) (by decide), no_hit (hd 1) (by decide)⟩), plc_skip (fun _ => ⟨no_hit (hd 2) (by decide), no_hit (hd 2) (by decide)⟩),
      plc_skip (fun _ => ⟨no_hit2 (hd 3) tl_and hb1, no_hit2 (hd 3) tl_or hb2⟩), e1, e2, dl_32]
    have := hB (A ++ [32, 111, 114, 32]) (by rw [hy]; show A ++ (32 :: (TL.tl (Str.ofString "or") ++ _)) = _; rw [tl_or]; simp)
    rw [show depth [] = 0 from rfl, List.length_nil, Nat.add_zero, List.append_nil, List.length_append] at this
    show [] ++ ((A.length, Str.ofString "or") :: plc y 0 (A.length + 4) (b :: B')) = _
    rw [List.nil_append]
    exact congrArg (List.cons _) (this.trans rfl)
end Cs
set_option linter.all false
set_option maxRecDepth 100000
set_option maxHeartbeats 1000000
namespace Cs
open PySem L2 Dm
/-! ### texts of sentences are good -/
theorem depth_zero {l : List Nat} (h : ∀ c ∈ l, c ≠ 40 ∧ c ≠ 41) : depth l = 0 := by
  induction l with
  | nil => rfl
  | cons c r ih =>
    obtain ⟨h1, h2⟩ := h c (List.mem_cons_self ..)
    rw [depth_cons, ih fun d hd => h d (List.mem_cons_of_mem _ hd), dl_eq, if_neg h1, if_neg h2]
    rfl
theorem good_flat {l : List Nat} (h : ∀ c ∈ l, c ≠ 40 ∧ c ≠ 41) (hc : ∀ p q, l = p ++ 32 :: q → ∃ c r, q = c :: r ∧ c ≠ 97 ∧ c ≠ 111) (hd : ∃ c r, l = c :: r ∧ c ≠ 97 ∧ c ≠ 111) : Good l :=
  ⟨depth_zero h, fun p q e => by rw [depth_zero fun c hc => h c (by rw [e]; exact List.mem_append_left _ hc)]; exact Int.le_refl 0, fun p q e _ => hc p q e, hd⟩
/-- behind each blank of a joined text there stands a piece's first sign -/
theorem join_calm : ∀ (zs : List (List Nat)), (∀ z ∈ zs, 32 ∉ z) → (∀ z ∈ zs.drop 1, ∃ c r, z = c :: r ∧ c ≠ 97 ∧ c ≠ 111) → ∀ p q, TL.joinL [32] zs = p ++ 32 :: q → ∃ c r, q = c :: r ∧ c ≠ 97 ∧ c ≠ 111
  | [], _, _, p, q, e => by
    have : (32 : Nat) ∈ ([] : List Nat) := by rw [show ([] : List Nat) = p ++ 32 :: q from e]; simp
    exact absurd this (List.not_mem_nil)
  | [z], h, _, p, q, e => by
    have e : z = p ++ 32 :: q := e
    exact absurd (show 32 ∈ z by rw [e]; simp) (h z (by simp))
  | z :: y :: r, h, h2, p, q, e => by
    have e : z ++ (32 :: TL.joinL [32] (y :: r)) = p ++ 32 :: q := e
    rw [List.append_eq_append_iff] at e
    rcases e with ⟨as, e1, e2⟩ | ⟨cs, e1, e2⟩
    · cases as with
      | nil =>
        have e2 : 32 :: TL.joinL [32] (y :: r) = 32 :: q := e2
        obtain ⟨c, r', hy, h3⟩ := h2 y (by simp)
        have hq : q = TL.joinL [32] (y :: r) := ((List.cons.inj e2).2).symm
        subst hy
        cases r with
        | nil => exact ⟨c, r', hq, h3⟩
        | cons u r => exact ⟨c, r' ++ (32 :: TL.joinL [32] (u :: r)), hq, h3⟩
      | cons a as =>
        have e2 : 32 :: TL.joinL [32] (y :: r) = a :: (as ++ 32 :: q) := e2
        exact join_calm (y :: r) (fun z hz => h z (List.mem_cons_of_mem _ hz)) (fun z hz => h2 z (by
          have : z ∈ (y :: r) := List.mem_of_mem_drop hz
          simpa using this)) as q (List.cons.inj e2).2
    · cases cs with
      | nil =>
        have e2 : 32 :: q = 32 :: TL.joinL [32] (y :: r) := by simpa using e2
        obtain ⟨c, r', hy, h3⟩ := h2 y (by simp)
        have hq : q = TL.joinL [32] (y :: r) := (List.cons.inj e2).2
        subst hy
        cases r with
        | nil => exact ⟨c, r', hq, h3⟩
        | cons u r => exact ⟨c, r' ++ (32 :: TL.joinL [32] (u :: r)), hq, h3⟩
      | cons a as =>
        have e2 : 32 :: q = a :: (as ++ 32 :: TL.joinL [32] (y :: r)) := e2
        have ha : a = 32 := ((List.cons.inj e2).1).symm
        subst ha
        exact absurd (show 32 ∈ z by rw [e1]; simp) (h z (by simp))
theorem numC_hd {l : List Nat} (hne : l ≠ []) (h : ∀ c ∈ l, NumC c) : ∃ c r, l = c :: r ∧ c ≠ 97 ∧ c ≠ 111 := by
  cases l with
  | nil => exact absurd rfl hne
  | cons c r =>
    have := h c (List.mem_cons_self ..)
    exact ⟨c, r, rfl, by rcases this with q | q | q <;> omega, by rcases this with q | q | q <;> omega⟩
theorem nums_ne {ws : List Int} (h : ws ≠ []) : TL.tl (nums ws) ≠ [] := by
  cases ws with
  | nil => exact absurd rfl h
  | cons w r =>
    unfold nums
    rw [TL.join_eq, TL.tl_join]
    cases r with
    | nil => exact strI_ne w
    | cons v r =>
      intro e
      have e : TL.tl (strI w) ++ _ = [] := e
      exact strI_ne w (List.append_eq_nil_iff.mp e).1
def Ltr (c : Nat) : Prop := NumC c ∨ c = 32 ∨ (98 ≤ c ∧ c ≤ 122)
theorem atom_good {w : Str} {r : List Str} (hw : TL.tl w ≠ []) (hw2 : ∀ c ∈ TL.tl w, 98 ≤ c ∧ c ≤ 122 ∧ c ≠ 111 ∨ c = 97) (hw3 : (TL.tl w).head? ≠ some 97) (hr : ∀ z ∈ r, TL.tl z ≠ [] ∧ ∀ c ∈ TL.tl z, NumC c) : Good (TL.tl (Txt.join " " (w :: r))) := by
  have chars : ∀ c ∈ TL.tl (Txt.join " " (w :: r)), c = 97 ∨ Ltr c := by
    refine join_chars (a := " ") (P := fun c => c = 97 ∨ Ltr c) ?_ _ ?_
    · intro c hc
      rw [tl_blank, List.mem_singleton] at hc
      exact .inr (.inr (.inl hc))
    · intro z hz c hc
      rcases List.mem_cons.mp hz with e | e
      · subst e
        rcases hw2 c hc with h | h
        · exact .inr (.inr (.inr ⟨h.1, h.2.1⟩))
        · exact .inl h
      · exact .inr (.inl ((hr z e).2 c hc))
  have ej : TL.tl (Txt.join " " (w :: r)) = TL.joinL [32] ((w :: r).map TL.tl) := by
    rw [TL.join_eq, TL.tl_join, tl_blank]
  refine good_flat (fun c hc => ?_) ?_ ?_
  · rcases chars c hc with h | h | h | h
    · omega
    · rcases h with h | h | h <;> omega
    · omega
    · omega
  · rw [ej]
    refine join_calm _ (fun z hz => ?_) (fun z hz => ?_)
    · obtain ⟨y, hy, rfl⟩ := List.mem_map.mp hz
      rcases List.mem_cons.mp hy with e | e
      · subst e
        intro h
        rcases hw2 _ h with q | q <;> omega
      · exact fun h => numC_32 ((hr y e).2 _ h) rfl
    · have hz : z ∈ r.map TL.tl := hz
      obtain ⟨y, hy, rfl⟩ := List.mem_map.mp hz
      exact numC_hd (hr y hy).1 (hr y hy).2
  · rw [ej]
    cases e : TL.tl w with
    | nil => exact absurd e hw
    | cons c q =>
      have h1 : c ≠ 97 := fun h => hw3 (by rw [e, h]; rfl)
      have h2 : c ≠ 111 := by
        rcases hw2 c (by rw [e]; simp) with h | h
        · exact h.2.2
        · exact absurd h h1
      cases r with
      | nil => exact ⟨c, q, by rw [List.map_cons, e]; rfl, h1, h2⟩
      | cons u r => exact ⟨c, _, by rw [List.map_cons, List.map_cons, e]; rfl, h1, h2⟩
theorem good_no {l : List Nat} (g : Good l) : Good (110 :: 111 :: 116 :: 32 :: l) := by
  obtain ⟨c, r, hl, h1, h2⟩ := g.hd
  have e1 : dl 110 = 0 := by rw [dl_eq]; decide
  have e2 : dl 111 = 0 := by rw [dl_eq]; decide
  have e3 : dl 116 = 0 := by rw [dl_eq]; decide
  have ed : ∀ m, depth (110 :: 111 :: 116 :: 32 :: m) = depth m := fun m => by
    rw [depth_cons, depth_cons, depth_cons, depth_cons, e1, e2, e3, dl_32]; omega
  refine ⟨by rw [ed, g.bal], fun p q e => ?_, fun p q e hz => ?_, ⟨110, _, rfl, by decide, by decide⟩⟩
  · match p with
    | [] => exact Int.le_refl 0
    | [a] => rw [List.cons_append] at e; rw [← (List.cons.inj e).1, depth_cons, e1]; decide
    | [a, b] => simp only [List.cons_append, List.cons.injEq] at e; rw [← e.1, ← e.2.1, depth_cons, depth_cons, e1, e2]; decide
    | [a, b, c'] => simp only [List.cons_append, List.cons.injEq] at e; rw [← e.1, ← e.2.1, ← e.2.2.1, depth_cons, depth_cons, depth_cons, e1, e2, e3]; decide
    | a :: b :: c' :: d :: p =>
      simp only [List.cons_append, List.cons.injEq] at e
      rw [← e.1, ← e.2.1, ← e.2.2.1, ← e.2.2.2.1, ed]
      exact g.nn p q e.2.2.2.2
  · match p with
    | [] => simp at e
    | [a] => simp at e
    | [a, b] => simp at e
    | [a, b, c'] =>
      simp only [List.cons_append, List.nil_append, List.cons.injEq] at e
      exact ⟨c, r, by rw [← e.2.2.2.2, hl], h1, h2⟩
    | a :: b :: c' :: d :: p =>
      simp only [List.cons_append, List.cons.injEq] at e
      rw [← e.1, ← e.2.1, ← e.2.2.1, ← e.2.2.2.1, ed] at hz
      exact g.calm p q e.2.2.2.2 hz
theorem good_br {l : List Nat} (hb : depth l = 0) (hn : ∀ p q, l = p ++ q → 0 ≤ depth p) : Good (40 :: (l ++ [41])) := by
  have e1 : dl 40 = 1 := by rw [dl_eq]; decide
  have e2 : dl 41 = -1 := by rw [dl_eq]; decide
  have cut : ∀ p q, 40 :: (l ++ [41]) = p ++ q → p = [] ∨ (∃ p' q', p = 40 :: p' ∧ l = p' ++ q' ∧ q = q' ++ [41]) ∨ (p = 40 :: (l ++ [41]) ∧ q = []) := fun p q e => by
    cases p with
    | nil => exact .inl rfl
    | cons a p =>
      rw [List.cons_append] at e
      obtain ⟨ea, e'⟩ := List.cons.inj e
      subst ea
      rcases List.append_eq_append_iff.mp e' with ⟨as, h1, h2⟩ | ⟨cs, h1, h2⟩
      · cases as with
        | nil => exact .inr (.inl ⟨p, [], rfl, by rw [h1]; simp, by simpa using h2.symm⟩)
        | cons a as =>
          have h2 : [41] = a :: (as ++ q) := h2
          obtain ⟨h3, h4⟩ := List.cons.inj h2
          have h4 := List.append_eq_nil_iff.mp h4.symm
          refine .inr (.inr ⟨?_, h4.2⟩)
          rw [h1, ← h3, h4.1]
      · exact .inr (.inl ⟨p, cs, rfl, h1, h2⟩)
  have ew : depth (40 :: (l ++ [41])) = 0 := by
    rw [depth_cons, depth_app, hb, e1, depth_cons, e2]; rfl
  refine ⟨ew, fun p q e => ?_, fun p q e hz => ?_, ⟨40, _, rfl, by decide, by decide⟩⟩
  · rcases cut p q e with h | ⟨p', q', h1, h2, h3⟩ | ⟨h1, h2⟩
    · subst h; exact Int.le_refl 0
    · subst h1
      have := hn p' q' h2
      rw [depth_cons, e1]; omega
    · rw [h1, ew]; exact Int.le_refl 0
  · rcases cut p (32 :: q) e with h | ⟨p', q', h1, h2, h3⟩ | ⟨h1, h2⟩
    · subst h
      have e : (40 : Nat) :: _ = 32 :: q := e
      exact absurd (List.cons.inj e).1 (by decide)
    · subst h1
      have := hn p' q' h2
      rw [depth_cons, e1] at hz
      omega
    · cases h2
theorem tl_txt_no (s : Sn) : TL.tl (txt (.no s)) = 110 :: 111 :: 116 :: 32 :: TL.tl (txt s) := by
  show TL.tl (Str.ofString "not " ++ txt s) = _
  rw [TL.tl_append, TL.tl_ofString]
  rfl
theorem tl_txt_two (w : Bool) (a b : Sn) : TL.tl (txt (.two w a b)) = 40 :: ((TL.tl (txt a) ++ (32 :: (TL.tl (wd w) ++ 32 :: TL.tl (txt b)))) ++ [41]) := by
  show TL.tl ((((((Str.empty ++ Str.ofString "(") ++ txt a) ++ Str.ofString " ") ++ wd w) ++ Str.ofString " ") ++ txt b ++ Str.ofString ")") = _
  have e0 : TL.tl Str.empty = [] := rfl
  have e1 : TL.tl (Str.ofString "(") = [40] := by rw [TL.tl_ofString]; rfl
  have e2 : TL.tl (Str.ofString ")") = [41] := by rw [TL.tl_ofString]; rfl
  simp only [TL.tl_append, e0, e1, e2, tl_blank, List.nil_append, List.cons_append, List.append_assoc]
theorem wd_chars (w : Bool) : ∀ c ∈ TL.tl (wd w), c ≠ 40 ∧ c ≠ 41 := by
  cases w
  · show ∀ c ∈ TL.tl (Str.ofString "or"), _
    rw [tl_or]; decide
  · show ∀ c ∈ TL.tl (Str.ofString "and"), _
    rw [tl_and]; decide
theorem nn_app {a b : List Nat} (ha : depth a = 0) (h1 : ∀ p q, a = p ++ q → 0 ≤ depth p) (h2 : ∀ p q, b = p ++ q → 0 ≤ depth p) : ∀ p q, a ++ b = p ++ q → 0 ≤ depth p := fun p q e => by
  rcases List.append_eq_append_iff.mp e with ⟨as, e1, e2⟩ | ⟨cs, e1, e2⟩
  · rw [e1, depth_app, ha, Int.zero_add]
    exact h2 as q e2
  · exact h1 p cs e1
theorem nn_flat {a : List Nat} (h : ∀ c ∈ a, c ≠ 40 ∧ c ≠ 41) : ∀ p q, a = p ++ q → 0 ≤ depth p := fun p q e => by
  rw [depth_zero fun c hc => h c (by rw [e]; exact List.mem_append_left _ hc)]; exact Int.le_refl 0
theorem good_two {w : Bool} {A B : List Nat} (gA : Good A) (gB : Good B) : Good (40 :: ((A ++ (32 :: (TL.tl (wd w) ++ 32 :: B))) ++ [41])) := by
  have h1 : ∀ c ∈ (32 :: (TL.tl (wd w) ++ [32])), c ≠ 40 ∧ c ≠ 41 := by
    intro c hc
    rcases List.mem_cons.mp hc with e | e
    · subst e; decide
    · rcases List.mem_append.mp e with e | e
      · exact wd_chars w c e
      · rw [List.mem_singleton] at e; subst e; decide
  have e : A ++ (32 :: (TL.tl (wd w) ++ 32 :: B)) = A ++ ((32 :: (TL.tl (wd w) ++ [32])) ++ B) := by simp
  rw [e]
  refine good_br ?_ ?_
  · rw [depth_app, depth_app, gA.bal, gB.bal, depth_zero h1]; rfl
  · exact nn_app gA.bal gA.nn (nn_app (depth_zero h1) (nn_flat h1) gB.nn)
theorem txt_good {t : Nat} (ht : 1 ≤ t) : ∀ {n : Nat} {s : Sn}, SnOk t n s → Good (TL.tl (txt s)) := by
  intro n s
  induction s generalizing n with
  | least ws c =>
    intro h
    have h : WtOk t ws ∧ -4 ≤ c ∧ c ≤ 4 := by cases n <;> exact h
    have h0 : ws ≠ [] := by rintro rfl; have := h.1.len; simp at this; omega
    refine atom_good (w := "least") (by decide) (by decide) (by decide) ?_
    intro z hz
    simp at hz
    rcases hz with e | e <;> subst e
    · exact ⟨nums_ne h0, nums_chars ws⟩
    · exact ⟨strI_ne c, strI_numC⟩
  | rest ws m r =>
    intro h
    have h : WtOk t ws ∧ 2 ≤ m ∧ m ≤ 5 ∧ 0 ≤ r ∧ r < m := by cases n <;> exact h
    have h0 : ws ≠ [] := by rintro rfl; have := h.1.len; simp at this; omega
    refine atom_good (w := "rest") (by decide) (by decide) (by decide) ?_
    intro z hz
    simp at hz
    rcases hz with e | e | e <;> subst e
    · exact ⟨nums_ne h0, nums_chars ws⟩
    · exact ⟨strI_ne m, strI_numC⟩
    · exact ⟨strI_ne r, strI_numC⟩
  | no s ih =>
    intro h
    rw [tl_txt_no]
    cases n with
    | zero => exact h.elim
    | succ n => exact good_no (ih (n := n) h)
  | two w a b iha ihb =>
    intro h
    rw [tl_txt_two]
    cases n with
    | zero => exact h.elim
    | succ n => exact good_two (iha (n := n) h.1) (ihb (n := n) h.2)
end Cs
set_option linter.all false
set_option maxRecDepth 100000
set_option maxHeartbeats 1000000
namespace Cs
open PySem L2 Dm
/-! ### reading what was written -/
theorem tl_cut_to (x : Str) (k : Nat) : TL.tl (cutS x none (some (k : Int))) = (TL.tl x).take k := by
  show ((TL.tl x).drop 0).take (HT.sIx x.length x.length (some (k : Int)) - 0) = _
  rw [HT.sIx_nat, List.drop_zero, Nat.sub_zero, TL.len_tl]
  rcases Nat.le_total k (TL.tl x).length with h | h
  · rw [Nat.min_eq_left h]
  · rw [Nat.min_eq_right h, List.take_of_length_le (Nat.le_refl _), List.take_of_length_le h]
theorem tl_cut_from (x : Str) (k : Nat) : TL.tl (cutS x (some (k : Int)) none) = (TL.tl x).drop k := by
  show ((TL.tl x).drop (HT.sIx x.length 0 (some (k : Int)))).take (x.length - HT.sIx x.length 0 (some (k : Int))) = _
  rw [HT.sIx_nat, TL.len_tl]
  rcases Nat.le_total k (TL.tl x).length with h | h
  · rw [Nat.min_eq_left h, List.take_of_length_le (by rw [List.length_drop]; omega)]
  · rw [Nat.min_eq_right h, List.drop_of_length_le (Nat.le_refl _), List.drop_of_length_le h, List.take_nil]
theorem sIx_m1 (n d : Nat) : HT.sIx n d (some (-1)) = n - 1 := by
  show (if (-1 : Int) < 0 then ((-1 : Int) + (n : Int)).toNat else min (-1 : Int).toNat n) = _
  rw [if_pos (by decide)]; omega
theorem tl_cut_last (x : Str) : TL.tl (cutS x (some (-1)) none) = (TL.tl x).drop ((TL.tl x).length - 1) := by
  show ((TL.tl x).drop (HT.sIx x.length 0 (some (-1)))).take (x.length - HT.sIx x.length 0 (some (-1))) = _
  rw [sIx_m1, TL.len_tl, List.take_of_length_le (by rw [List.length_drop]; omega)]
theorem tl_cut_inner (x : Str) : TL.tl (cutS x (some 1) (some (-1))) = ((TL.tl x).drop 1).take ((TL.tl x).length - 2) := by
  show ((TL.tl x).drop (HT.sIx x.length 0 (some ((1 : Nat) : Int)))).take (HT.sIx x.length x.length (some (-1)) - HT.sIx x.length 0 (some ((1 : Nat) : Int))) = _
  rw [sIx_m1, HT.sIx_nat, TL.len_tl]
  rcases Nat.lt_or_ge (TL.tl x).length 1 with h | h
  · have : TL.tl x = [] := List.eq_nil_of_length_eq_zero (by omega)
    rw [this]; simp
  · rw [Nat.min_eq_left h]
    congr 1
theorem tl_not4 : TL.tl (Str.ofString "not ") = [110, 111, 116, 32] := by rw [TL.tl_ofString]; rfl
theorem tl_lb : TL.tl (Str.ofString "(") = [40] := by rw [TL.tl_ofString]; rfl
theorem tl_rb : TL.tl (Str.ofString ")") = [41] := by rw [TL.tl_ofString]; rfl
theorem cut4_ne {x : Str} {c : Nat} {r : List Nat} (h : TL.tl x = c :: r) (hc : c ≠ 110) : cutS x none (some 4) ≠ "not " := fun e => by
  have e := congrArg TL.tl e
  rw [show (4 : Int) = ((4 : Nat) : Int) from rfl, tl_cut_to, h, tl_not4] at e
  exact hc (List.cons.inj e).1
theorem cut1_ne {x : Str} {c : Nat} {r : List Nat} (h : TL.tl x = c :: r) (hc : c ≠ 40) : cutS x none (some 1) ≠ "(" := fun e => by
  have e := congrArg TL.tl e
  rw [show (1 : Int) = ((1 : Nat) : Int) from rfl, tl_cut_to, h, tl_lb] at e
  exact hc (List.cons.inj e).1
theorem sIn_simple {n w : Nat} {x : Str} {c : Nat} {r : List Nat} (h : TL.tl x = c :: r) (h1 : c ≠ 110) (h2 : c ≠ 40) (hw : w ≤ 2) : sIn (n + 1) x w = simpleIn x := by
  rw [sIn, if_neg (by omega), if_neg (cut4_ne h h1), if_neg (fun e => cut1_ne h h2 e.1)]
theorem sIn_no {n w : Nat} {s : Sn} (hw : w ≤ 2) (h : sIn n (txt s) (w + 1) = some s) : sIn (n + 1) (txt (.no s)) w = some (.no s) := by
  have e := tl_txt_no s
  have e1 : cutS (txt (.no s)) none (some 4) = "not " := TL.ext_tl (by
    rw [show (4 : Int) = ((4 : Nat) : Int) from rfl, tl_cut_to, e, tl_not4]; rfl)
  have e2 : cutS (txt (.no s)) (some 4) none = txt s := TL.ext_tl (by
    rw [show (4 : Int) = ((4 : Nat) : Int) from rfl, tl_cut_from, e]; rfl)
  rw [sIn, if_neg (by omega), if_pos e1, e2, h]
  rfl
theorem sIn_two {n w : Nat} {z : Bool} {a b : Sn} (hw : w ≤ 2) (gA : Good (TL.tl (txt a))) (gB : Good (TL.tl (txt b))) (h : sIn n (txt a) (w + 1) = some a) (h2 : sIn n (txt b) (w + 1) = some b) : sIn (n + 1) (txt (.two z a b)) w = some (.two z a b) := by
  have e := tl_txt_two z a b
  have e1 : cutS (txt (.two z a b)) none (some 4) ≠ "not " := cut4_ne e (by decide)
  have e2 : cutS (txt (.two z a b)) none (some 1) = "(" := TL.ext_tl (by
    rw [show (1 : Int) = ((1 : Nat) : Int) from rfl, tl_cut_to, e, tl_lb]; rfl)
  generalize hI : TL.tl (txt a) ++ (32 :: (TL.tl (wd z) ++ 32 :: TL.tl (txt b))) = I at e
  have e3 : cutS (txt (.two z a b)) (some (-1)) none = ")" := TL.ext_tl (by
    rw [tl_cut_last, e, tl_rb]
    rw [show (40 :: (I ++ [41])).length - 1 = (40 :: I).length by simp, show 40 :: (I ++ [41]) = (40 :: I) ++ [41] from rfl, List.drop_left])
  have e4 : TL.tl (cutS (txt (.two z a b)) (some 1) (some (-1))) = I := by
    rw [tl_cut_inner, e]
    show (I ++ [41]).take ((40 :: (I ++ [41])).length - 2) = I
    rw [show (40 :: (I ++ [41])).length - 2 = I.length by simp, List.take_left]
  rw [sIn, if_neg (by omega), if_neg e1, if_pos ⟨e2, e3⟩]
  generalize cutS (txt (.two z a b)) (some 1) (some (-1)) = y at e4 ⊢
  subst hI
  have e5 := plc_two e4 gA gB
  have e6 : cutS y none (some ((TL.tl (txt a)).length : Int)) = txt a := TL.ext_tl (by
    rw [tl_cut_to, e4, List.take_left])
  have e7 : cutS y (some (((TL.tl (txt a)).length : Int) + ((wd z).length : Int) + 2)) none = txt b := TL.ext_tl (by
    rw [show ((TL.tl (txt a)).length : Int) + ((wd z).length : Int) + 2 = (((TL.tl (txt a)).length + ((wd z).length + 2) : Nat) : Int) by omega, tl_cut_from, e4, ← List.drop_drop, List.drop_left, TL.len_tl]
    rw [show 32 :: (TL.tl (wd z) ++ 32 :: TL.tl (txt b)) = (32 :: (TL.tl (wd z) ++ [32])) ++ TL.tl (txt b) by simp, show (TL.tl (wd z)).length + 2 = (32 :: (TL.tl (wd z) ++ [32])).length by simp, List.drop_left])
  have e8 : decide (wd z = "and") = z := by cases z <;> decide
  rw [e5]
  dsimp only
  rw [e6, e7, e8, h, h2]
  rfl
theorem txt_hd {t : Nat} {s : Sn} : SnOk t 0 s → ∃ c r, TL.tl (txt s) = c :: r ∧ c ≠ 110 ∧ c ≠ 40 := by
  cases s with
  | least ws c => exact fun _ => ⟨108, _, by
      show TL.tl (Txt.join " " _) = _
      rw [TL.join_eq, TL.tl_join, List.map_cons, List.map_cons, show TL.tl (Str.ofString "least") = 108 :: [101, 97, 115, 116] by rw [TL.tl_ofString]; rfl]
      rfl, by decide, by decide⟩
  | rest ws m r => exact fun _ => ⟨114, _, by
      show TL.tl (Txt.join " " _) = _
      rw [TL.join_eq, TL.tl_join, List.map_cons, List.map_cons, show TL.tl (Str.ofString "rest") = 114 :: [101, 115, 116] by rw [TL.tl_ofString]; rfl]
      rfl, by decide, by decide⟩
  | no s => exact fun h => h.elim
  | two w a b => exact fun h => h.elim
theorem sIn_txt {t : Nat} (ht : 1 ≤ t) (ht2 : t ≤ 3) : ∀ (s : Sn) (k n w : Nat), SnOk t k s → k + w ≤ 2 → k < n → sIn n (txt s) w = some s := by
  intro s
  induction s with
  | least ws c =>
    intro k n w h hw hn
    have h : SnOk t 0 (.least ws c) := by cases k <;> exact h
    obtain ⟨d, r, e, h1, h2⟩ := txt_hd h
    obtain ⟨m, rfl⟩ : ∃ m, n = m + 1 := ⟨n - 1, by omega⟩
    rw [sIn_simple e h1 h2 (by omega), simpleIn_least ht ht2 h]
  | rest ws c d =>
    intro k n w h hw hn
    have h : SnOk t 0 (.rest ws c d) := by cases k <;> exact h
    obtain ⟨d, r, e, h1, h2⟩ := txt_hd h
    obtain ⟨m, rfl⟩ : ∃ m, n = m + 1 := ⟨n - 1, by omega⟩
    rw [sIn_simple e h1 h2 (by omega), simpleIn_rest ht ht2 h]
  | no s ih =>
    intro k n w h hw hn
    cases k with
    | zero => exact h.elim
    | succ k =>
      obtain ⟨m, rfl⟩ : ∃ m, n = m + 1 := ⟨n - 1, by omega⟩
      exact sIn_no (by omega) (ih k m (w + 1) h (by omega) (by omega))
  | two z a b iha ihb =>
    intro k n w h hw hn
    cases k with
    | zero => exact h.elim
    | succ k =>
      obtain ⟨m, rfl⟩ : ∃ m, n = m + 1 := ⟨n - 1, by omega⟩
      exact sIn_two (by omega) (txt_good ht (n := k) h.1) (txt_good ht (n := k) h.2) (iha k m (w + 1) h.1 (by omega) (by omega)) (ihb k m (w + 1) h.2 (by omega) (by omega))
end Cs
set_option linter.all false
set_option maxRecDepth 100000
set_option maxHeartbeats 1000000
namespace Cs
open PySem L2 Dm
/-! ### sizes -/
def Sz : Nat → Sn → Prop
  | 0, _ => False
  | _ + 1, .least ws c => ws.length ≤ 3 ∧ (∀ w ∈ ws, w.natAbs < 10000) ∧ c.natAbs < 10000
  | _ + 1, .rest ws m r => ws.length ≤ 3 ∧ (∀ w ∈ ws, w.natAbs < 10000) ∧ m.natAbs < 10000 ∧ r.natAbs < 10000
  | d + 1, .no s => Sz d s
  | d + 1, .two _ a b => Sz d a ∧ Sz d b
theorem Sz.up : ∀ {d : Nat} {s : Sn}, Sz d s → Sz (d + 1) s
  | 0, _, h => h.elim
  | _ + 1, .least _ _, h => h
  | _ + 1, .rest _ _ _, h => h
  | d + 1, .no s, h => Sz.up (d := d) (s := s) h
  | d + 1, .two _ a b, h => ⟨Sz.up (d := d) h.1, Sz.up (d := d) h.2⟩
theorem Sz.le {d e : Nat} {s : Sn} (h : Sz d s) (q : d ≤ e) : Sz e s := by
  induction q with
  | refl => exact h
  | step _ ih => exact ih.up
theorem Sz.dep : ∀ {d : Nat} {s : Sn}, Sz d s → dep s ≤ d
  | 0, _, h => h.elim
  | _ + 1, .least _ _, h => by simp [Cs.dep]
  | _ + 1, .rest _ _ _, h => by simp [Cs.dep]
  | d + 1, .no s, h => by have := Sz.dep (d := d) (s := s) h; simp [Cs.dep]; omega
  | d + 1, .two _ a b, h => by have h1 := Sz.dep (d := d) h.1; have h2 := Sz.dep (d := d) h.2; simp [Cs.dep]; omega
theorem SnOk.sz {t : Nat} (ht : t ≤ 3) : ∀ {k : Nat} {s : Sn}, SnOk t k s → Sz (k + 1) s := by
  intro k s
  induction s generalizing k with
  | least ws c =>
    intro h
    have h : WtOk t ws ∧ -4 ≤ c ∧ c ≤ 4 := by cases k <;> exact h
    exact ⟨by rw [h.1.len]; exact ht, fun w hw => by have := h.1.bd w hw; omega, by omega⟩
  | rest ws m r =>
    intro h
    have h : WtOk t ws ∧ 2 ≤ m ∧ m ≤ 5 ∧ 0 ≤ r ∧ r < m := by cases k <;> exact h
    exact ⟨by rw [h.1.len]; exact ht, fun w hw => by have := h.1.bd w hw; omega, by omega, by omega⟩
  | no s ih =>
    intro h
    cases k with
    | zero => exact h.elim
    | succ k => exact ih (k := k) h
  | two w a b iha ihb =>
    intro h
    cases k with
    | zero => exact h.elim
    | succ k => exact ⟨iha (k := k) h.1, ihb (k := k) h.2⟩
theorem nums_len {ws : List Int} (h : ws.length ≤ 3) (hb : ∀ w ∈ ws, w.natAbs < 10000) : (nums ws).length ≤ 18 := by
  have h1 := join_le "," (ws.map strI)
  have h2 : ((ws.map strI).map (·.length)).sum ≤ 5 * ws.length := by
    clear h h1
    induction ws with
    | nil => simp
    | cons w r ih =>
      have h1 := (strI_small (hb w (List.mem_cons_self ..))).2
      have h2 := ih fun i hi => hb i (List.mem_cons_of_mem _ hi)
      simp only [List.map_cons, List.sum_cons, List.length_cons]
      omega
  rw [List.length_map, comma1] at h1
  unfold nums
  omega
theorem Sz.len : ∀ {d : Nat} {s : Sn}, Sz d s → (txt s).length + 10 ≤ 60 * 2 ^ d
  | 0, _, h => h.elim
  | d + 1, .least ws c, h => by
    have h1 := nums_len h.1 h.2.1
    have h2 := (strI_small h.2.2).2
    have h3 := join_le " " [Str.ofString "least", nums ws, strI c]
    have h4 : (Str.ofString "least").length = 5 := by decide
    simp only [List.map_cons, List.map_nil, List.sum_cons, List.sum_nil, List.length_cons, List.length_nil, blank1, h4] at h3
    have h5 : 1 ≤ 2 ^ d := Nat.one_le_two_pow
    show (Txt.join " " [Str.ofString "least", nums ws, strI c]).length + 10 ≤ _
    rw [Nat.pow_succ]
    omega
  | d + 1, .rest ws m r, h => by
    have h1 := nums_len h.1 h.2.1
    have h2 := (strI_small h.2.2.1).2
    have h2' := (strI_small h.2.2.2).2
    have h3 := join_le " " [Str.ofString "rest", nums ws, strI m, strI r]
    have h4 : (Str.ofString "rest").length = 4 := by decide
    simp only [List.map_cons, List.map_nil, List.sum_cons, List.sum_nil, List.length_cons, List.length_nil, blank1, h4] at h3
    have h5 : 1 ≤ 2 ^ d := Nat.one_le_two_pow
    show (Txt.join " " [Str.ofString "rest", nums ws, strI m, strI r]).length + 10 ≤ _
    rw [Nat.pow_succ]
    omega
  | d + 1, .no s, h => by
    have h1 := Sz.len (d := d) (s := s) h
    have e : (txt (.no s)).length = (txt s).length + 4 := by rw [TL.len_tl, tl_txt_no, TL.len_tl]; rfl
    rw [Nat.pow_succ]
    omega
  | d + 1, .two w a b, h => by
    have h1 := Sz.len (d := d) h.1
    have h2 := Sz.len (d := d) h.2
    have e : (txt (.two w a b)).length = (txt a).length + (txt b).length + (wd w).length + 4 := by
      rw [TL.len_tl, tl_txt_two, TL.len_tl (txt a), TL.len_tl (txt b), TL.len_tl (wd w)]
      simp
      omega
    have e2 : (wd w).length ≤ 3 := by cases w <;> decide
    rw [Nat.pow_succ]
    omega
theorem Sz.fit : ∀ {d : Nat} {s : Sn}, d ≤ 16 → Sz d s → Fit s
  | 0, _, _, h => h.elim
  | d + 1, .least ws c, _, h => ⟨⟨fun i hi => Small.of (h.2.1 i hi), Nat.le_trans h.1 (by decide)⟩, Small.of h.2.2⟩
  | d + 1, .rest ws m r, _, h => ⟨⟨fun i hi => Small.of (h.2.1 i hi), Nat.le_trans h.1 (by decide)⟩, Small.of h.2.2.1, Small.of h.2.2.2⟩
  | d + 1, .no s, hd, h => by
    have h1 := Sz.len (d := d) (s := s) h
    have h2 : 2 ^ d ≤ 2 ^ 15 := Nat.pow_le_pow_right (by decide) (by omega)
    exact ⟨Sz.fit (d := d) (by omega) h, by omega⟩
  | d + 1, .two _ a b, hd, h => by
    have h1 := Sz.len (d := d) h.1
    have h1' := Sz.len (d := d) h.2
    have h2 : 2 ^ d ≤ 2 ^ 15 := Nat.pow_le_pow_right (by decide) (by omega)
    exact ⟨Sz.fit (d := d) (by omega) h.1, Sz.fit (d := d) (by omega) h.2, by omega, by omega⟩
theorem wd_real (w : Bool) : Real (wd w) := by
  cases w
  · show ∀ c ∈ TL.tl (Str.ofString "or"), _
    rw [tl_or]; decide
  · show ∀ c ∈ TL.tl (Str.ofString "and"), _
    rw [tl_and]; decide
theorem numC_real {c : Nat} (h : NumC c) : c < 0x110000 := by rcases h with h | h | h <;> omega
theorem txt_real : ∀ s : Sn, Real (txt s)
  | .least ws c => join_chars (a := " ") (P := fun c => c < 0x110000) (by rw [tl_blank]; decide) _ (by
    intro z hz
    simp at hz
    rcases hz with e | e | e <;> subst e
    · decide
    · exact fun c hc => numC_real (nums_chars ws c hc)
    · exact fun c hc => numC_real (strI_numC c hc))
  | .rest ws m r => join_chars (a := " ") (P := fun c => c < 0x110000) (by rw [tl_blank]; decide) _ (by
    intro z hz
    simp at hz
    rcases hz with e | e | e | e <;> subst e
    · decide
    · exact fun c hc => numC_real (nums_chars ws c hc)
    · exact fun c hc => numC_real (strI_numC c hc)
    · exact fun c hc => numC_real (strI_numC c hc))
  | .no s => by
    have := txt_real s
    intro c hc
    rw [tl_txt_no] at hc
    simp only [List.mem_cons] at hc
    rcases hc with e | e | e | e | e <;> first | omega | exact this c e
  | .two w a b => by
    have h1 := txt_real a
    have h2 := txt_real b
    intro c hc
    rw [tl_txt_two] at hc
    simp only [List.mem_cons, List.mem_append, List.not_mem_nil, or_false] at hc
    rcases hc with e | ((e | (e | (e | (e | e)))) | e)
    · omega
    · exact h1 c e
    · omega
    · exact wd_real w c e
    · omega
    · exact h2 c e
    · omega
section
variable {S : Store}
/-! ### atoms_of -/
def atoms : Sn → List Sn
  | .no s => atoms s
  | .two _ a b => atoms a ++ atoms b
  | s => [s]
theorem atoms_len : ∀ s : Sn, (atoms s).length ≤ 2 ^ dep s
  | .least _ _ => by simp [atoms, dep]
  | .rest _ _ _ => by simp [atoms, dep]
  | .no s => by have := atoms_len s; simp [atoms, dep, Nat.pow_succ]; omega
  | .two _ a b => by
    have h1 := atoms_len a
    have h2 := atoms_len b
    have h3 : 2 ^ dep a ≤ 2 ^ max (dep a) (dep b) := Nat.pow_le_pow_right (by decide) (Nat.le_max_left ..)
    have h4 : 2 ^ dep b ≤ 2 ^ max (dep a) (dep b) := Nat.pow_le_pow_right (by decide) (Nat.le_max_right ..)
    simp only [atoms, dep, Nat.pow_succ, List.length_append]
    omega
theorem in2_id {F : FnS} {x : D} {l acc : List D} {ρ : Dm.Env} (hρ : ρ[1]? = some (some x)) (h2 : 2 < ρ.length) (hF : F [x] S = some (.ok (.lst l), S)) (hl : acc.length + l.length ≤ 16777216) :
    in2 (gIt (gCall 1 F (aCons (gVar 1) (aNil)))) [2] [2] (tgN) (gYes) (gVar 2) ρ acc S = some (acc ++ l, S) := by
  have e : gIt (gCall 1 F (aCons (gVar 1) (aNil))) ρ S = some (.ok (wkC l), S) := by
    simp only [e_seq, kSeq_nx, kSeq_rt, e_next, e_if, kIf_t, kIf_f, e_ret, kRet_ok, e_drop, kDrop_ok, e_set, kSet_ok, e_asg, kAsg_ok, kAsg2_ok, e_par, kPar_ok, e_var, kVar_ok, e_c, e_okM, e_2, k2_ok, k2b_ok, e_1, k1_ok, e_b, kB_ok, e_ifE, kIfE_t, kIfE_f, e_and, kAnd_t, kAnd_f, e_or, kOr_t, kOr_f, e_not, kNot_ok, e_nil, e_cons, kA_ok, kA2_ok, e_tup, kTup_ok, e_lst, kLst_ok, e_mkF, e_mkT, e_call, kCall_ok, e_cb, kCB_ok, e_mt, kMt_ok, kMt2_ok, e_tyS, e_pNo, e_pSo, kSo_ok, e_sl, kSl_ok, kSl2_ok, kSl3_ok, e_it, kIt_tup, kIt_lst, kIt_wlst, kIt_str, e_for, kFor_ok, e_lc, kLc_ok, kLc2_ok, e_tget, kTG_ok, kTG2_ok, e_pat, e_tgN, e_tgNil, e_yes, e_endN, e_endR, e_gsub, kSub_ok, kSub2_ok, kSub3_ok, e_tr, kTr_bl, e_lcW, e_forW, List.getElem?_cons_zero, List.getElem?_cons_succ, List.set_cons_zero, List.set_cons_succ, List.length_cons, List.length_nil, if_pos, v_addI, v_sub, v_lt, v_le, v_gt, v_ge, v_eqI, v_neI, v_eqS, v_neS, Nat.reduceAdd, Nat.reduceLeDiff, Nat.reduceEqDiff, Int.reduceLT, Int.reduceLE, Int.reduceEq, Int.reduceAdd, Int.reduceSub, Int.reduceMul, Int.reduceNeg, decide_true, decide_false, Bool.not_true, Bool.not_false, Option.some.injEq, ite_true, ite_false, setA, hρ, hF]
  unfold in2
  rw [e]
  show lcW (wkC l) [2] tgN gYes (gVar 2) (wipeA ρ [2]) acc S = _
  rw [e_lcW, lc_mapG id acc (fun d _ => ⟨[d], rfl, rfl, by
    show kVar (((ρ.set 2 none).set 2 (some d))[2]?) S = _
    rw [List.getElem?_set_self (by rw [List.length_set]; exact h2)]; rfl⟩) hl, List.map_id]
theorem atoms_simple {n : Nat} {xs : List D} {w : Str} (hw : w = "least" ∨ w = "rest") : m_atoms_of (n + 1) [.tup (.str w :: xs)] S = some (.ok (.lst [.tup (.str w :: xs)]), S) := by
  show semD 1 3 (b_atoms_of (m_atoms_of n)) [.tup (.str w :: xs)] S = _
  unfold b_atoms_of
  rw [e_sem1, show startD 3 [D.tup (.str w :: xs)] = [some (.tup (.str w :: xs)), none, none] from rfl, e_seq]
  have e : (decide (("least" : Str) = w) || decide (("rest" : Str) = w)) = true := by
    rcases hw with e | e <;> subst e <;> simp
  simp only [e_seq, kSeq_nx, kSeq_rt, e_next, e_if, kIf_t, kIf_f, e_ret, kRet_ok, e_drop, kDrop_ok, e_set, kSet_ok, e_asg, kAsg_ok, kAsg2_ok, e_par, kPar_ok, e_var, kVar_ok, e_c, e_okM, e_2, k2_ok, k2b_ok, e_1, k1_ok, e_b, kB_ok, e_ifE, kIfE_t, kIfE_f, e_and, kAnd_t, kAnd_f, e_or, kOr_t, kOr_f, e_not, kNot_ok, e_nil, e_cons, kA_ok, kA2_ok, e_tup, kTup_ok, e_lst, kLst_ok, e_mkF, e_mkT, e_call, kCall_ok, e_cb, kCB_ok, e_mt, kMt_ok, kMt2_ok, e_tyS, e_pNo, e_pSo, kSo_ok, e_sl, kSl_ok, kSl2_ok, kSl3_ok, e_it, kIt_tup, kIt_lst, kIt_wlst, kIt_str, e_for, kFor_ok, e_lc, kLc_ok, kLc2_ok, e_tget, kTG_ok, kTG2_ok, e_pat, e_tgN, e_tgNil, e_yes, e_endN, e_endR, e_gsub, kSub_ok, kSub2_ok, kSub3_ok, e_tr, kTr_bl, e_lcW, e_forW, List.getElem?_cons_zero, List.getElem?_cons_succ, List.set_cons_zero, List.set_cons_succ, List.length_cons, List.length_nil, if_pos, v_addI, v_sub, v_lt, v_le, v_gt, v_ge, v_eqI, v_neI, v_eqS, v_neS, Nat.reduceAdd, Nat.reduceLeDiff, Nat.reduceEqDiff, Int.reduceLT, Int.reduceLE, Int.reduceEq, Int.reduceAdd, Int.reduceSub, Int.reduceMul, Int.reduceNeg, decide_true, decide_false, Bool.not_true, Bool.not_false, Option.some.injEq, ite_true, ite_false, setA, v_ixT0, v_in2, e]
theorem atoms_step {n : Nat} {xs : List D} {w : Str} {acc : List D} (hw : (decide (("least" : Str) = w) || decide (("rest" : Str) = w)) = false) (hs : oSl false (.tup (.str w :: xs)) (some 1) none S = some (.tup xs, S))
    (h : lc2L [1] tgN gYes (in2 (gIt (gCall 1 (m_atoms_of n) (aCons (gVar 1) (aNil)))) [2] [2] (tgN) (gYes) (gVar 2)) [some (.tup (.str w :: xs)), none, none] xs [] S = some (acc, S)) : m_atoms_of (n + 1) [.tup (.str w :: xs)] S = some (.ok (.lst acc), S) := by
  show semD 1 3 (b_atoms_of (m_atoms_of n)) [.tup (.str w :: xs)] S = _
  unfold b_atoms_of
  rw [e_sem1, show startD 3 [D.tup (.str w :: xs)] = [some (.tup (.str w :: xs)), none, none] from rfl, e_seq]
  simp only [e_seq, kSeq_nx, kSeq_rt, e_next, e_if, kIf_t, kIf_f, e_ret, kRet_ok, e_drop, kDrop_ok, e_set, kSet_ok, e_asg, kAsg_ok, kAsg2_ok, e_par, kPar_ok, e_var, kVar_ok, e_c, e_okM, e_2, k2_ok, k2b_ok, e_1, k1_ok, e_b, kB_ok, e_ifE, kIfE_t, kIfE_f, e_and, kAnd_t, kAnd_f, e_or, kOr_t, kOr_f, e_not, kNot_ok, e_nil, e_cons, kA_ok, kA2_ok, e_tup, kTup_ok, e_lst, kLst_ok, e_mkF, e_mkT, e_call, kCall_ok, e_cb, kCB_ok, e_mt, kMt_ok, kMt2_ok, e_tyS, e_pNo, e_pSo, kSo_ok, e_sl, kSl_ok, kSl2_ok, kSl3_ok, e_it, kIt_tup, kIt_lst, kIt_wlst, kIt_str, e_for, kFor_ok, e_lc, kLc_ok, kLc2_ok, e_tget, kTG_ok, kTG2_ok, e_pat, e_tgN, e_tgNil, e_yes, e_endN, e_endR, e_gsub, kSub_ok, kSub2_ok, kSub3_ok, e_tr, kTr_bl, e_lcW, e_forW, List.getElem?_cons_zero, List.getElem?_cons_succ, List.set_cons_zero, List.set_cons_succ, List.length_cons, List.length_nil, if_pos, v_addI, v_sub, v_lt, v_le, v_gt, v_ge, v_eqI, v_neI, v_eqS, v_neS, Nat.reduceAdd, Nat.reduceLeDiff, Nat.reduceEqDiff, Int.reduceLT, Int.reduceLE, Int.reduceEq, Int.reduceAdd, Int.reduceSub, Int.reduceMul, Int.reduceNeg, decide_true, decide_false, Bool.not_true, Bool.not_false, Option.some.injEq, ite_true, ite_false, setA, v_ixT0, v_in2, hw]
  rw [gLc2_ok (xs := xs) (S1 := S) (S2 := S) (acc := acc) (by simp only [e_seq, kSeq_nx, kSeq_rt, e_next, e_if, kIf_t, kIf_f, e_ret, kRet_ok, e_drop, kDrop_ok, e_set, kSet_ok, e_asg, kAsg_ok, kAsg2_ok, e_par, kPar_ok, e_var, kVar_ok, e_c, e_okM, e_2, k2_ok, k2b_ok, e_1, k1_ok, e_b, kB_ok, e_ifE, kIfE_t, kIfE_f, e_and, kAnd_t, kAnd_f, e_or, kOr_t, kOr_f, e_not, kNot_ok, e_nil, e_cons, kA_ok, kA2_ok, e_tup, kTup_ok, e_lst, kLst_ok, e_mkF, e_mkT, e_call, kCall_ok, e_cb, kCB_ok, e_mt, kMt_ok, kMt2_ok, e_tyS, e_pNo, e_pSo, kSo_ok, e_sl, kSl_ok, kSl2_ok, kSl3_ok, e_it, kIt_tup, kIt_lst, kIt_wlst, kIt_str, e_for, kFor_ok, e_lc, kLc_ok, kLc2_ok, e_tget, kTG_ok, kTG2_ok, e_pat, e_tgN, e_tgNil, e_yes, e_endN, e_endR, e_gsub, kSub_ok, kSub2_ok, kSub3_ok, e_tr, kTr_bl, e_lcW, e_forW, List.getElem?_cons_zero, List.getElem?_cons_succ, List.set_cons_zero, List.set_cons_succ, List.length_cons, List.length_nil, if_pos, v_addI, v_sub, v_lt, v_le, v_gt, v_ge, v_eqI, v_neI, v_eqS, v_neS, Nat.reduceAdd, Nat.reduceLeDiff, Nat.reduceEqDiff, Int.reduceLT, Int.reduceLE, Int.reduceEq, Int.reduceAdd, Int.reduceSub, Int.reduceMul, Int.reduceNeg, decide_true, decide_false, Bool.not_true, Bool.not_false, Option.some.injEq, ite_true, ite_false, setA, hs]) h]
  rfl
theorem atoms_ok : ∀ (s : Sn) (n : Nat), dep s ≤ n → dep s ≤ 20 → m_atoms_of n [enc s] S = some (.ok (.lst ((atoms s).map enc)), S)
  | .least _ _, 0, h, _ => by simp [dep] at h
  | .rest _ _ _, 0, h, _ => by simp [dep] at h
  | .no _, 0, h, _ => by simp [dep] at h
  | .two _ _ _, 0, h, _ => by simp [dep] at h
  | .least _ _, n + 1, h, _ => atoms_simple (.inl rfl)
  | .rest _ _ _, n + 1, h, _ => atoms_simple (.inr rfl)
  | .no s, n + 1, h, h2 => by
    have h1 : dep s ≤ n := by simp [dep] at h; omega
    have h3 : dep s ≤ 20 := by simp [dep] at h2; omega
    have ih := atoms_ok s n h1 h3
    have hl := atoms_len s
    have hp : 2 ^ dep s ≤ 2 ^ 20 := Nat.pow_le_pow_right (by decide) h3
    refine atoms_step (w := "not") (by decide) v_sl12 ?_
    have hi := in2_id (F := m_atoms_of n) (x := enc s) (acc := []) (ρ := [some (.tup [.str "not", enc s]), some (enc s), none]) rfl (by simp) ih (by rw [List.length_map]; simp; omega)
    simp only [lc2L, e_seq, kSeq_nx, kSeq_rt, e_next, e_if, kIf_t, kIf_f, e_ret, kRet_ok, e_drop, kDrop_ok, e_set, kSet_ok, e_asg, kAsg_ok, kAsg2_ok, e_par, kPar_ok, e_var, kVar_ok, e_c, e_okM, e_2, k2_ok, k2b_ok, e_1, k1_ok, e_b, kB_ok, e_ifE, kIfE_t, kIfE_f, e_and, kAnd_t, kAnd_f, e_or, kOr_t, kOr_f, e_not, kNot_ok, e_nil, e_cons, kA_ok, kA2_ok, e_tup, kTup_ok, e_lst, kLst_ok, e_mkF, e_mkT, e_call, kCall_ok, e_cb, kCB_ok, e_mt, kMt_ok, kMt2_ok, e_tyS, e_pNo, e_pSo, kSo_ok, e_sl, kSl_ok, kSl2_ok, kSl3_ok, e_it, kIt_tup, kIt_lst, kIt_wlst, kIt_str, e_for, kFor_ok, e_lc, kLc_ok, kLc2_ok, e_tget, kTG_ok, kTG2_ok, e_pat, e_tgN, e_tgNil, e_yes, e_endN, e_endR, e_gsub, kSub_ok, kSub2_ok, kSub3_ok, e_tr, kTr_bl, e_lcW, e_forW, List.getElem?_cons_zero, List.getElem?_cons_succ, List.set_cons_zero, List.set_cons_succ, List.length_cons, List.length_nil, if_pos, v_addI, v_sub, v_lt, v_le, v_gt, v_ge, v_eqI, v_neI, v_eqS, v_neS, Nat.reduceAdd, Nat.reduceLeDiff, Nat.reduceEqDiff, Int.reduceLT, Int.reduceLE, Int.reduceEq, Int.reduceAdd, Int.reduceSub, Int.reduceMul, Int.reduceNeg, decide_true, decide_false, Bool.not_true, Bool.not_false, Option.some.injEq, ite_true, ite_false, setA, hi]
    rfl
  | .two w a b, n + 1, h, h2 => by
    have h1 : dep a ≤ n ∧ dep b ≤ n := by simp [dep] at h; omega
    have h3 : dep a ≤ 19 ∧ dep b ≤ 19 := by simp [dep] at h2; omega
    have iha := atoms_ok a n h1.1 (by omega)
    have ihb := atoms_ok b n h1.2 (by omega)
    have hla := atoms_len a
    have hlb := atoms_len b
    have hpa : 2 ^ dep a ≤ 2 ^ 19 := Nat.pow_le_pow_right (by decide) h3.1
    have hpb : 2 ^ dep b ≤ 2 ^ 19 := Nat.pow_le_pow_right (by decide) h3.2
    refine atoms_step (w := wd w) (by cases w <;> decide) v_sl13 ?_
    have hi := in2_id (F := m_atoms_of n) (x := enc a) (acc := []) (ρ := [some (.tup [.str (wd w), enc a, enc b]), some (enc a), none]) rfl (by simp) iha (by rw [List.length_map]; simp; omega)
    have hi2 := in2_id (F := m_atoms_of n) (x := enc b) (acc := (atoms a).map enc) (ρ := [some (.tup [.str (wd w), enc a, enc b]), some (enc b), none]) rfl (by simp) ihb (by rw [List.length_map, List.length_map]; omega)
    simp only [lc2L, e_seq, kSeq_nx, kSeq_rt, e_next, e_if, kIf_t, kIf_f, e_ret, kRet_ok, e_drop, kDrop_ok, e_set, kSet_ok, e_asg, kAsg_ok, kAsg2_ok, e_par, kPar_ok, e_var, kVar_ok, e_c, e_okM, e_2, k2_ok, k2b_ok, e_1, k1_ok, e_b, kB_ok, e_ifE, kIfE_t, kIfE_f, e_and, kAnd_t, kAnd_f, e_or, kOr_t, kOr_f, e_not, kNot_ok, e_nil, e_cons, kA_ok, kA2_ok, e_tup, kTup_ok, e_lst, kLst_ok, e_mkF, e_mkT, e_call, kCall_ok, e_cb, kCB_ok, e_mt, kMt_ok, kMt2_ok, e_tyS, e_pNo, e_pSo, kSo_ok, e_sl, kSl_ok, kSl2_ok, kSl3_ok, e_it, kIt_tup, kIt_lst, kIt_wlst, kIt_str, e_for, kFor_ok, e_lc, kLc_ok, kLc2_ok, e_tget, kTG_ok, kTG2_ok, e_pat, e_tgN, e_tgNil, e_yes, e_endN, e_endR, e_gsub, kSub_ok, kSub2_ok, kSub3_ok, e_tr, kTr_bl, e_lcW, e_forW, List.getElem?_cons_zero, List.getElem?_cons_succ, List.set_cons_zero, List.set_cons_succ, List.length_cons, List.length_nil, if_pos, v_addI, v_sub, v_lt, v_le, v_gt, v_ge, v_eqI, v_neI, v_eqS, v_neS, Nat.reduceAdd, Nat.reduceLeDiff, Nat.reduceEqDiff, Int.reduceLT, Int.reduceLE, Int.reduceEq, Int.reduceAdd, Int.reduceSub, Int.reduceMul, Int.reduceNeg, decide_true, decide_false, Bool.not_true, Bool.not_false, Option.some.injEq, ite_true, ite_false, setA, hi, List.nil_append, hi2]
    simp [atoms]
/-! ### read_sentence -/
def wts : Sn → List Int
  | .least ws _ => ws
  | .rest ws _ _ => ws
  | .no s => wts s
  | .two _ a _ => wts a
theorem atoms_wt {t : Nat} : ∀ {k : Nat} {s : Sn}, SnOk t k s → ∀ a ∈ atoms s, SnOk t 0 a := by
  intro k s
  induction s generalizing k with
  | least ws c => intro h a ha; simp [atoms] at ha; subst ha; cases k <;> exact h
  | rest ws m r => intro h a ha; simp [atoms] at ha; subst ha; cases k <;> exact h
  | no s ih =>
    intro h
    cases k with
    | zero => exact h.elim
    | succ k => exact ih (k := k) h
  | two w a b iha ihb =>
    intro h
    cases k with
    | zero => exact h.elim
    | succ k =>
      intro c hc
      rcases List.mem_append.mp (show c ∈ atoms a ++ atoms b from hc) with q | q
      · exact iha (k := k) h.1 c q
      · exact ihb (k := k) h.2 c q
theorem enc_ix1 {t : Nat} {a : Sn} (h : SnOk t 0 a) : ∃ ws : List Int, ws.length = t ∧ oIx (enc a) (.int 1) S = some (.tup (ws.map D.int), S) := by
  cases a with
  | least ws c => exact ⟨ws, h.1.len, v_ixT1⟩
  | rest ws m r => exact ⟨ws, h.1.len, v_ixT1⟩
  | no s => exact h.elim
  | two w a b => exact h.elim
theorem sc_same {t k : Nat} {ρ0 : Dm.Env} (hk : k < ρ0.length) : ∀ (l : List Sn) (ks : List Key), (∀ a ∈ l, SnOk t 0 a) → (ks = [] ∨ ks = [.inl (t : Int)]) → ∃ ks', scL [k] tgN gYes (gCB oLen (aCons (g2 oIx (gVar k) (gC (.int 1))) aNil)) ρ0 (l.map enc) ks S = some (ks', S) ∧ ks'.length ≤ 1
  | [], ks, _, hks => ⟨ks, rfl, by rcases hks with e | e <;> subst e <;> simp⟩
  | a :: l, ks, h, hks => by
    obtain ⟨ws, hl, e⟩ := enc_ix1 (S := S) (h a (List.mem_cons_self ..))
    have e0 : (ρ0.set k (some (enc a)))[k]? = some (some (enc a)) := List.getElem?_set_self hk
    have el : gCB oLen (aCons (g2 oIx (gVar k) (gC (.int 1))) aNil) (setA ρ0 [k] [enc a]) S = some (.ok (.int (t : Int)), S) := by
      simp only [e_seq, kSeq_nx, kSeq_rt, e_next, e_if, kIf_t, kIf_f, e_ret, kRet_ok, e_drop, kDrop_ok, e_set, kSet_ok, e_asg, kAsg_ok, kAsg2_ok, e_par, kPar_ok, e_var, kVar_ok, e_c, e_okM, e_2, k2_ok, k2b_ok, e_1, k1_ok, e_b, kB_ok, e_ifE, kIfE_t, kIfE_f, e_and, kAnd_t, kAnd_f, e_or, kOr_t, kOr_f, e_not, kNot_ok, e_nil, e_cons, kA_ok, kA2_ok, e_tup, kTup_ok, e_lst, kLst_ok, e_mkF, e_mkT, e_call, kCall_ok, e_cb, kCB_ok, e_mt, kMt_ok, kMt2_ok, e_tyS, e_pNo, e_pSo, kSo_ok, e_sl, kSl_ok, kSl2_ok, kSl3_ok, e_it, kIt_tup, kIt_lst, kIt_wlst, kIt_str, e_for, kFor_ok, e_lc, kLc_ok, kLc2_ok, e_tget, kTG_ok, kTG2_ok, e_pat, e_tgN, e_tgNil, e_yes, e_endN, e_endR, e_gsub, kSub_ok, kSub2_ok, kSub3_ok, e_tr, kTr_bl, e_lcW, e_forW, List.getElem?_cons_zero, List.getElem?_cons_succ, List.set_cons_zero, List.set_cons_succ, List.length_cons, List.length_nil, if_pos, v_addI, v_sub, v_lt, v_le, v_gt, v_ge, v_eqI, v_neI, v_eqS, v_neS, Nat.reduceAdd, Nat.reduceLeDiff, Nat.reduceEqDiff, Int.reduceLT, Int.reduceLE, Int.reduceEq, Int.reduceAdd, Int.reduceSub, Int.reduceMul, Int.reduceNeg, decide_true, decide_false, Bool.not_true, Bool.not_false, Option.some.injEq, ite_true, ite_false, setA, e0, e, v_lenT, List.length_map, hl]
    have hadd : addKey ks (.inl (t : Int)) = [.inl (t : Int)] := by
      rcases hks with e | e <;> subst e
      · rfl
      · unfold addKey
        rw [if_pos (by simp [memS])]
    obtain ⟨ks', h1, h2⟩ := sc_same hk l [.inl (t : Int)] (fun b hb => h b (List.mem_cons_of_mem _ hb)) (.inr rfl)
    refine ⟨ks', ?_, h2⟩
    have hs : ks.length + 1 < scanBound := by
      have : ks.length ≤ 1 := by rcases hks with e | e <;> subst e <;> simp
      have : 1000 ≤ scanBound := by decide
      omega
    rw [List.map_cons, scL_cons (ds := [enc a]) (S1 := S) (S2 := S) (S3 := S) (y := .int t) (kk := .inl (t : Int)) rfl rfl el rfl hs, hadd, h1]
theorem read_ok {t k : Nat} {s : Sn} (ht : 1 ≤ t) (ht2 : t ≤ 3) (hk : k ≤ 2) (h : SnOk t k s) : m_read_sentence [.str (txt s)] S = some (.ok (enc s), S) := by
  have hz := h.sz ht2
  have hlen := hz.len
  have hp : 2 ^ (k + 1) ≤ 2 ^ 3 := Nat.pow_le_pow_right (by decide) (by omega)
  have hd := hz.dep
  have e1 : m_sentence_in 40 [.str (txt s), .int 0] S = some (.ok (enc s), S) := by
    have := sentence_in_ok (S := S) 40 (txt s) 0 (txt_real s) (by omega) (by omega) (by omega)
    rw [sIn_txt ht ht2 s k 40 0 h (by omega) (by omega)] at this
    exact this
  have e2 := atoms_ok (S := S) s 40 (by omega) (by omega)
  obtain ⟨ks, e3, e4⟩ := sc_same (S := S) (t := t) (k := 2) (ρ0 := [some (.str (txt s)), some (enc s), none]) (by simp) (atoms s) [] (atoms_wt h) (.inl rfl)
  have e5 : gLenSc (gIt (gCall 1 (m_atoms_of 40) (aCons (gVar 1) (aNil)))) [2] [2] tgN (gYes) (gCB oLen (aCons (g2 oIx (gVar 2) (gC (.int 1))) (aNil))) [some (.str (txt s)), some (enc s), none] S = some (.ok (.int (ks.length : Nat)), S) :=
    gLenSc_ok (xs := (atoms s).map enc) (by simp only [e_seq, kSeq_nx, kSeq_rt, e_next, e_if, kIf_t, kIf_f, e_ret, kRet_ok, e_drop, kDrop_ok, e_set, kSet_ok, e_asg, kAsg_ok, kAsg2_ok, e_par, kPar_ok, e_var, kVar_ok, e_c, e_okM, e_2, k2_ok, k2b_ok, e_1, k1_ok, e_b, kB_ok, e_ifE, kIfE_t, kIfE_f, e_and, kAnd_t, kAnd_f, e_or, kOr_t, kOr_f, e_not, kNot_ok, e_nil, e_cons, kA_ok, kA2_ok, e_tup, kTup_ok, e_lst, kLst_ok, e_mkF, e_mkT, e_call, kCall_ok, e_cb, kCB_ok, e_mt, kMt_ok, kMt2_ok, e_tyS, e_pNo, e_pSo, kSo_ok, e_sl, kSl_ok, kSl2_ok, kSl3_ok, e_it, kIt_tup, kIt_lst, kIt_wlst, kIt_str, e_for, kFor_ok, e_lc, kLc_ok, kLc2_ok, e_tget, kTG_ok, kTG2_ok, e_pat, e_tgN, e_tgNil, e_yes, e_endN, e_endR, e_gsub, kSub_ok, kSub2_ok, kSub3_ok, e_tr, kTr_bl, e_lcW, e_forW, List.getElem?_cons_zero, List.getElem?_cons_succ, List.set_cons_zero, List.set_cons_succ, List.length_cons, List.length_nil, if_pos, v_addI, v_sub, v_lt, v_le, v_gt, v_ge, v_eqI, v_neI, v_eqS, v_neS, Nat.reduceAdd, Nat.reduceLeDiff, Nat.reduceEqDiff, Int.reduceLT, Int.reduceLE, Int.reduceEq, Int.reduceAdd, Int.reduceSub, Int.reduceMul, Int.reduceNeg, decide_true, decide_false, Bool.not_true, Bool.not_false, Option.some.injEq, ite_true, ite_false, setA, e2]) e3
  unfold m_read_sentence b_read_sentence
  rw [e_sem1, show startD 3 [D.str (txt s)] = [some (.str (txt s)), none, none] from rfl, e_seq]
  simp only [e_seq, kSeq_nx, kSeq_rt, e_next, e_if, kIf_t, kIf_f, e_ret, kRet_ok, e_drop, kDrop_ok, e_set, kSet_ok, e_asg, kAsg_ok, kAsg2_ok, e_par, kPar_ok, e_var, kVar_ok, e_c, e_okM, e_2, k2_ok, k2b_ok, e_1, k1_ok, e_b, kB_ok, e_ifE, kIfE_t, kIfE_f, e_and, kAnd_t, kAnd_f, e_or, kOr_t, kOr_f, e_not, kNot_ok, e_nil, e_cons, kA_ok, kA2_ok, e_tup, kTup_ok, e_lst, kLst_ok, e_mkF, e_mkT, e_call, kCall_ok, e_cb, kCB_ok, e_mt, kMt_ok, kMt2_ok, e_tyS, e_pNo, e_pSo, kSo_ok, e_sl, kSl_ok, kSl2_ok, kSl3_ok, e_it, kIt_tup, kIt_lst, kIt_wlst, kIt_str, e_for, kFor_ok, e_lc, kLc_ok, kLc2_ok, e_tget, kTG_ok, kTG2_ok, e_pat, e_tgN, e_tgNil, e_yes, e_endN, e_endR, e_gsub, kSub_ok, kSub2_ok, kSub3_ok, e_tr, kTr_bl, e_lcW, e_forW, List.getElem?_cons_zero, List.getElem?_cons_succ, List.set_cons_zero, List.set_cons_succ, List.length_cons, List.length_nil, if_pos, v_addI, v_sub, v_lt, v_le, v_gt, v_ge, v_eqI, v_neI, v_eqS, v_neS, Nat.reduceAdd, Nat.reduceLeDiff, Nat.reduceEqDiff, Int.reduceLT, Int.reduceLE, Int.reduceEq, Int.reduceAdd, Int.reduceSub, Int.reduceMul, Int.reduceNeg, decide_true, decide_false, Bool.not_true, Bool.not_false, Option.some.injEq, ite_true, ite_false, setA, e1, enc_isN, e5, decide_eq_false (show ¬ (1 : Int) < (ks.length : Nat) by omega)]
end
end Cs
set_option linter.all false
set_option maxRecDepth 100000
set_option maxHeartbeats 1000000
namespace Cs
open PySem L2 Dm
section
variable {S : Store}
/-! ### common_part: the greatest common part -/
theorem gcd_loop : ∀ (b a : Nat), fWhile (gB (g2 (oNe) (gVar 1) (gC (.int 0)))) (fPar 0 1 (aCons (gVar 1) (aCons (g2 (oMod) (gVar 0) (gVar 1)) (aNil)))) [some (.int (a : Nat)), some (.int (b : Nat))] S = some (.nx [some (.int (Nat.gcd a b : Nat)), some (.int 0)], S) := by
  intro b
  induction b using Nat.strongRecOn with
  | ind b ih =>
    intro a
    rw [e_while]
    by_cases hb : b = 0
    · subst hb
      simp only [e_seq, kSeq_nx, kSeq_rt, e_next, e_if, kIf_t, kIf_f, e_ret, kRet_ok, e_drop, kDrop_ok, e_set, kSet_ok, e_asg, kAsg_ok, kAsg2_ok, e_par, kPar_ok, e_var, kVar_ok, e_c, e_okM, e_2, k2_ok, k2b_ok, e_1, k1_ok, e_b, kB_ok, e_ifE, kIfE_t, kIfE_f, e_and, kAnd_t, kAnd_f, e_or, kOr_t, kOr_f, e_not, kNot_ok, e_nil, e_cons, kA_ok, kA2_ok, e_tup, kTup_ok, e_lst, kLst_ok, e_mkF, e_mkT, e_call, kCall_ok, e_cb, kCB_ok, e_mt, kMt_ok, kMt2_ok, e_tyS, e_pNo, e_pSo, kSo_ok, e_sl, kSl_ok, kSl2_ok, kSl3_ok, e_it, kIt_tup, kIt_lst, kIt_wlst, kIt_str, e_for, kFor_ok, e_lc, kLc_ok, kLc2_ok, e_tget, kTG_ok, kTG2_ok, e_pat, e_tgN, e_tgNil, e_yes, e_endN, e_endR, e_gsub, kSub_ok, kSub2_ok, kSub3_ok, e_tr, kTr_bl, e_lcW, e_forW, List.getElem?_cons_zero, List.getElem?_cons_succ, List.set_cons_zero, List.set_cons_succ, List.length_cons, List.length_nil, if_pos, v_addI, v_sub, v_lt, v_le, v_gt, v_ge, v_eqI, v_neI, v_eqS, v_neS, Nat.reduceAdd, Nat.reduceLeDiff, Nat.reduceEqDiff, Int.reduceLT, Int.reduceLE, Int.reduceEq, Int.reduceAdd, Int.reduceSub, Int.reduceMul, Int.reduceNeg, decide_true, decide_false, Bool.not_true, Bool.not_false, Option.some.injEq, ite_true, ite_false, setA, Int.natCast_zero, kWh_f, Nat.gcd_zero_right]
    · have hm : oMod (.int (a : Nat)) (.int (b : Nat)) S = some (.int ((a % b : Nat) : Int), S) := by
        rw [v_modP (by omega)]; simp
      simp only [e_seq, kSeq_nx, kSeq_rt, e_next, e_if, kIf_t, kIf_f, e_ret, kRet_ok, e_drop, kDrop_ok, e_set, kSet_ok, e_asg, kAsg_ok, kAsg2_ok, e_par, kPar_ok, e_var, kVar_ok, e_c, e_okM, e_2, k2_ok, k2b_ok, e_1, k1_ok, e_b, kB_ok, e_ifE, kIfE_t, kIfE_f, e_and, kAnd_t, kAnd_f, e_or, kOr_t, kOr_f, e_not, kNot_ok, e_nil, e_cons, kA_ok, kA2_ok, e_tup, kTup_ok, e_lst, kLst_ok, e_mkF, e_mkT, e_call, kCall_ok, e_cb, kCB_ok, e_mt, kMt_ok, kMt2_ok, e_tyS, e_pNo, e_pSo, kSo_ok, e_sl, kSl_ok, kSl2_ok, kSl3_ok, e_it, kIt_tup, kIt_lst, kIt_wlst, kIt_str, e_for, kFor_ok, e_lc, kLc_ok, kLc2_ok, e_tget, kTG_ok, kTG2_ok, e_pat, e_tgN, e_tgNil, e_yes, e_endN, e_endR, e_gsub, kSub_ok, kSub2_ok, kSub3_ok, e_tr, kTr_bl, e_lcW, e_forW, List.getElem?_cons_zero, List.getElem?_cons_succ, List.set_cons_zero, List.set_cons_succ, List.length_cons, List.length_nil, if_pos, v_addI, v_sub, v_lt, v_le, v_gt, v_ge, v_eqI, v_neI, v_eqS, v_neS, Nat.reduceAdd, Nat.reduceLeDiff, Nat.reduceEqDiff, Int.reduceLT, Int.reduceLE, Int.reduceEq, Int.reduceAdd, Int.reduceSub, Int.reduceMul, Int.reduceNeg, decide_true, decide_false, Bool.not_true, Bool.not_false, Option.some.injEq, ite_true, ite_false, setA, decide_eq_false (show ¬ ((b : Nat) : Int) = 0 by omega), kWh_t, hm, kLoop_nx]
      rw [ih (a % b) (Nat.mod_lt _ (by omega)) b, Nat.gcd_comm a b, Nat.gcd_rec b a, Nat.gcd_comm]
theorem common_ok {i j : Int} : m_common_part [.int i, .int j] S = some (.ok (.int (Nat.gcd i.natAbs j.natAbs : Nat)), S) := by
  unfold m_common_part b_common_part
  rw [e_sem2, show startD 2 [D.int i, D.int j] = [some (.int i), some (.int j)] from rfl, e_seq]
  simp only [e_seq, kSeq_nx, kSeq_rt, e_next, e_if, kIf_t, kIf_f, e_ret, kRet_ok, e_drop, kDrop_ok, e_set, kSet_ok, e_asg, kAsg_ok, kAsg2_ok, e_par, kPar_ok, e_var, kVar_ok, e_c, e_okM, e_2, k2_ok, k2b_ok, e_1, k1_ok, e_b, kB_ok, e_ifE, kIfE_t, kIfE_f, e_and, kAnd_t, kAnd_f, e_or, kOr_t, kOr_f, e_not, kNot_ok, e_nil, e_cons, kA_ok, kA2_ok, e_tup, kTup_ok, e_lst, kLst_ok, e_mkF, e_mkT, e_call, kCall_ok, e_cb, kCB_ok, e_mt, kMt_ok, kMt2_ok, e_tyS, e_pNo, e_pSo, kSo_ok, e_sl, kSl_ok, kSl2_ok, kSl3_ok, e_it, kIt_tup, kIt_lst, kIt_wlst, kIt_str, e_for, kFor_ok, e_lc, kLc_ok, kLc2_ok, e_tget, kTG_ok, kTG2_ok, e_pat, e_tgN, e_tgNil, e_yes, e_endN, e_endR, e_gsub, kSub_ok, kSub2_ok, kSub3_ok, e_tr, kTr_bl, e_lcW, e_forW, List.getElem?_cons_zero, List.getElem?_cons_succ, List.set_cons_zero, List.set_cons_succ, List.length_cons, List.length_nil, if_pos, v_addI, v_sub, v_lt, v_le, v_gt, v_ge, v_eqI, v_neI, v_eqS, v_neS, Nat.reduceAdd, Nat.reduceLeDiff, Nat.reduceEqDiff, Int.reduceLT, Int.reduceLE, Int.reduceEq, Int.reduceAdd, Int.reduceSub, Int.reduceMul, Int.reduceNeg, decide_true, decide_false, Bool.not_true, Bool.not_false, Option.some.injEq, ite_true, ite_false, setA, v_absI, gcd_loop]
/-! ### wheel_of -/
theorem star0 {bx : Bool} {g : List D → Store → Option (List D × Store)} {ws : List Int} {w : Int} : tgStar false 2 0 g (.tup ((ws ++ [w]).map D.int)) S = g [.lst (ws.map D.int), .int w] S := by
  unfold tgStar
  rw [v_sqAT]
  dsimp only
  rw [if_pos (by simp)]
  simp only [List.map_append, List.map_cons, List.map_nil, List.length_append, List.length_map, List.length_cons, List.length_nil, List.take_zero, List.drop_zero, List.nil_append]
  have e : ws.length + (0 + 1) + 1 - 2 = (ws.map D.int).length := by rw [List.length_map]; omega
  rw [e, List.take_left, List.drop_left]
  rfl
theorem star0' {ws : List Int} {w : Int} : tgStar false 2 0 (tgCons tgN (tgCons tgN tgNil)) (.tup ((ws ++ [w]).map D.int)) S = some ([.lst (ws.map D.int), .int w], S) := by
  rw [star0 (bx := false)]; rfl
theorem wheel_turn {i v : Int} {a : Sn} {e2 e3 e4 e5 x : Option D} (h : SnOk t 0 a) (ht : 1 ≤ t) (hv : 1 ≤ v ∧ v ≤ 1000) : ∃ v' e3' e4' e5', 1 ≤ v' ∧ v' ≤ v * 5 ∧
    fIf (gB (g2 (oEq) (g2 oIx (gVar 2) (gC (.int 0))) (gC (.str "rest"))))
    (fSeq (fAsg (g2 oIx (gVar 2) (gC (.int 1))) (gPat [5, 4] (tgStar false 2 0 (tgCons (tgN) (tgCons (tgN) (tgNil))))))
    (fSeq (fSet 3 (g2 (oDiv) (g2 oIx (gVar 2) (gC (.int 2))) (gCall 2 m_common_part (aCons (g2 oIx (gVar 2) (gC (.int 2))) (aCons (gVar 4) (aNil))))))
    (fSet 1 (g2 (oDiv) (g2 (oMul false) (gVar 1) (gVar 3)) (gCall 2 m_common_part (aCons (gVar 1) (aCons (gVar 3) (aNil))))))))
    (fNext) [x, some (.int v), some (enc a), e3, e4, e5] S = some (.nx [x, some (.int v'), some (enc a), e3', e4', e5'], S) := by
  cases a with
  | least ws c =>
    refine ⟨v, e3, e4, e5, hv.1, by omega, ?_⟩
    simp only [e_seq, kSeq_nx, kSeq_rt, e_next, e_if, kIf_t, kIf_f, e_ret, kRet_ok, e_drop, kDrop_ok, e_set, kSet_ok, e_asg, kAsg_ok, kAsg2_ok, e_par, kPar_ok, e_var, kVar_ok, e_c, e_okM, e_2, k2_ok, k2b_ok, e_1, k1_ok, e_b, kB_ok, e_ifE, kIfE_t, kIfE_f, e_and, kAnd_t, kAnd_f, e_or, kOr_t, kOr_f, e_not, kNot_ok, e_nil, e_cons, kA_ok, kA2_ok, e_tup, kTup_ok, e_lst, kLst_ok, e_mkF, e_mkT, e_call, kCall_ok, e_cb, kCB_ok, e_mt, kMt_ok, kMt2_ok, e_tyS, e_pNo, e_pSo, kSo_ok, e_sl, kSl_ok, kSl2_ok, kSl3_ok, e_it, kIt_tup, kIt_lst, kIt_wlst, kIt_str, e_for, kFor_ok, e_lc, kLc_ok, kLc2_ok, e_tget, kTG_ok, kTG2_ok, e_pat, e_tgN, e_tgNil, e_yes, e_endN, e_endR, e_gsub, kSub_ok, kSub2_ok, kSub3_ok, e_tr, kTr_bl, e_lcW, e_forW, List.getElem?_cons_zero, List.getElem?_cons_succ, List.set_cons_zero, List.set_cons_succ, List.length_cons, List.length_nil, if_pos, v_addI, v_sub, v_lt, v_le, v_gt, v_ge, v_eqI, v_neI, v_eqS, v_neS, Nat.reduceAdd, Nat.reduceLeDiff, Nat.reduceEqDiff, Int.reduceLT, Int.reduceLE, Int.reduceEq, Int.reduceAdd, Int.reduceSub, Int.reduceMul, Int.reduceNeg, decide_true, decide_false, Bool.not_true, Bool.not_false, Option.some.injEq, ite_true, ite_false, setA, enc, v_ixT0, w12, decide_false]
  | rest ws m r =>
    obtain ⟨⟨hl, hb⟩, m1, m2, r1, r2⟩ := h
    obtain ⟨fore, last, rfl⟩ : ∃ f l, ws = f ++ [l] := by
      rcases List.eq_nil_or_concat ws with e | ⟨f, l, e⟩
      · subst e; simp at hl; omega
      · exact ⟨f, l, by rw [e]; simp⟩
    have q1 : 1 ≤ Nat.gcd m.natAbs last.natAbs := Nat.gcd_pos_of_pos_left _ (by omega)
    have q2 : Nat.gcd m.natAbs last.natAbs ≤ m.natAbs := Nat.gcd_le_left _ (by omega)
    generalize hg : Nat.gcd m.natAbs last.natAbs = g at q1 q2
    have o1 : 1 ≤ m / (g : Int) := Int.le_ediv_of_mul_le (by omega) (by omega)
    have o2 : m / (g : Int) ≤ 5 := Int.le_trans (Int.ediv_le_self _ (by omega)) m2
    have d1 : oDiv (.int m) (.int (g : Nat)) S = some (.int (m / (g : Int)), S) := v_divP (by omega) (by omega)
    generalize m / (g : Int) = o at o1 o2 d1
    have h1 : 1 ≤ Nat.gcd v.natAbs o.natAbs := Nat.gcd_pos_of_pos_left _ (by omega)
    have h2 : Nat.gcd v.natAbs o.natAbs ≤ v.natAbs := Nat.gcd_le_left _ (by omega)
    generalize hh : Nat.gcd v.natAbs o.natAbs = k at h1 h2
    have d2 : oDiv (.int (v * o)) (.int (k : Nat)) S = some (.int (v * o / (k : Int)), S) := v_divP (by omega) (by omega)
    have b1 : 0 ≤ v * o := Int.mul_nonneg (by omega) (by omega)
    have b2 : v * o ≤ v * 5 := Int.mul_le_mul_of_nonneg_left o2 (by omega)
    have b3 : v ≤ v * o := by
      have := Int.mul_le_mul_of_nonneg_left o1 (show 0 ≤ v by omega)
      rwa [Int.mul_one] at this
    refine ⟨v * o / (k : Int), some (.int o), some (.int last), some (.lst (fore.map D.int)), Int.le_ediv_of_mul_le (by omega) (by omega), Int.le_trans (Int.ediv_le_self _ b1) b2, ?_⟩
    have mu : oMul false (.int v) (.int o) S = some (.int (v * o), S) := v_mulN (by omega)
    simp only [e_seq, kSeq_nx, kSeq_rt, e_next, e_if, kIf_t, kIf_f, e_ret, kRet_ok, e_drop, kDrop_ok, e_set, kSet_ok, e_asg, kAsg_ok, kAsg2_ok, e_par, kPar_ok, e_var, kVar_ok, e_c, e_okM, e_2, k2_ok, k2b_ok, e_1, k1_ok, e_b, kB_ok, e_ifE, kIfE_t, kIfE_f, e_and, kAnd_t, kAnd_f, e_or, kOr_t, kOr_f, e_not, kNot_ok, e_nil, e_cons, kA_ok, kA2_ok, e_tup, kTup_ok, e_lst, kLst_ok, e_mkF, e_mkT, e_call, kCall_ok, e_cb, kCB_ok, e_mt, kMt_ok, kMt2_ok, e_tyS, e_pNo, e_pSo, kSo_ok, e_sl, kSl_ok, kSl2_ok, kSl3_ok, e_it, kIt_tup, kIt_lst, kIt_wlst, kIt_str, e_for, kFor_ok, e_lc, kLc_ok, kLc2_ok, e_tget, kTG_ok, kTG2_ok, e_pat, e_tgN, e_tgNil, e_yes, e_endN, e_endR, e_gsub, kSub_ok, kSub2_ok, kSub3_ok, e_tr, kTr_bl, e_lcW, e_forW, List.getElem?_cons_zero, List.getElem?_cons_succ, List.set_cons_zero, List.set_cons_succ, List.length_cons, List.length_nil, if_pos, v_addI, v_sub, v_lt, v_le, v_gt, v_ge, v_eqI, v_neI, v_eqS, v_neS, Nat.reduceAdd, Nat.reduceLeDiff, Nat.reduceEqDiff, Int.reduceLT, Int.reduceLE, Int.reduceEq, Int.reduceAdd, Int.reduceSub, Int.reduceMul, Int.reduceNeg, decide_true, decide_false, Bool.not_true, Bool.not_false, Option.some.injEq, ite_true, ite_false, setA, enc, v_ixT0, v_ixT1, v_ixT2, star0', common_ok, hg, d1, mu, hh, d2]
  | no s => exact h.elim
  | two w a b => exact h.elim
theorem wheel_ok {s : Sn} (hs : ∀ a ∈ atoms s, SnOk t 0 a) (ht : 1 ≤ t) (hn : (atoms s).length ≤ 4) (hd : dep s ≤ 20) : ∃ v : Int, 1 ≤ v ∧ v ≤ 5 ^ (atoms s).length ∧ m_wheel_of [enc s] S = some (.ok (.int v), S) := by
  have loop : ∀ (l : List Sn) (v : Int) (e2 e3 e4 e5 : Option D) (x : Option D), (∀ a ∈ l, SnOk t 0 a) → 1 ≤ v → v * 5 ^ l.length ≤ 5 ^ 4 → ∃ v' e2' e3' e4' e5', 1 ≤ v' ∧ v' ≤ v * 5 ^ l.length ∧
      fForL (gPat [2] tgN) (fIf (gB (g2 (oEq) (g2 oIx (gVar 2) (gC (.int 0))) (gC (.str "rest"))))
    (fSeq (fAsg (g2 oIx (gVar 2) (gC (.int 1))) (gPat [5, 4] (tgStar false 2 0 (tgCons (tgN) (tgCons (tgN) (tgNil))))))
    (fSeq (fSet 3 (g2 (oDiv) (g2 oIx (gVar 2) (gC (.int 2))) (gCall 2 m_common_part (aCons (g2 oIx (gVar 2) (gC (.int 2))) (aCons (gVar 4) (aNil))))))
    (fSet 1 (g2 (oDiv) (g2 (oMul false) (gVar 1) (gVar 3)) (gCall 2 m_common_part (aCons (gVar 1) (aCons (gVar 3) (aNil))))))))
    (fNext)) (l.map enc) [x, some (.int v), e2, e3, e4, e5] S = some (.nx [x, some (.int v'), e2', e3', e4', e5'], S) := by
    intro l
    induction l with
    | nil => intro v e2 e3 e4 e5 x _ h1 _; exact ⟨v, e2, e3, e4, e5, h1, by simp, rfl⟩
    | cons a l ih =>
      intro v e2 e3 e4 e5 x hl h1 h2
      have p1 : (1 : Int) ≤ 5 ^ l.length := by
        have : (1 : Nat) ≤ 5 ^ l.length := Nat.one_le_pow _ _ (by decide)
        exact_mod_cast this
      rw [List.length_cons, Int.pow_succ, Int.mul_comm (5 ^ l.length) 5, ← Int.mul_assoc] at h2
      have h3 : v * 5 ≤ v * 5 * 5 ^ l.length := by
        have := Int.mul_le_mul_of_nonneg_left p1 (show 0 ≤ v * 5 by omega)
        rwa [Int.mul_one] at this
      have h625 : (5 : Int) ^ 4 = 625 := by decide
      obtain ⟨v', e3', e4', e5', k1, k2, k3⟩ := wheel_turn (S := S) (i := 0) (v := v) (a := a) (e2 := e2) (e3 := e3) (e4 := e4) (e5 := e5) (x := x) (hl a (List.mem_cons_self ..)) ht ⟨h1, by omega⟩
      have h4 : v' * 5 ^ l.length ≤ v * 5 * 5 ^ l.length := Int.mul_le_mul_of_nonneg_right k2 (by omega)
      obtain ⟨w, f2, f3, f4, f5, j1, j2, j3⟩ := ih v' (some (enc a)) e3' e4' e5' x (fun b hb => hl b (List.mem_cons_of_mem _ hb)) k1 (Int.le_trans h4 h2)
      refine ⟨w, f2, f3, f4, f5, j1, ?_, ?_⟩
      · rw [List.length_cons, Int.pow_succ, Int.mul_comm (5 ^ l.length) 5, ← Int.mul_assoc]
        exact Int.le_trans j2 h4
      · rw [List.map_cons, e_forL]
        simp only [e_pat, e_tgN, setA, List.set_cons_succ, List.set_cons_zero, kForT_ok]
        rw [k3, kLoop_nx, j3]
  have p4 : (1 : Int) * 5 ^ (atoms s).length ≤ 5 ^ 4 := by
    have : 5 ^ (atoms s).length ≤ 5 ^ 4 := Nat.pow_le_pow_right (by decide) hn
    rw [Int.one_mul]
    exact_mod_cast this
  obtain ⟨v', e2, e3, e4, e5, h1, h2, h3⟩ := loop (atoms s) 1 none none none none (some (enc s)) hs (by decide) p4
  refine ⟨v', h1, by rw [Int.one_mul] at h2; exact h2, ?_⟩
  unfold m_wheel_of b_wheel_of
  rw [e_sem1, show startD 6 [enc s] = [some (enc s), none, none, none, none, none] from rfl, e_seq]
  have ha := atoms_ok (S := S) s 40 (by omega) hd
  simp only [e_set, e_c, kSet_ok, kSeq_nx, List.set_cons_succ, List.set_cons_zero, e_seq, e_for, e_it, e_call, e_cons, e_var, List.getElem?_cons_zero, kVar_ok, kA_ok, e_nil, kA2_ok, kCall_ok, List.length_cons, List.length_nil, Nat.reduceAdd, if_pos, ha, kIt_lst, kFor_ok, e_forW, h3, e_ret, List.getElem?_cons_succ, kRet_ok, e_endR]
end
end Cs
set_option linter.all false
set_option maxRecDepth 100000
set_option maxHeartbeats 1000000
namespace Cs
open PySem L2 Dm
section
variable {S : Store}
/-! ### many_of -/
theorem many_ok : ∀ (s : Sn), m_many_of [enc s] S = some (.ok (.int ((wts s).length : Nat)), S) := by
  have loop : ∀ s : Sn, ∃ a : Sn, (∃ ws : List Int, oIx (enc a) (.int 1) S = some (.tup (ws.map D.int), S) ∧ ws.length = (wts s).length) ∧ fWhile (gB (g2 (oNotInA) (g2 oIx (gVar 0) (gC (.int 0))) (gTup (aCons (gC (.str "least")) (aCons (gC (.str "rest")) (aNil))))))
      (fSet 0 (g2 oIx (gVar 0) (gC (.int 1)))) [some (enc s)] S = some (.nx [some (enc a)], S) := by
    intro s
    induction s with
    | least ws c =>
      refine ⟨.least ws c, ⟨ws, v_ixT1, rfl⟩, ?_⟩
      rw [e_while]
      simp only [e_seq, kSeq_nx, kSeq_rt, e_next, e_if, kIf_t, kIf_f, e_ret, kRet_ok, e_drop, kDrop_ok, e_set, kSet_ok, e_asg, kAsg_ok, kAsg2_ok, e_par, kPar_ok, e_var, kVar_ok, e_c, e_okM, e_2, k2_ok, k2b_ok, e_1, k1_ok, e_b, kB_ok, e_ifE, kIfE_t, kIfE_f, e_and, kAnd_t, kAnd_f, e_or, kOr_t, kOr_f, e_not, kNot_ok, e_nil, e_cons, kA_ok, kA2_ok, e_tup, kTup_ok, e_lst, kLst_ok, e_mkF, e_mkT, e_call, kCall_ok, e_cb, kCB_ok, e_mt, kMt_ok, kMt2_ok, e_tyS, e_pNo, e_pSo, kSo_ok, e_sl, kSl_ok, kSl2_ok, kSl3_ok, e_it, kIt_tup, kIt_lst, kIt_wlst, kIt_str, e_for, kFor_ok, e_lc, kLc_ok, kLc2_ok, e_tget, kTG_ok, kTG2_ok, e_pat, e_tgN, e_tgNil, e_yes, e_endN, e_endR, e_gsub, kSub_ok, kSub2_ok, kSub3_ok, e_tr, kTr_bl, e_lcW, e_forW, List.getElem?_cons_zero, List.getElem?_cons_succ, List.set_cons_zero, List.set_cons_succ, List.length_cons, List.length_nil, if_pos, v_addI, v_sub, v_lt, v_le, v_gt, v_ge, v_eqI, v_neI, v_eqS, v_neS, Nat.reduceAdd, Nat.reduceLeDiff, Nat.reduceEqDiff, Int.reduceLT, Int.reduceLE, Int.reduceEq, Int.reduceAdd, Int.reduceSub, Int.reduceMul, Int.reduceNeg, decide_true, decide_false, Bool.not_true, Bool.not_false, Option.some.injEq, ite_true, ite_false, setA, enc, v_ixT0, v_notIn2, decide_true, Bool.true_or, kWh_f]
    | rest ws m r =>
      refine ⟨.rest ws m r, ⟨ws, v_ixT1, rfl⟩, ?_⟩
      rw [e_while]
      simp only [e_seq, kSeq_nx, kSeq_rt, e_next, e_if, kIf_t, kIf_f, e_ret, kRet_ok, e_drop, kDrop_ok, e_set, kSet_ok, e_asg, kAsg_ok, kAsg2_ok, e_par, kPar_ok, e_var, kVar_ok, e_c, e_okM, e_2, k2_ok, k2b_ok, e_1, k1_ok, e_b, kB_ok, e_ifE, kIfE_t, kIfE_f, e_and, kAnd_t, kAnd_f, e_or, kOr_t, kOr_f, e_not, kNot_ok, e_nil, e_cons, kA_ok, kA2_ok, e_tup, kTup_ok, e_lst, kLst_ok, e_mkF, e_mkT, e_call, kCall_ok, e_cb, kCB_ok, e_mt, kMt_ok, kMt2_ok, e_tyS, e_pNo, e_pSo, kSo_ok, e_sl, kSl_ok, kSl2_ok, kSl3_ok, e_it, kIt_tup, kIt_lst, kIt_wlst, kIt_str, e_for, kFor_ok, e_lc, kLc_ok, kLc2_ok, e_tget, kTG_ok, kTG2_ok, e_pat, e_tgN, e_tgNil, e_yes, e_endN, e_endR, e_gsub, kSub_ok, kSub2_ok, kSub3_ok, e_tr, kTr_bl, e_lcW, e_forW, List.getElem?_cons_zero, List.getElem?_cons_succ, List.set_cons_zero, List.set_cons_succ, List.length_cons, List.length_nil, if_pos, v_addI, v_sub, v_lt, v_le, v_gt, v_ge, v_eqI, v_neI, v_eqS, v_neS, Nat.reduceAdd, Nat.reduceLeDiff, Nat.reduceEqDiff, Int.reduceLT, Int.reduceLE, Int.reduceEq, Int.reduceAdd, Int.reduceSub, Int.reduceMul, Int.reduceNeg, decide_true, decide_false, Bool.not_true, Bool.not_false, Option.some.injEq, ite_true, ite_false, setA, enc, v_ixT0, v_notIn2, decide_true, Bool.or_true, kWh_f]
    | no s ih =>
      obtain ⟨a, h1, h2⟩ := ih
      refine ⟨a, h1, ?_⟩
      rw [e_while]
      have e : (decide (("least" : Str) = "not") || decide (("rest" : Str) = "not")) = false := by decide
      simp only [e_seq, kSeq_nx, kSeq_rt, e_next, e_if, kIf_t, kIf_f, e_ret, kRet_ok, e_drop, kDrop_ok, e_set, kSet_ok, e_asg, kAsg_ok, kAsg2_ok, e_par, kPar_ok, e_var, kVar_ok, e_c, e_okM, e_2, k2_ok, k2b_ok, e_1, k1_ok, e_b, kB_ok, e_ifE, kIfE_t, kIfE_f, e_and, kAnd_t, kAnd_f, e_or, kOr_t, kOr_f, e_not, kNot_ok, e_nil, e_cons, kA_ok, kA2_ok, e_tup, kTup_ok, e_lst, kLst_ok, e_mkF, e_mkT, e_call, kCall_ok, e_cb, kCB_ok, e_mt, kMt_ok, kMt2_ok, e_tyS, e_pNo, e_pSo, kSo_ok, e_sl, kSl_ok, kSl2_ok, kSl3_ok, e_it, kIt_tup, kIt_lst, kIt_wlst, kIt_str, e_for, kFor_ok, e_lc, kLc_ok, kLc2_ok, e_tget, kTG_ok, kTG2_ok, e_pat, e_tgN, e_tgNil, e_yes, e_endN, e_endR, e_gsub, kSub_ok, kSub2_ok, kSub3_ok, e_tr, kTr_bl, e_lcW, e_forW, List.getElem?_cons_zero, List.getElem?_cons_succ, List.set_cons_zero, List.set_cons_succ, List.length_cons, List.length_nil, if_pos, v_addI, v_sub, v_lt, v_le, v_gt, v_ge, v_eqI, v_neI, v_eqS, v_neS, Nat.reduceAdd, Nat.reduceLeDiff, Nat.reduceEqDiff, Int.reduceLT, Int.reduceLE, Int.reduceEq, Int.reduceAdd, Int.reduceSub, Int.reduceMul, Int.reduceNeg, decide_true, decide_false, Bool.not_true, Bool.not_false, Option.some.injEq, ite_true, ite_false, setA, enc, v_ixT0, v_ixT1, v_notIn2, e, kWh_t, kLoop_nx, h2]
    | two w a b iha ihb =>
      obtain ⟨c, h1, h2⟩ := iha
      refine ⟨c, h1, ?_⟩
      rw [e_while]
      have e : (decide (("least" : Str) = wd w) || decide (("rest" : Str) = wd w)) = false := by cases w <;> decide
      simp only [e_seq, kSeq_nx, kSeq_rt, e_next, e_if, kIf_t, kIf_f, e_ret, kRet_ok, e_drop, kDrop_ok, e_set, kSet_ok, e_asg, kAsg_ok, kAsg2_ok, e_par, kPar_ok, e_var, kVar_ok, e_c, e_okM, e_2, k2_ok, k2b_ok, e_1, k1_ok, e_b, kB_ok, e_ifE, kIfE_t, kIfE_f, e_and, kAnd_t, kAnd_f, e_or, kOr_t, kOr_f, e_not, kNot_ok, e_nil, e_cons, kA_ok, kA2_ok, e_tup, kTup_ok, e_lst, kLst_ok, e_mkF, e_mkT, e_call, kCall_ok, e_cb, kCB_ok, e_mt, kMt_ok, kMt2_ok, e_tyS, e_pNo, e_pSo, kSo_ok, e_sl, kSl_ok, kSl2_ok, kSl3_ok, e_it, kIt_tup, kIt_lst, kIt_wlst, kIt_str, e_for, kFor_ok, e_lc, kLc_ok, kLc2_ok, e_tget, kTG_ok, kTG2_ok, e_pat, e_tgN, e_tgNil, e_yes, e_endN, e_endR, e_gsub, kSub_ok, kSub2_ok, kSub3_ok, e_tr, kTr_bl, e_lcW, e_forW, List.getElem?_cons_zero, List.getElem?_cons_succ, List.set_cons_zero, List.set_cons_succ, List.length_cons, List.length_nil, if_pos, v_addI, v_sub, v_lt, v_le, v_gt, v_ge, v_eqI, v_neI, v_eqS, v_neS, Nat.reduceAdd, Nat.reduceLeDiff, Nat.reduceEqDiff, Int.reduceLT, Int.reduceLE, Int.reduceEq, Int.reduceAdd, Int.reduceSub, Int.reduceMul, Int.reduceNeg, decide_true, decide_false, Bool.not_true, Bool.not_false, Option.some.injEq, ite_true, ite_false, setA, enc, v_ixT0, v_ixT1, v_notIn2, e, kWh_t, kLoop_nx, h2]
  intro s
  obtain ⟨a, ⟨ws, h1, h2⟩, h3⟩ := loop s
  unfold m_many_of b_many_of
  rw [e_sem1, show startD 1 [enc s] = [some (enc s)] from rfl, e_seq]
  simp only [e_seq, kSeq_nx, kSeq_rt, e_next, e_if, kIf_t, kIf_f, e_ret, kRet_ok, e_drop, kDrop_ok, e_set, kSet_ok, e_asg, kAsg_ok, kAsg2_ok, e_par, kPar_ok, e_var, kVar_ok, e_c, e_okM, e_2, k2_ok, k2b_ok, e_1, k1_ok, e_b, kB_ok, e_ifE, kIfE_t, kIfE_f, e_and, kAnd_t, kAnd_f, e_or, kOr_t, kOr_f, e_not, kNot_ok, e_nil, e_cons, kA_ok, kA2_ok, e_tup, kTup_ok, e_lst, kLst_ok, e_mkF, e_mkT, e_call, kCall_ok, e_cb, kCB_ok, e_mt, kMt_ok, kMt2_ok, e_tyS, e_pNo, e_pSo, kSo_ok, e_sl, kSl_ok, kSl2_ok, kSl3_ok, e_it, kIt_tup, kIt_lst, kIt_wlst, kIt_str, e_for, kFor_ok, e_lc, kLc_ok, kLc2_ok, e_tget, kTG_ok, kTG2_ok, e_pat, e_tgN, e_tgNil, e_yes, e_endN, e_endR, e_gsub, kSub_ok, kSub2_ok, kSub3_ok, e_tr, kTr_bl, e_lcW, e_forW, List.getElem?_cons_zero, List.getElem?_cons_succ, List.set_cons_zero, List.set_cons_succ, List.length_cons, List.length_nil, if_pos, v_addI, v_sub, v_lt, v_le, v_gt, v_ge, v_eqI, v_neI, v_eqS, v_neS, Nat.reduceAdd, Nat.reduceLeDiff, Nat.reduceEqDiff, Int.reduceLT, Int.reduceLE, Int.reduceEq, Int.reduceAdd, Int.reduceSub, Int.reduceMul, Int.reduceNeg, decide_true, decide_false, Bool.not_true, Bool.not_false, Option.some.injEq, ite_true, ite_false, setA, h3, h1, v_lenT, List.length_map, h2]
/-! ### Put -/
def putC (sl : List Int) (st pt : Int) : Cell := .ins "Put" [("slopes", .tup (sl.map D.int)), ("start", .int st), ("parts", .int pt)]
variable {sl : List Int} {st pt : Int} {i : Nat}
theorem put_init : m_Put___init__ [.box S.length, .tup (sl.map D.int), .int st, .int pt] (S ++ [.ins "Put" []]) = some (.ok .non, S ++ [putC sl st pt]) := by
  unfold m_Put___init__ b_Put___init__
  rw [e_sem4, show ∀ a b c d : D, startD 4 [a, b, c, d] = [some a, some b, some c, some d] from fun _ _ _ _ => rfl, e_seq]
  have h1 : (S ++ [Cell.ins "Put" []])[S.length]? = some (.ins "Put" []) := get_push
  simp only [e_seq, e_ffld, e_var, List.getElem?_cons_zero, List.getElem?_cons_succ, kVar_ok, kFS_ok]
  rw [v_put1 h1 (by simp), kSeq_nx]
  simp only [e_seq, e_ffld, e_var, List.getElem?_cons_zero, List.getElem?_cons_succ, kVar_ok, kFS_ok]
  rw [v_put1 (get_set h1) (by simp [putD]), kSeq_nx]
  simp only [e_seq, e_ffld, e_var, List.getElem?_cons_zero, List.getElem?_cons_succ, kVar_ok, kFS_ok]
  rw [v_put1 (get_set (get_set h1)) (by simp [putD]; split <;> simp), e_endN, List.set_set, List.set_set]
  congr 2
  rw [List.set_append_right _ _ (Nat.le_refl _), Nat.sub_self]
  rfl
theorem put_make : mkI "Put" 4 m_Put___init__ [.tup (sl.map D.int), .int st, .int pt] S = some (.ok (.box S.length), S ++ [putC sl st pt]) := mkI_ok rfl put_init
theorem fld_slopes {ρ : Dm.Env} (h : S[i]? = some (putC sl st pt)) (e : ρ[0]? = some (some (.box i))) : gFld ["Put"] "slopes" (gVar 0) ρ S = some (.ok (.tup (sl.map D.int)), S) := by
  rw [e_fld, e_var, e, kVar_ok]; exact v_fld1 h rfl
theorem fld_start {ρ : Dm.Env} (h : S[i]? = some (putC sl st pt)) (e : ρ[0]? = some (some (.box i))) : gFld ["Put"] "start" (gVar 0) ρ S = some (.ok (.int st), S) := by
  rw [e_fld, e_var, e, kVar_ok]; exact v_fld1 h rfl
theorem fld_parts {ρ : Dm.Env} (h : S[i]? = some (putC sl st pt)) (e : ρ[0]? = some (some (.box i))) : gFld ["Put"] "parts" (gVar 0) ρ S = some (.ok (.int pt), S) := by
  rw [e_fld, e_var, e, kVar_ok]; exact v_fld1 h rfl
def wIn (sl : List Int) (pt last : Int) (fore : List Int) : List Int := (fore.zip sl).map fun p => pt * p.1 + last * p.2
theorem wIn_len {fore : List Int} {last : Int} (h : fore.length = sl.length) : (wIn sl pt last fore).length = fore.length := by
  unfold wIn; rw [List.length_map, List.length_zip, ← h, Nat.min_self]
structure PutOk (t : Nat) (sl : List Int) (st pt : Int) : Prop where
  len : sl.length + 1 = t
  bd : ∀ w ∈ sl, -3 ≤ w ∧ w ≤ 3
  st0 : -1000 ≤ st ∧ st ≤ 1000
  pt0 : 1 ≤ pt ∧ pt ≤ 3
theorem mul_bd {a b A B : Int} (ha : -A ≤ a ∧ a ≤ A) (hb : -B ≤ b ∧ b ≤ B) : -(A * B) ≤ a * b ∧ a * b ≤ A * B := by
  have hA : 0 ≤ A := by omega
  have hB : 0 ≤ B := by omega
  have h1 : a.natAbs ≤ A.natAbs := by omega
  have h2 : b.natAbs ≤ B.natAbs := by omega
  have h3 : (a * b).natAbs ≤ (A * B).natAbs := by
    rw [Int.natAbs_mul, Int.natAbs_mul]; exact Nat.mul_le_mul h1 h2
  have h4 : 0 ≤ A * B := Int.mul_nonneg hA hB
  omega
theorem wIn_bd {t : Nat} {fore : List Int} {last : Int} (P : PutOk t sl st pt) (hf : ∀ w ∈ fore, -3 ≤ w ∧ w ≤ 3) (hl : -3 ≤ last ∧ last ≤ 3) : ∀ w ∈ wIn sl pt last fore, w.natAbs < 10000 := by
  intro w hw
  obtain ⟨⟨a, b⟩, hm, rfl⟩ := List.mem_map.mp hw
  have ha := hf a (List.of_mem_zip hm).1
  have hb := P.bd b (List.of_mem_zip hm).2
  have h1 := mul_bd (a := pt) (b := a) (A := 3) (B := 3) (by have := P.pt0; omega) ha
  have h2 := mul_bd (a := last) (b := b) (A := 3) (B := 3) hl hb
  show (pt * a + last * b).natAbs < 10000
  omega
theorem weights_in_ok {t : Nat} {fore : List Int} {last : Int} (hi : S[i]? = some (putC sl st pt)) (P : PutOk t sl st pt) (hlen : fore.length = sl.length) (ht : t ≤ 1000) (hf : ∀ w ∈ fore, -3 ≤ w ∧ w ≤ 3) (hl : -3 ≤ last ∧ last ≤ 3) :
    m_Put_weights_in [.box i, .tup ((fore ++ [last]).map D.int)] S = some (.ok (.tup ((wIn sl pt last fore).map D.int)), S) := by
  unfold m_Put_weights_in b_Put_weights_in
  rw [e_sem2, show ∀ a b : D, startD 6 [a, b] = [some a, some b, none, none, none, none] from fun _ _ => rfl, e_seq]
  simp only [e_asg, e_var, List.getElem?_cons_zero, List.getElem?_cons_succ, kVar_ok, kAsg_ok, e_pat, star0', setA, List.set_cons_succ, List.set_cons_zero, kAsg2_ok, kSeq_nx]
  generalize hρ : ([some (D.box i), some (D.tup ((fore ++ [last]).map D.int)), some (D.int last), some (D.lst (fore.map D.int)), none, none] : Dm.Env) = ρ
  have e0 : ρ[0]? = some (some (.box i)) := by rw [← hρ]; rfl
  have e3 : ρ[3]? = some (some (.lst (fore.map D.int))) := by rw [← hρ]; rfl
  have hz : kZip true (some (.ok [.lst (fore.map D.int), .tup (sl.map D.int)], S)) = some (.ok (wkC (zipD (fore.map D.int) (sl.map D.int))), S) := by
    rw [kZip_lt, wkZ_t (fun _ => rfl) (fun _ => rfl) (by rw [List.length_map, List.length_map, hlen])]
  have hzip : zipD (fore.map D.int) (sl.map D.int) = (fore.zip sl).map fun p => D.tup [.int p.1, .int p.2] := by
    unfold zipD
    rw [List.zip_map, List.map_map]
    rfl
  have hw : wipeA ρ [4, 5] = ρ := by rw [← hρ]; rfl
  have hc := lc_mapG (ns := [4, 5]) (pf := tgTup 2 (tgCons tgN (tgCons tgN tgNil))) (t := gYes) (el := g2 (oAdd false) (g2 (oMul false) (gFld ["Put"] "parts" (gVar 0)) (gVar 4)) (g2 (oMul false) (gVar 2) (gVar 5))) (ρ0 := ρ) (S := S)
    (fun d => match d with
      | .tup [.int a, .int b] => .int (pt * a + last * b)
      | d => d) (xs := (fore.zip sl).map fun p => D.tup [.int p.1, .int p.2]) [] (fun d hd => by
        obtain ⟨⟨a, b⟩, hm, rfl⟩ := List.mem_map.mp hd
        refine ⟨[.int a, .int b], rfl, rfl, ?_⟩
        have f0 : (setA ρ [4, 5] [.int a, .int b])[0]? = some (some (.box i)) := by rw [← hρ]; rfl
        have f2 : (setA ρ [4, 5] [.int a, .int b])[2]? = some (some (.int last)) := by rw [← hρ]; rfl
        have f4 : (setA ρ [4, 5] [.int a, .int b])[4]? = some (some (.int a)) := by rw [← hρ]; rfl
        have f5 : (setA ρ [4, 5] [.int a, .int b])[5]? = some (some (.int b)) := by rw [← hρ]; rfl
        have m1 : oMul false (.int pt) (.int a) S = some (.int (pt * a), S) := v_mulN (by have := P.pt0; omega)
        have m2 : oMul false (.int last) (.int b) S = some (.int (last * b), S) := v_mulN (by omega)
        simp only [e_2, e_var, fld_parts hi f0, f2, f4, f5, kVar_ok, k2_ok, k2b_ok, m1, m2, e_okM, v_addI]) (by rw [List.length_map, List.length_zip]; have := P.len; simp; omega)
  simp only [e_ret, e_cb, e_cons, e_lc, e_zip, e_var, e3, kVar_ok, kA_ok, fld_slopes hi e0, e_nil, kA2_ok, hz, kLc_ok, hw, hzip, e_lcW, hc, kLc2_ok, e_mkF, e_okM, List.nil_append, kCB_ok, v_tupL, kRet_ok, e_endR]
  congr 4
  unfold wIn
  rw [List.map_map, List.map_map]
  rfl
/-! ### into -/
def intoS (sl : List Int) (st pt : Int) : Sn → Sn
  | .least ws c => .least (wIn sl pt (ws.getLastD 0) ws.dropLast) (pt * c - ws.getLastD 0 * st)
  | .rest ws m r => .rest (wIn sl pt (ws.getLastD 0) ws.dropLast) (pt * m) ((pt * r - ws.getLastD 0 * st) % (pt * m))
  | .no s => .no (intoS sl st pt s)
  | .two w a b => .two w (intoS sl st pt a) (intoS sl st pt b)
theorem split_last {t : Nat} {ws : List Int} (h : WtOk t ws) (ht : 1 ≤ t) : ∃ fore last, ws = fore ++ [last] ∧ ws.getLastD 0 = last ∧ ws.dropLast = fore ∧ fore.length + 1 = t ∧ (∀ w ∈ fore, -3 ≤ w ∧ w ≤ 3) ∧ -3 ≤ last ∧ last ≤ 3 := by
  rcases List.eq_nil_or_concat ws with e | ⟨f, l, e⟩
  · subst e; have := h.len; simp at this; omega
  · have e : ws = f ++ [l] := by rw [e]; simp
    subst e
    refine ⟨f, l, rfl, by simp, by simp, by have := h.len; simpa using this, fun w hw => h.bd w (by simp [hw]), ?_⟩
    have := h.bd l (by simp)
    exact this
theorem atI_last {α : Type} {xs : List α} {x : α} : atI (xs ++ [x]) (-1) = some x := by
  unfold atI ixN
  rw [if_neg (by decide), if_pos (by rw [List.length_append, List.length_singleton]; omega), Option.bind_some]
  have : ((-1 : Int) + ((xs ++ [x]).length : Int)).toNat = xs.length := by rw [List.length_append, List.length_singleton]; omega
  rw [this]; simp
theorem ix_last {fore : List Int} {last : Int} : oIx (.tup ((fore ++ [last]).map D.int)) (.int (-1)) S = some (.int last, S) := by
  rw [List.map_append]
  exact v_ixT atI_last
theorem into_sz {t : Nat} (ht : 1 ≤ t ∧ t ≤ 4) (P : PutOk t sl st pt) : ∀ {k : Nat} {s : Sn}, SnOk t k s → Sz (k + 1) (intoS sl st pt s) := by
  intro k s
  induction s generalizing k with
  | least ws c =>
    intro h
    have h : WtOk t ws ∧ -4 ≤ c ∧ c ≤ 4 := by cases k <;> exact h
    obtain ⟨fore, last, rfl, e1, e2, hl, hf, hb1, hb2⟩ := split_last h.1 ht.1
    have hp := P.pt0
    have hs := P.st0
    have h1 := mul_bd (a := pt) (b := c) (A := 3) (B := 4) (by omega) h.2
    have h2 := mul_bd (a := last) (b := st) (A := 3) (B := 1000) ⟨hb1, hb2⟩ hs
    have hlen := P.len
    refine ⟨?_, ?_, ?_⟩
    · rw [e1, e2, wIn_len (by omega)]; omega
    · rw [e1, e2]; exact wIn_bd P hf ⟨hb1, hb2⟩
    · rw [e1]; omega
  | rest ws m r =>
    intro h
    have h : WtOk t ws ∧ 2 ≤ m ∧ m ≤ 5 ∧ 0 ≤ r ∧ r < m := by cases k <;> exact h
    obtain ⟨fore, last, rfl, e1, e2, hl, hf, hb1, hb2⟩ := split_last h.1 ht.1
    have hp := P.pt0
    have hs := P.st0
    have h1 := mul_bd (a := pt) (b := m) (A := 3) (B := 5) (by omega) (by omega)
    have h3 : 0 < pt * m := Int.mul_pos (by omega) (by omega)
    have h4 := Int.emod_nonneg (pt * r - last * st) (show pt * m ≠ 0 by omega)
    have h5 := Int.emod_lt_of_pos (pt * r - last * st) h3
    have hlen := P.len
    refine ⟨?_, ?_, ?_, ?_⟩
    · rw [e1, e2, wIn_len (by omega)]; omega
    · rw [e1, e2]; exact wIn_bd P hf ⟨hb1, hb2⟩
    · omega
    · rw [e1]; omega
  | no s ih =>
    intro h
    cases k with
    | zero => exact h.elim
    | succ k => exact ih (k := k) h
  | two w a b iha ihb =>
    intro h
    cases k with
    | zero => exact h.elim
    | succ k => exact ⟨iha (k := k) h.1, ihb (k := k) h.2⟩
theorem star1 {x : D} {xs : List D} : tgStar false 2 1 (tgCons tgN (tgCons tgN tgNil)) (.tup (x :: xs)) S = some ([x, .lst xs], S) := by
  have e1 : List.take xs.length xs = xs := List.take_length
  have e2 : List.drop xs.length xs = [] := List.drop_length
  simp [tgStar, tgCons, e1, e2]
theorem mth_w (hi : S[i]? = some (putC sl st pt)) {h : AM} {ρ : Dm.Env} : kMeth [("Put", 2, m_Put_weights_in, [])] "weights_in" h ρ (some (.ok (.box i), S)) = kMeth2 2 m_Put_weights_in [] (.box i) (h ρ S) := v_meth1 hi rfl
theorem mth_i {F : FnS} (hi : S[i]? = some (putC sl st pt)) {h : AM} {ρ : Dm.Env} : kMeth [("Put", 2, F, [])] "into" h ρ (some (.ok (.box i), S)) = kMeth2 2 F [] (.box i) (h ρ S) := v_meth1 hi rfl
theorem mth_2 {F : FnS} {x y : D} : kMeth2 2 F [] x (some (.ok [y], S)) = F [x, y] S := kMeth2_ok (dd := []) rfl
theorem into_least {t : Nat} {F : FnS} {ws : List Int} {c : Int} (hi : S[i]? = some (putC sl st pt)) (P : PutOk t sl st pt) (ht : 1 ≤ t ∧ t ≤ 4) (h : WtOk t ws) (hc : -4 ≤ c ∧ c ≤ 4) :
    semD 2 10 (b_Put_into F) [.box i, enc (.least ws c)] S = some (.ok (enc (intoS sl st pt (.least ws c))), S) := by
  obtain ⟨fore, last, rfl, e1, e2, hl, hf, hb⟩ := split_last h ht.1
  have hp := P.pt0
  have hs := P.st0
  have hlen := P.len
  have hw := weights_in_ok hi P (fore := fore) (last := last) (by omega) (by omega) hf hb
  have m1 : oMul false (.int pt) (.int c) S = some (.int (pt * c), S) := v_mulN (by omega)
  have m2 : oMul false (.int last) (.int st) S = some (.int (last * st), S) := v_mulN (by omega)
  have hx := ix_last (S := S) (fore := fore) (last := last)
  unfold b_Put_into
  rw [e_sem2, show ∀ a b : D, startD 10 [a, b] = [some a, some b, none, none, none, none, none, none, none, none] from fun _ _ => rfl, e_seq]
  have ht2 : ∀ x y : D, tgTup 2 (tgCons tgN (tgCons tgN tgNil)) (.lst [x, y]) S = some ([x, y], S) := fun _ _ => rfl
  have hfs : ∀ {ρ : Dm.Env}, ρ[0]? = some (some (.box i)) → gFld ["Put"] "start" (gVar 0) ρ S = some (.ok (.int st), S) := fun e => fld_start hi e
  have hfp : ∀ {ρ : Dm.Env}, ρ[0]? = some (some (.box i)) → gFld ["Put"] "parts" (gVar 0) ρ S = some (.ok (.int pt), S) := fun e => fld_parts hi e
  simp only [e_seq, kSeq_nx, kSeq_rt, e_next, e_if, kIf_t, kIf_f, e_ret, kRet_ok, e_drop, kDrop_ok, e_set, kSet_ok, e_asg, kAsg_ok, kAsg2_ok, e_par, kPar_ok, e_var, kVar_ok, e_c, e_okM, e_2, k2_ok, k2b_ok, e_1, k1_ok, e_b, kB_ok, e_ifE, kIfE_t, kIfE_f, e_and, kAnd_t, kAnd_f, e_or, kOr_t, kOr_f, e_not, kNot_ok, e_nil, e_cons, kA_ok, kA2_ok, e_tup, kTup_ok, e_lst, kLst_ok, e_mkF, e_mkT, e_call, kCall_ok, e_cb, kCB_ok, e_mt, kMt_ok, kMt2_ok, e_tyS, e_pNo, e_pSo, kSo_ok, e_sl, kSl_ok, kSl2_ok, kSl3_ok, e_it, kIt_tup, kIt_lst, kIt_wlst, kIt_str, e_for, kFor_ok, e_lc, kLc_ok, kLc2_ok, e_tget, kTG_ok, kTG2_ok, e_pat, e_tgN, e_tgNil, e_yes, e_endN, e_endR, e_gsub, kSub_ok, kSub2_ok, kSub3_ok, e_tr, kTr_bl, e_lcW, e_forW, List.getElem?_cons_zero, List.getElem?_cons_succ, List.set_cons_zero, List.set_cons_succ, List.length_cons, List.length_nil, if_pos, v_addI, v_sub, v_lt, v_le, v_gt, v_ge, v_eqI, v_neI, v_eqS, v_neS, Nat.reduceAdd, Nat.reduceLeDiff, Nat.reduceEqDiff, Int.reduceLT, Int.reduceLE, Int.reduceEq, Int.reduceAdd, Int.reduceSub, Int.reduceMul, Int.reduceNeg, decide_true, decide_false, Bool.not_true, Bool.not_false, Option.some.injEq, ite_true, ite_false, setA, enc, star1, ht2, e_meth, mth_w hi, mth_2, hw, v_neg, hx, hfs (ρ := some (D.box i) :: _) rfl, hfp (ρ := some (D.box i) :: _) rfl, m1, m2]
  rw [intoS, e1, e2, enc]
theorem into_rest {t : Nat} {F : FnS} {ws : List Int} {m r : Int} (hi : S[i]? = some (putC sl st pt)) (P : PutOk t sl st pt) (ht : 1 ≤ t ∧ t ≤ 4) (h : WtOk t ws) (hm : 2 ≤ m ∧ m ≤ 5) (hr : 0 ≤ r ∧ r < m) :
    semD 2 10 (b_Put_into F) [.box i, enc (.rest ws m r)] S = some (.ok (enc (intoS sl st pt (.rest ws m r))), S) := by
  obtain ⟨fore, last, rfl, e1, e2, hl, hf, hb⟩ := split_last h ht.1
  have hp := P.pt0
  have hs := P.st0
  have hlen := P.len
  have hw := weights_in_ok hi P (fore := fore) (last := last) (by omega) (by omega) hf hb
  have m1 : oMul false (.int pt) (.int m) S = some (.int (pt * m), S) := v_mulN (by omega)
  have m3 : oMul false (.int pt) (.int r) S = some (.int (pt * r), S) := v_mulN (by omega)
  have m2 : oMul false (.int last) (.int st) S = some (.int (last * st), S) := v_mulN (by omega)
  have h3 : 0 < pt * m := Int.mul_pos (by omega) (by omega)
  have m4 : oMod (.int (pt * r - last * st)) (.int (pt * m)) S = some (.int ((pt * r - last * st) % (pt * m)), S) := v_modP h3
  have hx := ix_last (S := S) (fore := fore) (last := last)
  unfold b_Put_into
  rw [e_sem2, show ∀ a b : D, startD 10 [a, b] = [some a, some b, none, none, none, none, none, none, none, none] from fun _ _ => rfl, e_seq]
  have ht2 : ∀ x y z : D, tgTup 3 (tgCons tgN (tgCons tgN (tgCons tgN tgNil))) (.lst [x, y, z]) S = some ([x, y, z], S) := fun _ _ _ => rfl
  have hfs : ∀ {ρ : Dm.Env}, ρ[0]? = some (some (.box i)) → gFld ["Put"] "start" (gVar 0) ρ S = some (.ok (.int st), S) := fun e => fld_start hi e
  have hfp : ∀ {ρ : Dm.Env}, ρ[0]? = some (some (.box i)) → gFld ["Put"] "parts" (gVar 0) ρ S = some (.ok (.int pt), S) := fun e => fld_parts hi e
  simp only [e_seq, kSeq_nx, kSeq_rt, e_next, e_if, kIf_t, kIf_f, e_ret, kRet_ok, e_drop, kDrop_ok, e_set, kSet_ok, e_asg, kAsg_ok, kAsg2_ok, e_par, kPar_ok, e_var, kVar_ok, e_c, e_okM, e_2, k2_ok, k2b_ok, e_1, k1_ok, e_b, kB_ok, e_ifE, kIfE_t, kIfE_f, e_and, kAnd_t, kAnd_f, e_or, kOr_t, kOr_f, e_not, kNot_ok, e_nil, e_cons, kA_ok, kA2_ok, e_tup, kTup_ok, e_lst, kLst_ok, e_mkF, e_mkT, e_call, kCall_ok, e_cb, kCB_ok, e_mt, kMt_ok, kMt2_ok, e_tyS, e_pNo, e_pSo, kSo_ok, e_sl, kSl_ok, kSl2_ok, kSl3_ok, e_it, kIt_tup, kIt_lst, kIt_wlst, kIt_str, e_for, kFor_ok, e_lc, kLc_ok, kLc2_ok, e_tget, kTG_ok, kTG2_ok, e_pat, e_tgN, e_tgNil, e_yes, e_endN, e_endR, e_gsub, kSub_ok, kSub2_ok, kSub3_ok, e_tr, kTr_bl, e_lcW, e_forW, List.getElem?_cons_zero, List.getElem?_cons_succ, List.set_cons_zero, List.set_cons_succ, List.length_cons, List.length_nil, if_pos, v_addI, v_sub, v_lt, v_le, v_gt, v_ge, v_eqI, v_neI, v_eqS, v_neS, Nat.reduceAdd, Nat.reduceLeDiff, Nat.reduceEqDiff, Int.reduceLT, Int.reduceLE, Int.reduceEq, Int.reduceAdd, Int.reduceSub, Int.reduceMul, Int.reduceNeg, decide_true, decide_false, Bool.not_true, Bool.not_false, Option.some.injEq, ite_true, ite_false, setA, enc, star1, ht2, w11, e_meth, mth_w hi, mth_2, hw, v_neg, hx, hfs (ρ := some (D.box i) :: _) rfl, hfp (ρ := some (D.box i) :: _) rfl, m1, m2, m3, m4]
  rw [intoS, e1, e2, enc]
theorem into_step {F : FnS} {w : Str} {xs ys : List D} (hi : S[i]? = some (putC sl st pt)) (h1 : w ≠ "least") (h2 : w ≠ "rest") (hl : xs.length ≤ 2) (hne : ys ≠ [])
    (h : lcL [9] tgN gYes (gMeth [("Put", 2, F, [])] "into" (gVar 0) (aCons (gVar 9) (aNil))) [some (.box i), some (.tup (.str w :: xs)), some (.str w), none, some (.lst xs), none, none, none, none, none] xs [] S = some (ys, S)) (hl2 : ys.length ≤ 2) :
    semD 2 10 (b_Put_into F) [.box i, .tup (.str w :: xs)] S = some (.ok (.tup (.str w :: ys)), S) := by
  unfold b_Put_into
  rw [e_sem2, show ∀ a b : D, startD 10 [a, b] = [some a, some b, none, none, none, none, none, none, none, none] from fun _ _ => rfl, e_seq]
  have ha : oAdd false (.tup [.str w]) (.tup ys) S = some (.tup (.str w :: ys), S) := v_addT (by simp; omega)
  simp only [e_seq, kSeq_nx, kSeq_rt, e_next, e_if, kIf_t, kIf_f, e_ret, kRet_ok, e_drop, kDrop_ok, e_set, kSet_ok, e_asg, kAsg_ok, kAsg2_ok, e_par, kPar_ok, e_var, kVar_ok, e_c, e_okM, e_2, k2_ok, k2b_ok, e_1, k1_ok, e_b, kB_ok, e_ifE, kIfE_t, kIfE_f, e_and, kAnd_t, kAnd_f, e_or, kOr_t, kOr_f, e_not, kNot_ok, e_nil, e_cons, kA_ok, kA2_ok, e_tup, kTup_ok, e_lst, kLst_ok, e_mkF, e_mkT, e_call, kCall_ok, e_cb, kCB_ok, e_mt, kMt_ok, kMt2_ok, e_tyS, e_pNo, e_pSo, kSo_ok, e_sl, kSl_ok, kSl2_ok, kSl3_ok, e_it, kIt_tup, kIt_lst, kIt_wlst, kIt_str, e_for, kFor_ok, e_lc, kLc_ok, kLc2_ok, e_tget, kTG_ok, kTG2_ok, e_pat, e_tgN, e_tgNil, e_yes, e_endN, e_endR, e_gsub, kSub_ok, kSub2_ok, kSub3_ok, e_tr, kTr_bl, e_lcW, e_forW, List.getElem?_cons_zero, List.getElem?_cons_succ, List.set_cons_zero, List.set_cons_succ, List.length_cons, List.length_nil, if_pos, v_addI, v_sub, v_lt, v_le, v_gt, v_ge, v_eqI, v_neI, v_eqS, v_neS, Nat.reduceAdd, Nat.reduceLeDiff, Nat.reduceEqDiff, Int.reduceLT, Int.reduceLE, Int.reduceEq, Int.reduceAdd, Int.reduceSub, Int.reduceMul, Int.reduceNeg, decide_true, decide_false, Bool.not_true, Bool.not_false, Option.some.injEq, ite_true, ite_false, setA, star1, decide_eq_false h1, decide_eq_false h2, wipeA, h, v_tupL, ha]
theorem into_ok {t : Nat} (hi : S[i]? = some (putC sl st pt)) (P : PutOk t sl st pt) (ht : 1 ≤ t ∧ t ≤ 4) : ∀ (s : Sn) (k n : Nat), SnOk t k s → k < n → m_Put_into n [.box i, enc s] S = some (.ok (enc (intoS sl st pt s)), S) := by
  intro s
  induction s with
  | least ws c =>
    intro k n h hn
    have h : WtOk t ws ∧ -4 ≤ c ∧ c ≤ 4 := by cases k <;> exact h
    obtain ⟨m, rfl⟩ : ∃ m, n = m + 1 := ⟨n - 1, by omega⟩
    exact into_least hi P ht h.1 h.2
  | rest ws c d =>
    intro k n h hn
    have h : WtOk t ws ∧ 2 ≤ c ∧ c ≤ 5 ∧ 0 ≤ d ∧ d < c := by cases k <;> exact h
    obtain ⟨m, rfl⟩ : ∃ m, n = m + 1 := ⟨n - 1, by omega⟩
    exact into_rest hi P ht h.1 ⟨h.2.1, h.2.2.1⟩ h.2.2.2
  | no s ih =>
    intro k n h hn
    cases k with
    | zero => exact h.elim
    | succ k =>
      obtain ⟨m, rfl⟩ : ∃ m, n = m + 1 := ⟨n - 1, by omega⟩
      have hr := ih k m h (by omega)
      refine into_step (xs := [enc s]) (ys := [enc (intoS sl st pt s)]) hi (by decide) (by decide) (by simp) (by simp) ?_ (by simp)
      simp only [e_seq, kSeq_nx, kSeq_rt, e_next, e_if, kIf_t, kIf_f, e_ret, kRet_ok, e_drop, kDrop_ok, e_set, kSet_ok, e_asg, kAsg_ok, kAsg2_ok, e_par, kPar_ok, e_var, kVar_ok, e_c, e_okM, e_2, k2_ok, k2b_ok, e_1, k1_ok, e_b, kB_ok, e_ifE, kIfE_t, kIfE_f, e_and, kAnd_t, kAnd_f, e_or, kOr_t, kOr_f, e_not, kNot_ok, e_nil, e_cons, kA_ok, kA2_ok, e_tup, kTup_ok, e_lst, kLst_ok, e_mkF, e_mkT, e_call, kCall_ok, e_cb, kCB_ok, e_mt, kMt_ok, kMt2_ok, e_tyS, e_pNo, e_pSo, kSo_ok, e_sl, kSl_ok, kSl2_ok, kSl3_ok, e_it, kIt_tup, kIt_lst, kIt_wlst, kIt_str, e_for, kFor_ok, e_lc, kLc_ok, kLc2_ok, e_tget, kTG_ok, kTG2_ok, e_pat, e_tgN, e_tgNil, e_yes, e_endN, e_endR, e_gsub, kSub_ok, kSub2_ok, kSub3_ok, e_tr, kTr_bl, e_lcW, e_forW, List.getElem?_cons_zero, List.getElem?_cons_succ, List.set_cons_zero, List.set_cons_succ, List.length_cons, List.length_nil, if_pos, v_addI, v_sub, v_lt, v_le, v_gt, v_ge, v_eqI, v_neI, v_eqS, v_neS, Nat.reduceAdd, Nat.reduceLeDiff, Nat.reduceEqDiff, Int.reduceLT, Int.reduceLE, Int.reduceEq, Int.reduceAdd, Int.reduceSub, Int.reduceMul, Int.reduceNeg, decide_true, decide_false, Bool.not_true, Bool.not_false, Option.some.injEq, ite_true, ite_false, setA, e_lcL, kLcP_ok, kLcT_t, e_meth, mth_i hi, mth_2, List.cons_append, List.nil_append, hr, kLcA_ok, e_lcL0]
      simp
  | two w a b iha ihb =>
    intro k n h hn
    cases k with
    | zero => exact h.elim
    | succ k =>
      obtain ⟨m, rfl⟩ : ∃ m, n = m + 1 := ⟨n - 1, by omega⟩
      have ha := iha k m h.1 (by omega)
      have hb := ihb k m h.2 (by omega)
      refine into_step (w := wd w) (xs := [enc a, enc b]) (ys := [enc (intoS sl st pt a), enc (intoS sl st pt b)]) hi (by cases w <;> decide) (by cases w <;> decide) (by simp) (by simp) ?_ (by simp)
      simp only [e_seq, kSeq_nx, kSeq_rt, e_next, e_if, kIf_t, kIf_f, e_ret, kRet_ok, e_drop, kDrop_ok, e_set, kSet_ok, e_asg, kAsg_ok, kAsg2_ok, e_par, kPar_ok, e_var, kVar_ok, e_c, e_okM, e_2, k2_ok, k2b_ok, e_1, k1_ok, e_b, kB_ok, e_ifE, kIfE_t, kIfE_f, e_and, kAnd_t, kAnd_f, e_or, kOr_t, kOr_f, e_not, kNot_ok, e_nil, e_cons, kA_ok, kA2_ok, e_tup, kTup_ok, e_lst, kLst_ok, e_mkF, e_mkT, e_call, kCall_ok, e_cb, kCB_ok, e_mt, kMt_ok, kMt2_ok, e_tyS, e_pNo, e_pSo, kSo_ok, e_sl, kSl_ok, kSl2_ok, kSl3_ok, e_it, kIt_tup, kIt_lst, kIt_wlst, kIt_str, e_for, kFor_ok, e_lc, kLc_ok, kLc2_ok, e_tget, kTG_ok, kTG2_ok, e_pat, e_tgN, e_tgNil, e_yes, e_endN, e_endR, e_gsub, kSub_ok, kSub2_ok, kSub3_ok, e_tr, kTr_bl, e_lcW, e_forW, List.getElem?_cons_zero, List.getElem?_cons_succ, List.set_cons_zero, List.set_cons_succ, List.length_cons, List.length_nil, if_pos, v_addI, v_sub, v_lt, v_le, v_gt, v_ge, v_eqI, v_neI, v_eqS, v_neS, Nat.reduceAdd, Nat.reduceLeDiff, Nat.reduceEqDiff, Int.reduceLT, Int.reduceLE, Int.reduceEq, Int.reduceAdd, Int.reduceSub, Int.reduceMul, Int.reduceNeg, decide_true, decide_false, Bool.not_true, Bool.not_false, Option.some.injEq, ite_true, ite_false, setA, e_lcL, kLcP_ok, kLcT_t, e_meth, mth_i hi, mth_2, List.cons_append, List.nil_append, ha, hb, kLcA_ok, e_lcL0]
      simp
theorem is_number_ok (hi : S[i]? = some (putC sl st pt)) : m_Put_is_number [.box i] S = some (.ok (enc (.least sl (-st))), S) := by
  unfold m_Put_is_number b_Put_is_number
  rw [e_sem1, show ∀ a : D, startD 1 [a] = [some a] from fun _ => rfl]
  have h1 := fld_slopes (ρ := [some (.box i)]) hi rfl
  have h2 := fld_start (ρ := [some (.box i)]) hi rfl
  simp only [e_seq, kSeq_nx, kSeq_rt, e_next, e_if, kIf_t, kIf_f, e_ret, kRet_ok, e_drop, kDrop_ok, e_set, kSet_ok, e_asg, kAsg_ok, kAsg2_ok, e_par, kPar_ok, e_var, kVar_ok, e_c, e_okM, e_2, k2_ok, k2b_ok, e_1, k1_ok, e_b, kB_ok, e_ifE, kIfE_t, kIfE_f, e_and, kAnd_t, kAnd_f, e_or, kOr_t, kOr_f, e_not, kNot_ok, e_nil, e_cons, kA_ok, kA2_ok, e_tup, kTup_ok, e_lst, kLst_ok, e_mkF, e_mkT, e_call, kCall_ok, e_cb, kCB_ok, e_mt, kMt_ok, kMt2_ok, e_tyS, e_pNo, e_pSo, kSo_ok, e_sl, kSl_ok, kSl2_ok, kSl3_ok, e_it, kIt_tup, kIt_lst, kIt_wlst, kIt_str, e_for, kFor_ok, e_lc, kLc_ok, kLc2_ok, e_tget, kTG_ok, kTG2_ok, e_pat, e_tgN, e_tgNil, e_yes, e_endN, e_endR, e_gsub, kSub_ok, kSub2_ok, kSub3_ok, e_tr, kTr_bl, e_lcW, e_forW, List.getElem?_cons_zero, List.getElem?_cons_succ, List.set_cons_zero, List.set_cons_succ, List.length_cons, List.length_nil, if_pos, v_addI, v_sub, v_lt, v_le, v_gt, v_ge, v_eqI, v_neI, v_eqS, v_neS, Nat.reduceAdd, Nat.reduceLeDiff, Nat.reduceEqDiff, Int.reduceLT, Int.reduceLE, Int.reduceEq, Int.reduceAdd, Int.reduceSub, Int.reduceMul, Int.reduceNeg, decide_true, decide_false, Bool.not_true, Bool.not_false, Option.some.injEq, ite_true, ite_false, setA, h1, h2, v_neg, enc]
end
end Cs
set_option linter.all false
set_option maxRecDepth 100000
set_option maxHeartbeats 1000000
namespace Cs
open PySem L2 Dm
section
variable {S : Store}
/-! ### breaking -/
def brk : Sn → Bool
  | .least ws _ => !decide (ws.getLastD 0 = 0)
  | _ => false
theorem breaking_ok {t : Nat} {s : Sn} (hs : ∀ a ∈ atoms s, SnOk t 0 a) (ht : 1 ≤ t) (hd : dep s ≤ 20) : m_breaking [enc s] S = some (.ok (.lst (((atoms s).filter brk).map enc)), S) := by
  have ha := atoms_ok (S := S) s 40 (by omega) hd
  have hl := atoms_len s
  have hp : 2 ^ dep s ≤ 2 ^ 20 := Nat.pow_le_pow_right (by decide) hd
  unfold m_breaking b_breaking
  rw [e_sem1, show startD 2 [enc s] = [some (enc s), none] from rfl]
  have hc := lc_filM (ns := [1]) (pf := tgN) (t := gAndT (gB (g2 (oEq) (g2 oIx (gVar 1) (gC (.int 0))) (gC (.str "least")))) (gB (g2 (oNe) (g2 oIx (g2 oIx (gVar 1) (gC (.int 1))) (g1 oNeg (gC (.int 1)))) (gC (.int 0))))) (el := gVar 1) (ρ0 := [some (enc s), none]) (S := S) enc brk enc (l := atoms s) [] (fun a ha => by
      refine ⟨[enc a], rfl, ?_, fun _ => rfl⟩
      have h := hs a ha
      cases a with
      | least ws c =>
        obtain ⟨fore, last, rfl, e1, e2, hl, hf, hb⟩ := split_last h.1 ht
        have hx := ix_last (S := S) (fore := fore) (last := last)
        simp only [e_seq, kSeq_nx, kSeq_rt, e_next, e_if, kIf_t, kIf_f, e_ret, kRet_ok, e_drop, kDrop_ok, e_set, kSet_ok, e_asg, kAsg_ok, kAsg2_ok, e_par, kPar_ok, e_var, kVar_ok, e_c, e_okM, e_2, k2_ok, k2b_ok, e_1, k1_ok, e_b, kB_ok, e_ifE, kIfE_t, kIfE_f, e_and, kAnd_t, kAnd_f, e_or, kOr_t, kOr_f, e_not, kNot_ok, e_nil, e_cons, kA_ok, kA2_ok, e_tup, kTup_ok, e_lst, kLst_ok, e_mkF, e_mkT, e_call, kCall_ok, e_cb, kCB_ok, e_mt, kMt_ok, kMt2_ok, e_tyS, e_pNo, e_pSo, kSo_ok, e_sl, kSl_ok, kSl2_ok, kSl3_ok, e_it, kIt_tup, kIt_lst, kIt_wlst, kIt_str, e_for, kFor_ok, e_lc, kLc_ok, kLc2_ok, e_tget, kTG_ok, kTG2_ok, e_pat, e_tgN, e_tgNil, e_yes, e_endN, e_endR, e_gsub, kSub_ok, kSub2_ok, kSub3_ok, e_tr, kTr_bl, e_lcW, e_forW, List.getElem?_cons_zero, List.getElem?_cons_succ, List.set_cons_zero, List.set_cons_succ, List.length_cons, List.length_nil, if_pos, v_addI, v_sub, v_lt, v_le, v_gt, v_ge, v_eqI, v_neI, v_eqS, v_neS, Nat.reduceAdd, Nat.reduceLeDiff, Nat.reduceEqDiff, Int.reduceLT, Int.reduceLE, Int.reduceEq, Int.reduceAdd, Int.reduceSub, Int.reduceMul, Int.reduceNeg, decide_true, decide_false, Bool.not_true, Bool.not_false, Option.some.injEq, ite_true, ite_false, setA, enc, v_ixT0, v_ixT1, v_neg, hx]
        simp [brk]
      | rest ws m r =>
        simp only [e_seq, kSeq_nx, kSeq_rt, e_next, e_if, kIf_t, kIf_f, e_ret, kRet_ok, e_drop, kDrop_ok, e_set, kSet_ok, e_asg, kAsg_ok, kAsg2_ok, e_par, kPar_ok, e_var, kVar_ok, e_c, e_okM, e_2, k2_ok, k2b_ok, e_1, k1_ok, e_b, kB_ok, e_ifE, kIfE_t, kIfE_f, e_and, kAnd_t, kAnd_f, e_or, kOr_t, kOr_f, e_not, kNot_ok, e_nil, e_cons, kA_ok, kA2_ok, e_tup, kTup_ok, e_lst, kLst_ok, e_mkF, e_mkT, e_call, kCall_ok, e_cb, kCB_ok, e_mt, kMt_ok, kMt2_ok, e_tyS, e_pNo, e_pSo, kSo_ok, e_sl, kSl_ok, kSl2_ok, kSl3_ok, e_it, kIt_tup, kIt_lst, kIt_wlst, kIt_str, e_for, kFor_ok, e_lc, kLc_ok, kLc2_ok, e_tget, kTG_ok, kTG2_ok, e_pat, e_tgN, e_tgNil, e_yes, e_endN, e_endR, e_gsub, kSub_ok, kSub2_ok, kSub3_ok, e_tr, kTr_bl, e_lcW, e_forW, List.getElem?_cons_zero, List.getElem?_cons_succ, List.set_cons_zero, List.set_cons_succ, List.length_cons, List.length_nil, if_pos, v_addI, v_sub, v_lt, v_le, v_gt, v_ge, v_eqI, v_neI, v_eqS, v_neS, Nat.reduceAdd, Nat.reduceLeDiff, Nat.reduceEqDiff, Int.reduceLT, Int.reduceLE, Int.reduceEq, Int.reduceAdd, Int.reduceSub, Int.reduceMul, Int.reduceNeg, decide_true, decide_false, Bool.not_true, Bool.not_false, Option.some.injEq, ite_true, ite_false, setA, enc, v_ixT0, w11]
        simp [brk]
      | no s => exact h.elim
      | two w a b => exact h.elim) (by simp; omega)
  simp only [e_seq, kSeq_nx, kSeq_rt, e_next, e_if, kIf_t, kIf_f, e_ret, kRet_ok, e_drop, kDrop_ok, e_set, kSet_ok, e_asg, kAsg_ok, kAsg2_ok, e_par, kPar_ok, e_var, kVar_ok, e_c, e_okM, e_2, k2_ok, k2b_ok, e_1, k1_ok, e_b, kB_ok, e_ifE, kIfE_t, kIfE_f, e_and, kAnd_t, kAnd_f, e_or, kOr_t, kOr_f, e_not, kNot_ok, e_nil, e_cons, kA_ok, kA2_ok, e_tup, kTup_ok, e_lst, kLst_ok, e_mkF, e_mkT, e_call, kCall_ok, e_cb, kCB_ok, e_mt, kMt_ok, kMt2_ok, e_tyS, e_pNo, e_pSo, kSo_ok, e_sl, kSl_ok, kSl2_ok, kSl3_ok, e_it, kIt_tup, kIt_lst, kIt_wlst, kIt_str, e_for, kFor_ok, e_lc, kLc_ok, kLc2_ok, e_tget, kTG_ok, kTG2_ok, e_pat, e_tgN, e_tgNil, e_yes, e_endN, e_endR, e_gsub, kSub_ok, kSub2_ok, kSub3_ok, e_tr, kTr_bl, e_lcW, e_forW, List.getElem?_cons_zero, List.getElem?_cons_succ, List.set_cons_zero, List.set_cons_succ, List.length_cons, List.length_nil, if_pos, v_addI, v_sub, v_lt, v_le, v_gt, v_ge, v_eqI, v_neI, v_eqS, v_neS, Nat.reduceAdd, Nat.reduceLeDiff, Nat.reduceEqDiff, Int.reduceLT, Int.reduceLE, Int.reduceEq, Int.reduceAdd, Int.reduceSub, Int.reduceMul, Int.reduceNeg, decide_true, decide_false, Bool.not_true, Bool.not_false, Option.some.injEq, ite_true, ite_false, setA, ha, wipeA, hc]
  simp
/-! ### puts_at -/
def encQ (p : Nat × Sn) : D := .tup [.box p.1, enc p.2]
structure Put1 (t : Nat) (S1 : Store) (p : Nat × Sn) : Prop where
  put : ∃ sl st pt, PutOk t sl st pt ∧ S1[p.1]? = some (putC sl st pt)
  when : Sz 1 p.2
structure PutsI (t : Nat) (S S1 : Store) (l : List (Nat × Sn)) : Prop where
  grow : Grow S S1
  found : S1[S.length]? = some (.lst (l.map encQ))
  all : ∀ p ∈ l, S.length < p.1 ∧ Put1 t S1 p
theorem PutsI.step {t : Nat} {S1 : Store} {l : List (Nat × Sn)} {sl : List Int} {st pt : Int} {w : Sn} (I : PutsI t S S1 l) (P : PutOk t sl st pt) (hw : Sz 1 w) :
    PutsI t S ((S1 ++ [putC sl st pt]).set S.length (.lst (l.map encQ ++ [encQ (S1.length, w)]))) (l ++ [(S1.length, w)]) := by
  have hlt := lt_of_get I.found
  refine ⟨(I.grow.trans Grow.push).set (Nat.le_refl _), ?_, ?_⟩
  · rw [List.map_append]
    exact List.getElem?_set_self (by rw [List.length_append]; omega)
  · intro p hp
    rcases List.mem_append.mp hp with h | h
    · obtain ⟨h1, ⟨sl, st, pt, h2, h3⟩, h4⟩ := I.all p h
      refine ⟨h1, ⟨sl, st, pt, h2, ?_⟩, h4⟩
      rw [List.getElem?_set_ne (by omega), List.getElem?_append_left (lt_of_get h3)]
      exact h3
    · rw [List.mem_singleton] at h
      subst h
      refine ⟨hlt, ⟨sl, st, pt, P, ?_⟩, hw⟩
      rw [List.getElem?_set_ne (by omega)]
      exact get_push
theorem neg_list {ρ0 : Dm.Env} {k : Nat} {fore : List Int} (hk : k < ρ0.length) (hl : fore.length ≤ 1000) : lcL [k] tgN gYes (g1 oNeg (gVar k)) ρ0 (fore.map D.int) [] S = some ((fore.map fun w => -w).map D.int, S) := by
  rw [lc_mapM D.int (fun w => D.int (-w)) [] (fun a _ => ⟨[.int a], rfl, rfl, by
    have e : (ρ0.set k (some (D.int a)))[k]? = some (some (.int a)) := List.getElem?_set_self hk
    simp only [e_seq, kSeq_nx, kSeq_rt, e_next, e_if, kIf_t, kIf_f, e_ret, kRet_ok, e_drop, kDrop_ok, e_set, kSet_ok, e_asg, kAsg_ok, kAsg2_ok, e_par, kPar_ok, e_var, kVar_ok, e_c, e_okM, e_2, k2_ok, k2b_ok, e_1, k1_ok, e_b, kB_ok, e_ifE, kIfE_t, kIfE_f, e_and, kAnd_t, kAnd_f, e_or, kOr_t, kOr_f, e_not, kNot_ok, e_nil, e_cons, kA_ok, kA2_ok, e_tup, kTup_ok, e_lst, kLst_ok, e_mkF, e_mkT, e_call, kCall_ok, e_cb, kCB_ok, e_mt, kMt_ok, kMt2_ok, e_tyS, e_pNo, e_pSo, kSo_ok, e_sl, kSl_ok, kSl2_ok, kSl3_ok, e_it, kIt_tup, kIt_lst, kIt_wlst, kIt_str, e_for, kFor_ok, e_lc, kLc_ok, kLc2_ok, e_tget, kTG_ok, kTG2_ok, e_pat, e_tgN, e_tgNil, e_yes, e_endN, e_endR, e_gsub, kSub_ok, kSub2_ok, kSub3_ok, e_tr, kTr_bl, e_lcW, e_forW, List.getElem?_cons_zero, List.getElem?_cons_succ, List.set_cons_zero, List.set_cons_succ, List.length_cons, List.length_nil, if_pos, v_addI, v_sub, v_lt, v_le, v_gt, v_ge, v_eqI, v_neI, v_eqS, v_neS, Nat.reduceAdd, Nat.reduceLeDiff, Nat.reduceEqDiff, Int.reduceLT, Int.reduceLE, Int.reduceEq, Int.reduceAdd, Int.reduceSub, Int.reduceMul, Int.reduceNeg, decide_true, decide_false, Bool.not_true, Bool.not_false, Option.some.injEq, ite_true, ite_false, setA, e, v_neg]⟩) (by simp; omega), List.nil_append, List.map_map]
  rfl
theorem put_n {a b c : D} : kMakeN2 "Put" 2 1 4 m_Put___init__ (fun xs zs => xs ++ zs) [a, b] (some (.ok [c], S)) = mkI "Put" 4 m_Put___init__ [a, b, c] S := kMakeN2_ok ⟨rfl, rfl⟩
theorem puts_turn {t : Nat} {S1 : Store} {l : List (Nat × Sn)} {ws fore : List Int} {c last W : Int} {i j : Nat} {w : Sn} {e9 : Option D} (I : PutsI t S S1 l) (hw : Sz 1 w) (h : WtOk t ws) (ht : 1 ≤ t ∧ t ≤ 4) (hc : -4 ≤ c ∧ c ≤ 4)
    (hfl : fore.length + 1 = t) (hf : ∀ w ∈ fore, -3 ≤ w ∧ w ≤ 3) (hb : -3 ≤ last ∧ last ≤ 3) (h0 : last ≠ 0) (hi : i < 3) (hj : j < 25) (hl : l.length ≤ 1000) :
    ∃ x S2, fSeq (fIf (gB (g2 (oGt) (gVar 5) (gC (.int 0))))
    (fSet 9 (gMakeN "Put" 2 1 4 m_Put___init__ (fun xs zs => xs ++ zs) (aCons (gCB oTuple (aCons (gLc false (gIt (gVar 8)) [10] [10] (tgN) (gYes) (g1 oNeg (gVar 10))) (aNil))) (aCons (g2 (oAdd false) (g2 (oAdd false) (g2 oIx (gVar 0) (gC (.int 2))) (gVar 4)) (g2 (oMul false) (gVar 2) (gVar 7))) (aNil))) (aCons (gVar 2) (aNil))))
    (fSet 9 (gMakeN "Put" 2 1 4 m_Put___init__ (fun xs zs => xs ++ zs) (aCons (gCB oTuple (aCons (gVar 8) (aNil))) (aCons (g2 (oSub) (g2 (oSub) (g2 (oMul false) (gVar 2) (g2 (oAdd false) (gVar 7) (gC (.int 1)))) (g2 oIx (gVar 0) (gC (.int 2)))) (gVar 4)) (aNil))) (aCons (gVar 2) (aNil)))))
    (fDrop (gMt .list (oAppend) (gVar 3) (aCons (gTup (aCons (gVar 9) (aCons (gVar 6) (aNil)))) (aNil))))
      [some (enc (.least ws c)), some (.int W), some (.int (last.natAbs : Nat)), some (.box S.length), some (.int (i : Nat)), some (.int last), some (enc w), some (.int (j : Nat)), some (.lst (fore.map D.int)), e9, none] S1 =
      some (.nx [some (enc (.least ws c)), some (.int W), some (.int (last.natAbs : Nat)), some (.box S.length), some (.int (i : Nat)), some (.int last), some (enc w), some (.int (j : Nat)), some (.lst (fore.map D.int)), some x, none], S2) ∧ PutsI t S S2 (l ++ [(S1.length, w)]) := by
  have fin : ∀ (sl : List Int) (st pt : Int), PutOk t sl st pt → ∃ S2, fDrop (gMt .list (oAppend) (gVar 3) (aCons (gTup (aCons (gVar 9) (aCons (gVar 6) (aNil)))) (aNil)))
      [some (enc (.least ws c)), some (.int W), some (.int (last.natAbs : Nat)), some (.box S.length), some (.int (i : Nat)), some (.int last), some (enc w), some (.int (j : Nat)), some (.lst (fore.map D.int)), some (.box S1.length), none] (S1 ++ [putC sl st pt]) =
      some (.nx [some (enc (.least ws c)), some (.int W), some (.int (last.natAbs : Nat)), some (.box S.length), some (.int (i : Nat)), some (.int last), some (enc w), some (.int (j : Nat)), some (.lst (fore.map D.int)), some (.box S1.length), none], S2) ∧ PutsI t S S2 (l ++ [(S1.length, w)]) := fun sl st pt P => by
    have hg : (S1 ++ [putC sl st pt])[S.length]? = some (.lst (l.map encQ)) := by rw [List.getElem?_append_left (lt_of_get I.found)]; exact I.found
    refine ⟨_, ?_, I.step P hw⟩
    have ha := v_app (y := encQ (S1.length, w)) hg (by rw [List.length_map]; omega)
    have hq : D.tup [.box S1.length, enc w] = encQ (S1.length, w) := rfl
    simp only [e_seq, kSeq_nx, kSeq_rt, e_next, e_if, kIf_t, kIf_f, e_ret, kRet_ok, e_drop, kDrop_ok, e_set, kSet_ok, e_asg, kAsg_ok, kAsg2_ok, e_par, kPar_ok, e_var, kVar_ok, e_c, e_okM, e_2, k2_ok, k2b_ok, e_1, k1_ok, e_b, kB_ok, e_ifE, kIfE_t, kIfE_f, e_and, kAnd_t, kAnd_f, e_or, kOr_t, kOr_f, e_not, kNot_ok, e_nil, e_cons, kA_ok, kA2_ok, e_tup, kTup_ok, e_lst, kLst_ok, e_mkF, e_mkT, e_call, kCall_ok, e_cb, kCB_ok, e_mt, kMt_ok, kMt2_ok, e_tyS, e_pNo, e_pSo, kSo_ok, e_sl, kSl_ok, kSl2_ok, kSl3_ok, e_it, kIt_tup, kIt_lst, kIt_wlst, kIt_str, e_for, kFor_ok, e_lc, kLc_ok, kLc2_ok, e_tget, kTG_ok, kTG2_ok, e_pat, e_tgN, e_tgNil, e_yes, e_endN, e_endR, e_gsub, kSub_ok, kSub2_ok, kSub3_ok, e_tr, kTr_bl, e_lcW, e_forW, List.getElem?_cons_zero, List.getElem?_cons_succ, List.set_cons_zero, List.set_cons_succ, List.length_cons, List.length_nil, if_pos, v_addI, v_sub, v_lt, v_le, v_gt, v_ge, v_eqI, v_neI, v_eqS, v_neS, Nat.reduceAdd, Nat.reduceLeDiff, Nat.reduceEqDiff, Int.reduceLT, Int.reduceLE, Int.reduceEq, Int.reduceAdd, Int.reduceSub, Int.reduceMul, Int.reduceNeg, decide_true, decide_false, Bool.not_true, Bool.not_false, Option.some.injEq, ite_true, ite_false, setA, v_ty hg, hq, ha]
  have hix : oIx (enc (.least ws c)) (.int 2) S1 = some (.int c, S1) := v_ixT2
  have m1 : oMul false (.int (last.natAbs : Nat)) (.int (j : Nat)) S1 = some (.int ((last.natAbs : Int) * (j : Int)), S1) := v_mulN (by omega)
  have m2 : oMul false (.int (last.natAbs : Nat)) (.int ((j : Int) + 1)) S1 = some (.int ((last.natAbs : Int) * ((j : Int) + 1)), S1) := v_mulN (by omega)
  have b1 := mul_bd (a := (last.natAbs : Int)) (b := (j : Int)) (A := 3) (B := 25) (by omega) (by omega)
  have b2 := mul_bd (a := (last.natAbs : Int)) (b := (j : Int) + 1) (A := 3) (B := 25) (by omega) (by omega)
  by_cases hp : 0 < last
  · have P : PutOk t (fore.map fun w => -w) (c + (i : Int) + (last.natAbs : Int) * (j : Int)) (last.natAbs : Nat) := ⟨by rw [List.length_map]; exact hfl, fun w hw => by
      obtain ⟨v, hv, rfl⟩ := List.mem_map.mp hw
      have := hf v hv
      omega, by omega, by omega⟩
    obtain ⟨S2, h1, h2⟩ := fin _ _ _ P
    refine ⟨.box S1.length, S2, ?_, h2⟩
    have hn := neg_list (S := S1) (k := 10) (fore := fore) (ρ0 := [some (enc (.least ws c)), some (.int W), some (.int (last.natAbs : Nat)), some (.box S.length), some (.int (i : Nat)), some (.int last), some (enc w), some (.int (j : Nat)), some (.lst (fore.map D.int)), e9, none]) (by simp) (by omega)
    simp only [e_seq, kSeq_nx, kSeq_rt, e_next, e_if, kIf_t, kIf_f, e_ret, kRet_ok, e_drop, kDrop_ok, e_set, kSet_ok, e_asg, kAsg_ok, kAsg2_ok, e_par, kPar_ok, e_var, kVar_ok, e_c, e_okM, e_2, k2_ok, k2b_ok, e_1, k1_ok, e_b, kB_ok, e_ifE, kIfE_t, kIfE_f, e_and, kAnd_t, kAnd_f, e_or, kOr_t, kOr_f, e_not, kNot_ok, e_nil, e_cons, kA_ok, kA2_ok, e_tup, kTup_ok, e_lst, kLst_ok, e_mkF, e_mkT, e_call, kCall_ok, e_cb, kCB_ok, e_mt, kMt_ok, kMt2_ok, e_tyS, e_pNo, e_pSo, kSo_ok, e_sl, kSl_ok, kSl2_ok, kSl3_ok, e_it, kIt_tup, kIt_lst, kIt_wlst, kIt_str, e_for, kFor_ok, e_lc, kLc_ok, kLc2_ok, e_tget, kTG_ok, kTG2_ok, e_pat, e_tgN, e_tgNil, e_yes, e_endN, e_endR, e_gsub, kSub_ok, kSub2_ok, kSub3_ok, e_tr, kTr_bl, e_lcW, e_forW, List.getElem?_cons_zero, List.getElem?_cons_succ, List.set_cons_zero, List.set_cons_succ, List.length_cons, List.length_nil, if_pos, v_addI, v_sub, v_lt, v_le, v_gt, v_ge, v_eqI, v_neI, v_eqS, v_neS, Nat.reduceAdd, Nat.reduceLeDiff, Nat.reduceEqDiff, Int.reduceLT, Int.reduceLE, Int.reduceEq, Int.reduceAdd, Int.reduceSub, Int.reduceMul, Int.reduceNeg, decide_true, decide_false, Bool.not_true, Bool.not_false, Option.some.injEq, ite_true, ite_false, setA, decide_eq_true hp, e_makeN, wipeA, hn, v_tupL, hix, m1, kMakeN_ok, put_n, put_make]
    exact h1
  · have P : PutOk t fore ((last.natAbs : Int) * ((j : Int) + 1) - c - (i : Int)) (last.natAbs : Nat) := ⟨hfl, hf, by omega, by omega⟩
    obtain ⟨S2, h1, h2⟩ := fin _ _ _ P
    refine ⟨.box S1.length, S2, ?_, h2⟩
    simp only [e_seq, kSeq_nx, kSeq_rt, e_next, e_if, kIf_t, kIf_f, e_ret, kRet_ok, e_drop, kDrop_ok, e_set, kSet_ok, e_asg, kAsg_ok, kAsg2_ok, e_par, kPar_ok, e_var, kVar_ok, e_c, e_okM, e_2, k2_ok, k2b_ok, e_1, k1_ok, e_b, kB_ok, e_ifE, kIfE_t, kIfE_f, e_and, kAnd_t, kAnd_f, e_or, kOr_t, kOr_f, e_not, kNot_ok, e_nil, e_cons, kA_ok, kA2_ok, e_tup, kTup_ok, e_lst, kLst_ok, e_mkF, e_mkT, e_call, kCall_ok, e_cb, kCB_ok, e_mt, kMt_ok, kMt2_ok, e_tyS, e_pNo, e_pSo, kSo_ok, e_sl, kSl_ok, kSl2_ok, kSl3_ok, e_it, kIt_tup, kIt_lst, kIt_wlst, kIt_str, e_for, kFor_ok, e_lc, kLc_ok, kLc2_ok, e_tget, kTG_ok, kTG2_ok, e_pat, e_tgN, e_tgNil, e_yes, e_endN, e_endR, e_gsub, kSub_ok, kSub2_ok, kSub3_ok, e_tr, kTr_bl, e_lcW, e_forW, List.getElem?_cons_zero, List.getElem?_cons_succ, List.set_cons_zero, List.set_cons_succ, List.length_cons, List.length_nil, if_pos, v_addI, v_sub, v_lt, v_le, v_gt, v_ge, v_eqI, v_neI, v_eqS, v_neS, Nat.reduceAdd, Nat.reduceLeDiff, Nat.reduceEqDiff, Int.reduceLT, Int.reduceLE, Int.reduceEq, Int.reduceAdd, Int.reduceSub, Int.reduceMul, Int.reduceNeg, decide_true, decide_false, Bool.not_true, Bool.not_false, Option.some.injEq, ite_true, ite_false, setA, decide_eq_false hp, e_makeN, v_tupL, hix, m2, kMakeN_ok, put_n, put_make]
    exact h1

theorem puts_inner {t : Nat} {ws fore : List Int} {c last : Int} {W i : Nat} {w : Sn} (hw : Sz 1 w) (h : WtOk t ws) (ht : 1 ≤ t ∧ t ≤ 4) (hc : -4 ≤ c ∧ c ≤ 4)
    (hfl : fore.length + 1 = t) (hf : ∀ w ∈ fore, -3 ≤ w ∧ w ≤ 3) (hb : -3 ≤ last ∧ last ≤ 3) (h0 : last ≠ 0) (hi : i < 3) (hW : W ≤ 25) {S1 : Store} {l : List (Nat × Sn)} {e7 e9 : Option D} (I : PutsI t S S1 l) (hl : l.length ≤ 500) :
    ∃ e7' e9' S2 l2, fForL (gPat [7] tgN) (fSeq (fIf (gB (g2 (oGt) (gVar 5) (gC (.int 0))))
    (fSet 9 (gMakeN "Put" 2 1 4 m_Put___init__ (fun xs zs => xs ++ zs) (aCons (gCB oTuple (aCons (gLc false (gIt (gVar 8)) [10] [10] (tgN) (gYes) (g1 oNeg (gVar 10))) (aNil))) (aCons (g2 (oAdd false) (g2 (oAdd false) (g2 oIx (gVar 0) (gC (.int 2))) (gVar 4)) (g2 (oMul false) (gVar 2) (gVar 7))) (aNil))) (aCons (gVar 2) (aNil))))
    (fSet 9 (gMakeN "Put" 2 1 4 m_Put___init__ (fun xs zs => xs ++ zs) (aCons (gCB oTuple (aCons (gVar 8) (aNil))) (aCons (g2 (oSub) (g2 (oSub) (g2 (oMul false) (gVar 2) (g2 (oAdd false) (gVar 7) (gC (.int 1)))) (g2 oIx (gVar 0) (gC (.int 2)))) (gVar 4)) (aNil))) (aCons (gVar 2) (aNil)))))
    (fDrop (gMt .list (oAppend) (gVar 3) (aCons (gTup (aCons (gVar 9) (aCons (gVar 6) (aNil)))) (aNil))))) (rngD 0 W)
      [some (enc (.least ws c)), some (.int (W : Nat)), some (.int (last.natAbs : Nat)), some (.box S.length), some (.int (i : Nat)), some (.int last), some (enc w), e7, some (.lst (fore.map D.int)), e9, none] S1 =
      some (.nx [some (enc (.least ws c)), some (.int (W : Nat)), some (.int (last.natAbs : Nat)), some (.box S.length), some (.int (i : Nat)), some (.int last), some (enc w), e7', some (.lst (fore.map D.int)), e9', none], S2) ∧ PutsI t S S2 l2 ∧ l2.length = l.length + W := by
  obtain ⟨ρ', S', h1, e7', e9', l2, e, I2, hl2⟩ := for_inv (tg := gPat [7] tgN) (xs := rngD 0 W) (f := fSeq (fIf (gB (g2 (oGt) (gVar 5) (gC (.int 0))))
    (fSet 9 (gMakeN "Put" 2 1 4 m_Put___init__ (fun xs zs => xs ++ zs) (aCons (gCB oTuple (aCons (gLc false (gIt (gVar 8)) [10] [10] (tgN) (gYes) (g1 oNeg (gVar 10))) (aNil))) (aCons (g2 (oAdd false) (g2 (oAdd false) (g2 oIx (gVar 0) (gC (.int 2))) (gVar 4)) (g2 (oMul false) (gVar 2) (gVar 7))) (aNil))) (aCons (gVar 2) (aNil))))
    (fSet 9 (gMakeN "Put" 2 1 4 m_Put___init__ (fun xs zs => xs ++ zs) (aCons (gCB oTuple (aCons (gVar 8) (aNil))) (aCons (g2 (oSub) (g2 (oSub) (g2 (oMul false) (gVar 2) (g2 (oAdd false) (gVar 7) (gC (.int 1)))) (g2 oIx (gVar 0) (gC (.int 2)))) (gVar 4)) (aNil))) (aCons (gVar 2) (aNil)))))
    (fDrop (gMt .list (oAppend) (gVar 3) (aCons (gTup (aCons (gVar 9) (aCons (gVar 6) (aNil)))) (aNil)))))
    (I := fun j ρ S2 => ∃ e7' e9' l2, ρ = [some (enc (.least ws c)), some (.int (W : Nat)), some (.int (last.natAbs : Nat)), some (.box S.length), some (.int (i : Nat)), some (.int last), some (enc w), e7', some (.lst (fore.map D.int)), e9', none] ∧ PutsI t S S2 l2 ∧ l2.length = l.length + j)
    (fun j d ρ S2 hd ⟨e7', e9', l2, e, I2, hl2⟩ => by
      obtain ⟨hj, rfl⟩ := rngD_get hd
      subst e
      obtain ⟨x, S3, k1, k2⟩ := puts_turn (e9 := e9') (i := i) (j := j) (c := c) (W := (W : Nat)) (fore := fore) (last := last) I2 hw h ht hc hfl hf hb h0 hi (by omega) (by omega)
      refine ⟨_, S2, rfl, _, S3, .inl ?_, some (.int (j : Nat)), some x, _, rfl, k2, by simp [hl2]; omega⟩
      rw [Int.zero_add]
      exact k1) (ρ := [some (enc (.least ws c)), some (.int (W : Nat)), some (.int (last.natAbs : Nat)), some (.box S.length), some (.int (i : Nat)), some (.int last), some (enc w), e7, some (.lst (fore.map D.int)), e9, none]) (S := S1) ⟨e7, e9, l, rfl, I, rfl⟩
  subst e
  exact ⟨e7', e9', S', l2, h1, I2, by rw [hl2, rngD_len]⟩
theorem puts_ok {t : Nat} {ws : List Int} {c : Int} {W : Nat} (h : SnOk t 0 (.least ws c)) (ht : 1 ≤ t ∧ t ≤ 4) (hb : brk (.least ws c) = true) (hW : W ≤ 25) :
    ∃ (l : List (Nat × Sn)) (S' : Store), m_puts_at [enc (.least ws c), .int (W : Nat)] S = some (.ok (.lst (l.map encQ)), S') ∧ Grow S S' ∧ l.length ≤ 75 ∧ ∀ p ∈ l, Put1 t S' p := by
  obtain ⟨hws, hc⟩ := h
  obtain ⟨fore, last, rfl, e1, e2, hfl, hf, hb1, hb2⟩ := split_last hws ht.1
  have h0 : last ≠ 0 := by
    have : brk (.least (fore ++ [last]) c) = !decide ((fore ++ [last]).getLastD 0 = 0) := rfl
    rw [this, e1] at hb
    simpa using hb
  unfold m_puts_at b_puts_at
  rw [e_sem2, show ∀ a b : D, startD 11 [a, b] = [some a, some b, none, none, none, none, none, none, none, none, none] from fun _ _ => rfl, e_seq]
  have hx1 : ∀ S : Store, oIx (enc (.least (fore ++ [last]) c)) (.int 1) S = some (.tup ((fore ++ [last]).map D.int), S) := fun S => v_ixT1
  have hx2 : ∀ S : Store, oIx (enc (.least (fore ++ [last]) c)) (.int 2) S = some (.int c, S) := fun S => v_ixT2
  have hr : kRng1 (some (.ok [.int (last.natAbs : Int)], S ++ [.lst []])) = some (.ok (wkC (rngD 0 last.natAbs)), S ++ [.lst []]) := by
    rw [kRng1_ok (by omega)]; rfl
  simp only [e_seq, kSeq_nx, kSeq_rt, e_next, e_if, kIf_t, kIf_f, e_ret, kRet_ok, e_drop, kDrop_ok, e_set, kSet_ok, e_asg, kAsg_ok, kAsg2_ok, e_par, kPar_ok, e_var, kVar_ok, e_c, e_okM, e_2, k2_ok, k2b_ok, e_1, k1_ok, e_b, kB_ok, e_ifE, kIfE_t, kIfE_f, e_and, kAnd_t, kAnd_f, e_or, kOr_t, kOr_f, e_not, kNot_ok, e_nil, e_cons, kA_ok, kA2_ok, e_tup, kTup_ok, e_lst, kLst_ok, e_mkF, e_mkT, e_call, kCall_ok, e_cb, kCB_ok, e_mt, kMt_ok, kMt2_ok, e_tyS, e_pNo, e_pSo, kSo_ok, e_sl, kSl_ok, kSl2_ok, kSl3_ok, e_it, kIt_tup, kIt_lst, kIt_wlst, kIt_str, e_for, kFor_ok, e_lc, kLc_ok, kLc2_ok, e_tget, kTG_ok, kTG2_ok, e_pat, e_tgN, e_tgNil, e_yes, e_endN, e_endR, e_gsub, kSub_ok, kSub2_ok, kSub3_ok, e_tr, kTr_bl, e_lcW, e_forW, List.getElem?_cons_zero, List.getElem?_cons_succ, List.set_cons_zero, List.set_cons_succ, List.length_cons, List.length_nil, if_pos, v_addI, v_sub, v_lt, v_le, v_gt, v_ge, v_eqI, v_neI, v_eqS, v_neS, Nat.reduceAdd, Nat.reduceLeDiff, Nat.reduceEqDiff, Int.reduceLT, Int.reduceLE, Int.reduceEq, Int.reduceAdd, Int.reduceSub, Int.reduceMul, Int.reduceNeg, decide_true, decide_false, Bool.not_true, Bool.not_false, Option.some.injEq, ite_true, ite_false, setA, hx1, star0', v_absI, e_mkT, e_rng1, hr]
  obtain ⟨ρ', S', h1, e4, e6, e7, e9, l2, e, I2, hl2⟩ := for_inv (tg := gPat [4] tgN) (xs := rngD 0 last.natAbs) (f := fSeq (fSet 6 (gTup (aCons (gC (.str "rest")) (aCons (gCB oTuple (aCons (gVar 8) (aNil))) (aCons (gVar 2) (aCons (g2 (oMod) (g2 (oAdd false) (g2 oIx (gVar 0) (gC (.int 2))) (gVar 4)) (gVar 2)) (aNil)))))))
    (fFor (gRng1 (aCons (gVar 1) (aNil))) (gPat [7] (tgN))
    (fSeq (fIf (gB (g2 (oGt) (gVar 5) (gC (.int 0))))
    (fSet 9 (gMakeN "Put" 2 1 4 m_Put___init__ (fun xs zs => xs ++ zs) (aCons (gCB oTuple (aCons (gLc false (gIt (gVar 8)) [10] [10] (tgN) (gYes) (g1 oNeg (gVar 10))) (aNil))) (aCons (g2 (oAdd false) (g2 (oAdd false) (g2 oIx (gVar 0) (gC (.int 2))) (gVar 4)) (g2 (oMul false) (gVar 2) (gVar 7))) (aNil))) (aCons (gVar 2) (aNil))))
    (fSet 9 (gMakeN "Put" 2 1 4 m_Put___init__ (fun xs zs => xs ++ zs) (aCons (gCB oTuple (aCons (gVar 8) (aNil))) (aCons (g2 (oSub) (g2 (oSub) (g2 (oMul false) (gVar 2) (g2 (oAdd false) (gVar 7) (gC (.int 1)))) (g2 oIx (gVar 0) (gC (.int 2)))) (gVar 4)) (aNil))) (aCons (gVar 2) (aNil)))))
    (fDrop (gMt .list (oAppend) (gVar 3) (aCons (gTup (aCons (gVar 9) (aCons (gVar 6) (aNil)))) (aNil)))))))
    (I := fun i ρ S2 => ∃ e4 e6 e7 e9 l2, ρ = [some (enc (.least (fore ++ [last]) c)), some (.int (W : Nat)), some (.int (last.natAbs : Nat)), some (.box S.length), e4, some (.int last), e6, e7, some (.lst (fore.map D.int)), e9, none] ∧ PutsI t S S2 l2 ∧ l2.length = W * i)
    (fun i d ρ S2 hd ⟨e4, e6, e7, e9, l2, e, I2, hl2⟩ => by
      obtain ⟨hi, rfl⟩ := rngD_get hd
      subst e
      have hmod : oMod (.int (c + (0 + (i : Int)))) (.int (last.natAbs : Nat)) S2 = some (.int ((c + (0 + (i : Int))) % (last.natAbs : Nat)), S2) := v_modP (by omega)
      have z1 := Int.emod_nonneg (c + (0 + (i : Int))) (show ((last.natAbs : Nat) : Int) ≠ 0 by omega)
      have z2 := Int.emod_lt_of_pos (c + (0 + (i : Int))) (show 0 < ((last.natAbs : Nat) : Int) by omega)
      have hw : Sz 1 (.rest fore (last.natAbs : Nat) ((c + (0 + (i : Int))) % (last.natAbs : Nat))) := ⟨by omega, fun w hw => by have := hf w hw; omega, by omega, by omega⟩
      have hwi : W * i ≤ 25 * 3 := Nat.mul_le_mul hW (by omega)
      obtain ⟨e7', e9', S3, l3, k1, k2, k3⟩ := puts_inner (e7 := e7) (e9 := e9) (i := i) (W := W) (c := c) (fore := fore) (last := last) hw hws ht hc hfl hf ⟨hb1, hb2⟩ h0 (by omega) hW I2 (by omega)
      refine ⟨_, S2, rfl, _, S3, .inl ?_, some (.int (i : Nat)), some (enc (.rest fore (last.natAbs : Nat) ((c + (0 + (i : Int))) % (last.natAbs : Nat)))), e7', e9', l3, rfl, k2, by rw [k3, hl2, Nat.mul_succ]⟩
      have hrw : kRng1 (some (.ok [.int (W : Int)], S2)) = some (.ok (wkC (rngD 0 W)), S2) := by
        rw [kRng1_ok (by omega)]; rfl
      simp only [e_seq, e_set, e_tup, e_cons, e_c, kA_ok, e_cb, e_var, setA, List.set_cons_succ, List.set_cons_zero, List.getElem?_cons_zero, List.getElem?_cons_succ, kVar_ok, e_nil, kA2_ok, kCB_ok, v_tupL, e_okM, e_2, k2_ok, k2b_ok, hx2, v_addI, hmod, kTup_ok, List.length_cons, List.length_nil, Nat.reduceAdd, Nat.reduceLeDiff, if_pos, kSet_ok, kSeq_nx, e_for, e_rng1, hrw, kFor_ok, e_forW]
      rw [show D.tup [D.str (Str.ofString "rest"), D.tup (fore.map D.int), .int (last.natAbs : Nat), .int ((c + (0 + (i : Int))) % (last.natAbs : Nat))] = enc (.rest fore (last.natAbs : Nat) ((c + (0 + (i : Int))) % (last.natAbs : Nat))) from rfl]
      rw [show D.int (0 + (i : Int)) = D.int (i : Int) by rw [Int.zero_add]]
      exact k1) (ρ := [some (enc (.least (fore ++ [last]) c)), some (.int (W : Nat)), some (.int (last.natAbs : Nat)), some (.box S.length), none, some (.int last), none, none, some (.lst (fore.map D.int)), none, none]) (S := S ++ [.lst []])
    ⟨none, none, none, none, [], rfl, ⟨Grow.push, get_push, fun p hp => absurd hp (List.not_mem_nil)⟩, by simp⟩
  rw [rngD_len] at hl2
  have hbnd : W * last.natAbs ≤ 25 * 3 := Nat.mul_le_mul hW (by omega)
  refine ⟨l2, S'.set S.length .dead, ?_, I2.grow.set (Nat.le_refl _), by omega, fun p hp => ?_⟩
  · rw [h1]
    subst e
    simp only [e_seq, kSeq_nx, kSeq_rt, e_next, e_if, kIf_t, kIf_f, e_ret, kRet_ok, e_drop, kDrop_ok, e_set, kSet_ok, e_asg, kAsg_ok, kAsg2_ok, e_par, kPar_ok, e_var, kVar_ok, e_c, e_okM, e_2, k2_ok, k2b_ok, e_1, k1_ok, e_b, kB_ok, e_ifE, kIfE_t, kIfE_f, e_and, kAnd_t, kAnd_f, e_or, kOr_t, kOr_f, e_not, kNot_ok, e_nil, e_cons, kA_ok, kA2_ok, e_tup, kTup_ok, e_lst, kLst_ok, e_mkF, e_mkT, e_call, kCall_ok, e_cb, kCB_ok, e_mt, kMt_ok, kMt2_ok, e_tyS, e_pNo, e_pSo, kSo_ok, e_sl, kSl_ok, kSl2_ok, kSl3_ok, e_it, kIt_tup, kIt_lst, kIt_wlst, kIt_str, e_for, kFor_ok, e_lc, kLc_ok, kLc2_ok, e_tget, kTG_ok, kTG2_ok, e_pat, e_tgN, e_tgNil, e_yes, e_endN, e_endR, e_gsub, kSub_ok, kSub2_ok, kSub3_ok, e_tr, kTr_bl, e_lcW, e_forW, List.getElem?_cons_zero, List.getElem?_cons_succ, List.set_cons_zero, List.set_cons_succ, List.length_cons, List.length_nil, if_pos, v_addI, v_sub, v_lt, v_le, v_gt, v_ge, v_eqI, v_neI, v_eqS, v_neS, Nat.reduceAdd, Nat.reduceLeDiff, Nat.reduceEqDiff, Int.reduceLT, Int.reduceLE, Int.reduceEq, Int.reduceAdd, Int.reduceSub, Int.reduceMul, Int.reduceNeg, decide_true, decide_false, Bool.not_true, Bool.not_false, Option.some.injEq, ite_true, ite_false, setA, e_frz, kFrz_ok, v_frz I2.found]
  · obtain ⟨hq, ⟨sl, st, pt, q1, q2⟩, q3⟩ := I2.all p hp
    exact ⟨⟨sl, st, pt, q1, by rw [List.getElem?_set_ne (by omega)]; exact q2⟩, q3⟩
end
end Cs
set_option linter.all false
set_option maxRecDepth 100000
set_option maxHeartbeats 1000000
namespace Cs
open PySem L2 Dm
/-! ### any_of -/
theorem pick_map {α β : Type} (f : α → β) (l : List α) (a b c : Option Int) : pickD (l.map f) a b c = (pickD l a b c).map f := by
  unfold pickD
  rw [List.length_map, List.map_filterMap]
  congr 1
  funext i
  rw [List.getElem?_map]
theorem fm_len {α : Type} (l : List α) : ∀ (is : List Nat), (∀ i ∈ is, i < l.length) → (is.filterMap (l[·]?)).length = is.length
  | [], _ => rfl
  | i :: r, h => by
    have h1 := h i (List.mem_cons_self ..)
    rw [List.filterMap_cons, List.getElem?_eq_getElem h1]
    simp [fm_len l r fun j hj => h j (List.mem_cons_of_mem _ hj)]
theorem pick_mem {α : Type} {l : List α} {a b c : Option Int} {x : α} (h : x ∈ pickD l a b c) : x ∈ l := by
  unfold pickD at h
  obtain ⟨i, _, e⟩ := List.mem_filterMap.mp h
  exact List.mem_of_getElem? e
theorem pick_ev {α : Type} (l : List α) : (pickD l none none (some 2)).length = (l.length + 1) / 2 := by
  unfold pickD
  have e : sliceRange (sliceBounds none none (some 2) l.length).1 (sliceBounds none none (some 2) l.length).2.1 (sliceBounds none none (some 2) l.length).2.2 = (List.range ((l.length + 1) / 2)).map fun k => 2 * k := by
    show sliceRange 0 (l.length : Int) 2 = _
    unfold sliceRange
    have : (if (2 : Int) > 0 then (if (0 : Int) < (l.length : Int) then ((l.length : Int) - 0 + 2 - 1) / 2 else 0) else (if (0 : Int) > (l.length : Int) then (0 - (l.length : Int) - 2 - 1) / (-2) else 0)).toNat = (l.length + 1) / 2 := by
      rw [if_pos (by decide)]
      split <;> omega
    dsimp only
    rw [this]
    refine List.map_congr_left fun k _ => ?_
    omega
  rw [e, fm_len]
  · simp
  · intro i hi
    obtain ⟨k, hk, rfl⟩ := List.mem_map.mp hi
    rw [List.mem_range] at hk
    omega
theorem pick_od {α : Type} (l : List α) : (pickD l (some 1) none (some 2)).length = l.length / 2 := by
  unfold pickD
  have e : sliceRange (sliceBounds (some 1) none (some 2) l.length).1 (sliceBounds (some 1) none (some 2) l.length).2.1 (sliceBounds (some 1) none (some 2) l.length).2.2 = (List.range (l.length / 2)).map fun k => 2 * k + 1 := by
    show sliceRange (max 0 (min 1 (l.length : Int))) (l.length : Int) 2 = _
    unfold sliceRange
    have : (if (2 : Int) > 0 then (if max 0 (min 1 (l.length : Int)) < (l.length : Int) then ((l.length : Int) - max 0 (min 1 (l.length : Int)) + 2 - 1) / 2 else 0) else (if max 0 (min 1 (l.length : Int)) > (l.length : Int) then (max 0 (min 1 (l.length : Int)) - (l.length : Int) - 2 - 1) / (-2) else 0)).toNat = l.length / 2 := by
      rw [if_pos (by decide)]
      split <;> omega
    dsimp only
    rw [this]
    refine List.map_congr_left fun k hk => ?_
    rw [List.mem_range] at hk
    omega
  rw [e, fm_len]
  · simp
  · intro i hi
    obtain ⟨k, hk, rfl⟩ := List.mem_map.mp hi
    rw [List.mem_range] at hk
    omega
section
variable {S : Store}
/-- a list, in a cell or as it is -/
structure Lk (S : Store) (x : D) (xs : List D) : Prop where
  as : (∃ n, x = .box n ∧ S[n]? = some (.lst xs)) ∨ x = .lst xs
theorem Lk.l {x : D} {xs : List D} (h : Lk S x xs) : sqL S x = some xs := by
  rcases h.as with ⟨n, e, h⟩ | e
  · rw [e]; exact v_boxL h
  · rw [e]; rfl
theorem Lk.a {x : D} {xs : List D} (h : Lk S x xs) : sqA S x = some xs := by
  rcases h.as with ⟨n, e, h⟩ | e
  · rw [e]; exact v_boxA h
  · rw [e]; rfl
theorem Lk.len {x : D} {xs : List D} (h : Lk S x xs) : oLen [x] S = some (.int (xs.length : Nat), S) := by
  have e : oLen [x] S = (sqA S x).map fun ds => (D.int ds.length, S) := by
    rcases h.as with ⟨n, e, _⟩ | e <;> rw [e] <;> rfl
  rw [e, h.a]; rfl
theorem Lk.sl {x : D} {xs : List D} (h : Lk S x xs) {lo hi : Option Int} : oSl false x lo hi S = some (.lst (cutD xs lo hi), S) := by
  have e : oSl false x lo hi S = (match sqL S x with
    | some ds => some (mkL false (cutD ds lo hi) S)
    | none => match sqT x with
      | some ds => some (if HT.sIx ds.length 0 lo = 0 ∧ HT.sIx ds.length ds.length hi = ds.length then x else .tup (cutD ds lo hi), S)
      | none => none) := by
    rcases h.as with ⟨n, e, _⟩ | e <;> rw [e] <;> rfl
  rw [e, h.l]; rfl
theorem Lk.ix0 {x y : D} {xs : List D} (h : Lk S x (y :: xs)) : oIx x (.int 0) S = some (y, S) := by
  refine orO_s (orO_s ?_)
  show ((sqL S x).bind fun ds => atI ds 0).map (fun d => (d, S)) = _
  rw [h.l, Option.bind_some, atI_0]
  rfl
theorem Lk.sl3 {x : D} {xs : List D} {ρ : Dm.Env} {g : EM} {pl ph pk : Dm.Env → M (Option Int)} {l u : Option Int} {k : Int} (h : Lk S x xs) (hg : g ρ S = some (.ok x, S)) (h1 : pl ρ S = some (.ok l, S)) (h2 : ph ρ S = some (.ok u, S)) (h3 : pk ρ S = some (.ok (some k), S)) (hk : k ≠ 0) (hl : (pickD xs l u (some k)).length ≤ 16777216) :
    gSl3 false g pl ph pk ρ S = some (.ok (.lst (pickD xs l u (some k))), S) := by
  unfold gSl3
  rw [hg]
  show bd (pl ρ S) _ = _
  rw [h1]
  show bd (ph ρ S) _ = _
  rw [h2]
  show bd (pk ρ S) _ = _
  rw [h3]
  show (match sqL S x with
  | some xs => if (some k) ≠ (some 0 : Option Int) ∧ (pickD xs l u (some k)).length ≤ sizeLine then okM (some (mkL false (pickD xs l u (some k)) S)) else none
  | none => none) = _
  rw [h.l]
  exact if_pos ⟨by simpa using hk, hl⟩
def pairsOr (l : List Sn) : List Sn := ((pickD l none none (some 2)).zip (pickD l (some 1) none (some 2))).map fun p => .two false p.1 p.2
def halved (l : List Sn) : List Sn := pairsOr l ++ l.drop (l.length / 2 * 2)
theorem halved_len (l : List Sn) : (halved l).length = (l.length + 1) / 2 := by
  unfold halved pairsOr
  rw [List.length_append, List.length_map, List.length_zip, pick_ev, pick_od, List.length_drop]
  omega
theorem halved_sz {d : Nat} {l : List Sn} (h : ∀ a ∈ l, Sz d a) : ∀ a ∈ halved l, Sz (d + 1) a := by
  intro a ha
  rcases List.mem_append.mp ha with q | q
  · obtain ⟨⟨x, y⟩, hm, rfl⟩ := List.mem_map.mp q
    exact ⟨h x (pick_mem (List.of_mem_zip hm).1), h y (pick_mem (List.of_mem_zip hm).2)⟩
  · exact (h a (List.mem_of_mem_drop q)).up
theorem any_turn {x : D} {l : List Sn} {e1 : Option D} (L : Lk S x (l.map enc)) (hl : l.length ≤ 100000) :
    (fSeq (fSet 1 (gSl false (gVar 0) (pSo (g2 (oMul false) (g2 (oDiv) (gCB oLen (aCons (gVar 0) (aNil))) (gC (.int 2))) (gC (.int 2)))) (pNo)))
    (fSet 0 (g2 (oAdd false) (gLc false (gZip false (aCons (gSl3 false (gVar 0) (pNo) (pNo) (pSo (gC (.int 2)))) (aCons (gSl3 false (gVar 0) (pSo (gC (.int 1))) (pNo) (pSo (gC (.int 2)))) (aNil)))) [2, 3] [2, 3] (tgTup 2 (tgCons (tgN) (tgCons (tgN) (tgNil)))) (gYes) (gTup (aCons (gC (.str "or")) (aCons (gVar 2) (aCons (gVar 3) (aNil)))))) (gVar 1)))) [some x, e1, none, none] S =
    some (.nx [some (.lst ((halved l).map enc)), some (.lst ((l.drop (l.length / 2 * 2)).map enc)), none, none], S) := by
  have hlen := L.len
  rw [List.length_map] at hlen
  have d1 : oDiv (.int (l.length : Nat)) (.int 2) S = some (.int ((l.length / 2 : Nat) : Int), S) := by
    rw [v_divP (by decide) (by decide)]; simp
  have m1 : oMul false (.int ((l.length / 2 : Nat) : Int)) (.int 2) S = some (.int ((l.length / 2 * 2 : Nat) : Int), S) := by
    rw [v_mulN (by omega)]; simp
  have ec : cutD (l.map enc) (some ((l.length / 2 * 2 : Nat) : Int)) none = (l.drop (l.length / 2 * 2)).map enc := by
    unfold cutD
    rw [List.length_map, HT.sIx_nat]
    show ((l.map enc).drop (min (l.length / 2 * 2) l.length)).take (l.length - min (l.length / 2 * 2) l.length) = _
    rw [Nat.min_eq_left (by omega), ← List.map_drop, List.take_of_length_le (by rw [List.length_map, List.length_drop]; omega)]
  have hp1 : (pickD l none none (some 2)).length ≤ 100000 := by rw [pick_ev]; omega
  have hp2 : (pickD l (some 1) none (some 2)).length ≤ 100000 := by rw [pick_od]; omega
  have hfirst : fSet 1 (gSl false (gVar 0) (pSo (g2 (oMul false) (g2 (oDiv) (gCB oLen (aCons (gVar 0) (aNil))) (gC (.int 2))) (gC (.int 2)))) (pNo)) [some x, e1, none, none] S = some (.nx [some x, some (.lst ((l.drop (l.length / 2 * 2)).map enc)), none, none], S) := by
    simp only [e_seq, kSeq_nx, kSeq_rt, e_next, e_if, kIf_t, kIf_f, e_ret, kRet_ok, e_drop, kDrop_ok, e_set, kSet_ok, e_asg, kAsg_ok, kAsg2_ok, e_par, kPar_ok, e_var, kVar_ok, e_c, e_okM, e_2, k2_ok, k2b_ok, e_1, k1_ok, e_b, kB_ok, e_ifE, kIfE_t, kIfE_f, e_and, kAnd_t, kAnd_f, e_or, kOr_t, kOr_f, e_not, kNot_ok, e_nil, e_cons, kA_ok, kA2_ok, e_tup, kTup_ok, e_lst, kLst_ok, e_mkF, e_mkT, e_call, kCall_ok, e_cb, kCB_ok, e_mt, kMt_ok, kMt2_ok, e_tyS, e_pNo, e_pSo, kSo_ok, e_sl, kSl_ok, kSl2_ok, kSl3_ok, e_it, kIt_tup, kIt_lst, kIt_wlst, kIt_str, e_for, kFor_ok, e_lc, kLc_ok, kLc2_ok, e_tget, kTG_ok, kTG2_ok, e_pat, e_tgN, e_tgNil, e_yes, e_endN, e_endR, e_gsub, kSub_ok, kSub2_ok, kSub3_ok, e_tr, kTr_bl, e_lcW, e_forW, List.getElem?_cons_zero, List.getElem?_cons_succ, List.set_cons_zero, List.set_cons_succ, List.length_cons, List.length_nil, if_pos, v_addI, v_sub, v_lt, v_le, v_gt, v_ge, v_eqI, v_neI, v_eqS, v_neS, Nat.reduceAdd, Nat.reduceLeDiff, Nat.reduceEqDiff, Int.reduceLT, Int.reduceLE, Int.reduceEq, Int.reduceAdd, Int.reduceSub, Int.reduceMul, Int.reduceNeg, decide_true, decide_false, Bool.not_true, Bool.not_false, Option.some.injEq, ite_true, ite_false, setA, hlen, d1, m1, L.sl, ec]
  rw [e_seq, hfirst, kSeq_nx]
  generalize hρ : ([some x, some (D.lst ((l.drop (l.length / 2 * 2)).map enc)), none, none] : Dm.Env) = ρ
  have e0 : ρ[0]? = some (some x) := by rw [← hρ]; rfl
  have e1 : ρ[1]? = some (some (.lst ((l.drop (l.length / 2 * 2)).map enc))) := by rw [← hρ]; rfl
  have s1 := L.sl3 (ρ := ρ) (g := gVar 0) (pl := pNo) (ph := pNo) (pk := pSo (gC (.int 2))) (l := none) (u := none) (k := 2) (by simp only [e_seq, kSeq_nx, kSeq_rt, e_next, e_if, kIf_t, kIf_f, e_ret, kRet_ok, e_drop, kDrop_ok, e_set, kSet_ok, e_asg, kAsg_ok, kAsg2_ok, e_par, kPar_ok, e_var, kVar_ok, e_c, e_okM, e_2, k2_ok, k2b_ok, e_1, k1_ok, e_b, kB_ok, e_ifE, kIfE_t, kIfE_f, e_and, kAnd_t, kAnd_f, e_or, kOr_t, kOr_f, e_not, kNot_ok, e_nil, e_cons, kA_ok, kA2_ok, e_tup, kTup_ok, e_lst, kLst_ok, e_mkF, e_mkT, e_call, kCall_ok, e_cb, kCB_ok, e_mt, kMt_ok, kMt2_ok, e_tyS, e_pNo, e_pSo, kSo_ok, e_sl, kSl_ok, kSl2_ok, kSl3_ok, e_it, kIt_tup, kIt_lst, kIt_wlst, kIt_str, e_for, kFor_ok, e_lc, kLc_ok, kLc2_ok, e_tget, kTG_ok, kTG2_ok, e_pat, e_tgN, e_tgNil, e_yes, e_endN, e_endR, e_gsub, kSub_ok, kSub2_ok, kSub3_ok, e_tr, kTr_bl, e_lcW, e_forW, List.getElem?_cons_zero, List.getElem?_cons_succ, List.set_cons_zero, List.set_cons_succ, List.length_cons, List.length_nil, if_pos, v_addI, v_sub, v_lt, v_le, v_gt, v_ge, v_eqI, v_neI, v_eqS, v_neS, Nat.reduceAdd, Nat.reduceLeDiff, Nat.reduceEqDiff, Int.reduceLT, Int.reduceLE, Int.reduceEq, Int.reduceAdd, Int.reduceSub, Int.reduceMul, Int.reduceNeg, decide_true, decide_false, Bool.not_true, Bool.not_false, Option.some.injEq, ite_true, ite_false, setA, e0]) rfl rfl rfl (by decide) (by rw [pick_map, List.length_map]; omega)
  have s2 := L.sl3 (ρ := ρ) (g := gVar 0) (pl := pSo (gC (.int 1))) (ph := pNo) (pk := pSo (gC (.int 2))) (l := some 1) (u := none) (k := 2) (by simp only [e_seq, kSeq_nx, kSeq_rt, e_next, e_if, kIf_t, kIf_f, e_ret, kRet_ok, e_drop, kDrop_ok, e_set, kSet_ok, e_asg, kAsg_ok, kAsg2_ok, e_par, kPar_ok, e_var, kVar_ok, e_c, e_okM, e_2, k2_ok, k2b_ok, e_1, k1_ok, e_b, kB_ok, e_ifE, kIfE_t, kIfE_f, e_and, kAnd_t, kAnd_f, e_or, kOr_t, kOr_f, e_not, kNot_ok, e_nil, e_cons, kA_ok, kA2_ok, e_tup, kTup_ok, e_lst, kLst_ok, e_mkF, e_mkT, e_call, kCall_ok, e_cb, kCB_ok, e_mt, kMt_ok, kMt2_ok, e_tyS, e_pNo, e_pSo, kSo_ok, e_sl, kSl_ok, kSl2_ok, kSl3_ok, e_it, kIt_tup, kIt_lst, kIt_wlst, kIt_str, e_for, kFor_ok, e_lc, kLc_ok, kLc2_ok, e_tget, kTG_ok, kTG2_ok, e_pat, e_tgN, e_tgNil, e_yes, e_endN, e_endR, e_gsub, kSub_ok, kSub2_ok, kSub3_ok, e_tr, kTr_bl, e_lcW, e_forW, List.getElem?_cons_zero, List.getElem?_cons_succ, List.set_cons_zero, List.set_cons_succ, List.length_cons, List.length_nil, if_pos, v_addI, v_sub, v_lt, v_le, v_gt, v_ge, v_eqI, v_neI, v_eqS, v_neS, Nat.reduceAdd, Nat.reduceLeDiff, Nat.reduceEqDiff, Int.reduceLT, Int.reduceLE, Int.reduceEq, Int.reduceAdd, Int.reduceSub, Int.reduceMul, Int.reduceNeg, decide_true, decide_false, Bool.not_true, Bool.not_false, Option.some.injEq, ite_true, ite_false, setA, e0]) rfl rfl rfl (by decide) (by rw [pick_map, List.length_map]; omega)
  rw [pick_map] at s1 s2
  have hz : zipD ((pickD l none none (some 2)).map enc) ((pickD l (some 1) none (some 2)).map enc) = ((pickD l none none (some 2)).zip (pickD l (some 1) none (some 2))).map fun p => D.tup [enc p.1, enc p.2] := by
    unfold zipD
    rw [List.zip_map, List.map_map]
    rfl
  have hw : wipeA ρ [2, 3] = ρ := by rw [← hρ]; rfl
  have hc := lc_mapM (ns := [2, 3]) (pf := tgTup 2 (tgCons tgN (tgCons tgN tgNil))) (t := gYes) (el := gTup (aCons (gC (.str "or")) (aCons (gVar 2) (aCons (gVar 3) (aNil))))) (ρ0 := ρ) (S := S)
    (fun p : Sn × Sn => D.tup [enc p.1, enc p.2]) (fun p => enc (.two false p.1 p.2)) (l := (pickD l none none (some 2)).zip (pickD l (some 1) none (some 2))) [] (fun p _ => by
      refine ⟨[enc p.1, enc p.2], rfl, rfl, ?_⟩
      rw [← hρ]
      simp only [e_seq, kSeq_nx, kSeq_rt, e_next, e_if, kIf_t, kIf_f, e_ret, kRet_ok, e_drop, kDrop_ok, e_set, kSet_ok, e_asg, kAsg_ok, kAsg2_ok, e_par, kPar_ok, e_var, kVar_ok, e_c, e_okM, e_2, k2_ok, k2b_ok, e_1, k1_ok, e_b, kB_ok, e_ifE, kIfE_t, kIfE_f, e_and, kAnd_t, kAnd_f, e_or, kOr_t, kOr_f, e_not, kNot_ok, e_nil, e_cons, kA_ok, kA2_ok, e_tup, kTup_ok, e_lst, kLst_ok, e_mkF, e_mkT, e_call, kCall_ok, e_cb, kCB_ok, e_mt, kMt_ok, kMt2_ok, e_tyS, e_pNo, e_pSo, kSo_ok, e_sl, kSl_ok, kSl2_ok, kSl3_ok, e_it, kIt_tup, kIt_lst, kIt_wlst, kIt_str, e_for, kFor_ok, e_lc, kLc_ok, kLc2_ok, e_tget, kTG_ok, kTG2_ok, e_pat, e_tgN, e_tgNil, e_yes, e_endN, e_endR, e_gsub, kSub_ok, kSub2_ok, kSub3_ok, e_tr, kTr_bl, e_lcW, e_forW, List.getElem?_cons_zero, List.getElem?_cons_succ, List.set_cons_zero, List.set_cons_succ, List.length_cons, List.length_nil, if_pos, v_addI, v_sub, v_lt, v_le, v_gt, v_ge, v_eqI, v_neI, v_eqS, v_neS, Nat.reduceAdd, Nat.reduceLeDiff, Nat.reduceEqDiff, Int.reduceLT, Int.reduceLE, Int.reduceEq, Int.reduceAdd, Int.reduceSub, Int.reduceMul, Int.reduceNeg, decide_true, decide_false, Bool.not_true, Bool.not_false, Option.some.injEq, ite_true, ite_false, setA]
      rfl) (by rw [List.length_zip]; simp; omega)
  have hlc : gLc false (gZip false (aCons (gSl3 false (gVar 0) (pNo) (pNo) (pSo (gC (.int 2)))) (aCons (gSl3 false (gVar 0) (pSo (gC (.int 1))) (pNo) (pSo (gC (.int 2)))) (aNil)))) [2, 3] [2, 3] (tgTup 2 (tgCons (tgN) (tgCons (tgN) (tgNil)))) (gYes) (gTup (aCons (gC (.str "or")) (aCons (gVar 2) (aCons (gVar 3) (aNil))))) ρ S = some (.ok (.lst ((pairsOr l).map enc)), S) := by
    simp only [e_lc, e_zip, e_cons, s1, kA_ok, s2, e_nil, kA2_ok, kZip_ll, wkZ_fll, hz, hw, kLc_ok, e_lcW, hc, kLc2_ok, e_mkF, e_okM, List.nil_append]
    unfold pairsOr
    rw [List.map_map]
    rfl
  have ha : oAdd false (.lst ((pairsOr l).map enc)) (.lst ((l.drop (l.length / 2 * 2)).map enc)) S = some (.lst ((halved l).map enc), S) := by
    rw [v_addL (by
      have := halved_len l
      unfold halved at this
      rw [List.length_append] at this
      rw [List.length_map, List.length_map]
      omega), ← List.map_append]
    rfl
  simp only [e_set, e_2, hlc, k2_ok, e_var, e1, kVar_ok, k2b_ok, ha, e_okM, kSet_ok]
  rw [← hρ]
  rfl
theorem any_ok {d : Nat} {x : D} {l : List Sn} {k : Nat} (L : Lk S x (l.map enc)) (h1 : 1 ≤ l.length) (h2 : l.length ≤ 2 ^ k) (hk : k ≤ 16) (h : ∀ a ∈ l, Sz d a) : ∃ b, Sz (d + k) b ∧ m_any_of [x] S = some (.ok (enc b), S) := by
  obtain ⟨ρ', S', hw, y, e1, hρ, b, Lb, hS, hb⟩ := while_inv (t := gB (g2 (oGt) (gCB oLen (aCons (gVar 0) (aNil))) (gC (.int 1)))) (f := (fSeq (fSet 1 (gSl false (gVar 0) (pSo (g2 (oMul false) (g2 (oDiv) (gCB oLen (aCons (gVar 0) (aNil))) (gC (.int 2))) (gC (.int 2)))) (pNo)))
    (fSet 0 (g2 (oAdd false) (gLc false (gZip false (aCons (gSl3 false (gVar 0) (pNo) (pNo) (pSo (gC (.int 2)))) (aCons (gSl3 false (gVar 0) (pSo (gC (.int 1))) (pNo) (pSo (gC (.int 2)))) (aNil)))) [2, 3] [2, 3] (tgTup 2 (tgCons (tgN) (tgCons (tgN) (tgNil)))) (gYes) (gTup (aCons (gC (.str "or")) (aCons (gVar 2) (aCons (gVar 3) (aNil)))))) (gVar 1)))))
    (I := fun n ρ S1 => ∃ (y : D) (e1 : Option D) (l : List Sn) (j : Nat), ρ = [some y, e1, none, none] ∧ S1 = S ∧ Lk S y (l.map enc) ∧ l.length = n ∧ 1 ≤ n ∧ j ≤ k ∧ n ≤ 2 ^ j ∧ ∀ a ∈ l, Sz (d + (k - j)) a)
    (J := fun ρ S1 => ∃ (y : D) (e1 : Option D), ρ = [some y, e1, none, none] ∧ ∃ b, Lk S y [enc b] ∧ S1 = S ∧ Sz (d + k) b)
    (fun n ρ S1 ⟨y, e1, l, j, hρ, hS, Ly, hln, hn, hj, hnj, hall⟩ => by
      subst hρ hS hln
      have hlen := Ly.len
      rw [List.length_map] at hlen
      have hp : 2 ^ j ≤ 2 ^ 16 := Nat.pow_le_pow_right (by decide) (by omega)
      by_cases hc : 1 < l.length
      · refine ⟨true, S1, ?_, .inr ⟨rfl, _, S1, (halved l).length, .inl (any_turn Ly (by omega)), by rw [halved_len]; omega, ?_⟩⟩
        · simp only [e_seq, kSeq_nx, kSeq_rt, e_next, e_if, kIf_t, kIf_f, e_ret, kRet_ok, e_drop, kDrop_ok, e_set, kSet_ok, e_asg, kAsg_ok, kAsg2_ok, e_par, kPar_ok, e_var, kVar_ok, e_c, e_okM, e_2, k2_ok, k2b_ok, e_1, k1_ok, e_b, kB_ok, e_ifE, kIfE_t, kIfE_f, e_and, kAnd_t, kAnd_f, e_or, kOr_t, kOr_f, e_not, kNot_ok, e_nil, e_cons, kA_ok, kA2_ok, e_tup, kTup_ok, e_lst, kLst_ok, e_mkF, e_mkT, e_call, kCall_ok, e_cb, kCB_ok, e_mt, kMt_ok, kMt2_ok, e_tyS, e_pNo, e_pSo, kSo_ok, e_sl, kSl_ok, kSl2_ok, kSl3_ok, e_it, kIt_tup, kIt_lst, kIt_wlst, kIt_str, e_for, kFor_ok, e_lc, kLc_ok, kLc2_ok, e_tget, kTG_ok, kTG2_ok, e_pat, e_tgN, e_tgNil, e_yes, e_endN, e_endR, e_gsub, kSub_ok, kSub2_ok, kSub3_ok, e_tr, kTr_bl, e_lcW, e_forW, List.getElem?_cons_zero, List.getElem?_cons_succ, List.set_cons_zero, List.set_cons_succ, List.length_cons, List.length_nil, if_pos, v_addI, v_sub, v_lt, v_le, v_gt, v_ge, v_eqI, v_neI, v_eqS, v_neS, Nat.reduceAdd, Nat.reduceLeDiff, Nat.reduceEqDiff, Int.reduceLT, Int.reduceLE, Int.reduceEq, Int.reduceAdd, Int.reduceSub, Int.reduceMul, Int.reduceNeg, decide_true, decide_false, Bool.not_true, Bool.not_false, Option.some.injEq, ite_true, ite_false, setA, hlen, decide_eq_true (show (1 : Int) < (l.length : Nat) by omega)]
        · obtain ⟨j', rfl⟩ : ∃ j', j = j' + 1 := ⟨j - 1, by
            rcases Nat.eq_zero_or_pos j with e | e
            · subst e; simp at hnj; omega
            · omega⟩
          refine ⟨_, _, halved l, j', rfl, rfl, ⟨.inr rfl⟩, rfl, by rw [halved_len]; omega, by omega, by rw [halved_len]; rw [Nat.pow_succ] at hnj; omega, ?_⟩
          have := halved_sz hall
          rw [show d + (k - (j' + 1)) + 1 = d + (k - j') by omega] at this
          exact this
      · refine ⟨false, S1, ?_, .inl ⟨rfl, y, e1, rfl, ?_⟩⟩
        · simp only [e_seq, kSeq_nx, kSeq_rt, e_next, e_if, kIf_t, kIf_f, e_ret, kRet_ok, e_drop, kDrop_ok, e_set, kSet_ok, e_asg, kAsg_ok, kAsg2_ok, e_par, kPar_ok, e_var, kVar_ok, e_c, e_okM, e_2, k2_ok, k2b_ok, e_1, k1_ok, e_b, kB_ok, e_ifE, kIfE_t, kIfE_f, e_and, kAnd_t, kAnd_f, e_or, kOr_t, kOr_f, e_not, kNot_ok, e_nil, e_cons, kA_ok, kA2_ok, e_tup, kTup_ok, e_lst, kLst_ok, e_mkF, e_mkT, e_call, kCall_ok, e_cb, kCB_ok, e_mt, kMt_ok, kMt2_ok, e_tyS, e_pNo, e_pSo, kSo_ok, e_sl, kSl_ok, kSl2_ok, kSl3_ok, e_it, kIt_tup, kIt_lst, kIt_wlst, kIt_str, e_for, kFor_ok, e_lc, kLc_ok, kLc2_ok, e_tget, kTG_ok, kTG2_ok, e_pat, e_tgN, e_tgNil, e_yes, e_endN, e_endR, e_gsub, kSub_ok, kSub2_ok, kSub3_ok, e_tr, kTr_bl, e_lcW, e_forW, List.getElem?_cons_zero, List.getElem?_cons_succ, List.set_cons_zero, List.set_cons_succ, List.length_cons, List.length_nil, if_pos, v_addI, v_sub, v_lt, v_le, v_gt, v_ge, v_eqI, v_neI, v_eqS, v_neS, Nat.reduceAdd, Nat.reduceLeDiff, Nat.reduceEqDiff, Int.reduceLT, Int.reduceLE, Int.reduceEq, Int.reduceAdd, Int.reduceSub, Int.reduceMul, Int.reduceNeg, decide_true, decide_false, Bool.not_true, Bool.not_false, Option.some.injEq, ite_true, ite_false, setA, hlen, decide_eq_false (show ¬ (1 : Int) < (l.length : Nat) by omega)]
        · match l, hn, hc with
          | [b], _, _ => exact ⟨b, Ly, rfl, (hall b (by simp)).le (by omega)⟩
          | _ :: _ :: _, _, hc => simp at hc) l.length [some x, none, none, none] S ⟨x, none, l, k, rfl, rfl, L, rfl, h1, Nat.le_refl _, h2, by simpa using h⟩
  subst hρ hS
  refine ⟨b, hb, ?_⟩
  unfold m_any_of b_any_of
  rw [e_sem1, show startD 4 [x] = [some x, none, none, none] from rfl, e_seq, hw]
  have q0 := Lb.ix0
  rw [kSeq_nx, e_ret, e_2, e_var]
  show endD (kRet _ (k2 (some (.ok y, _)) oIx _ _)) = _
  rw [k2_ok, e_c, k2b_ok, q0]
  rfl

end
end Cs
set_option linter.all false
set_option maxRecDepth 100000
set_option maxHeartbeats 1000000
namespace Cs
open PySem L2 Dm
mutual
theorem und_enc (n : Nat) : ∀ s : Sn, undD n (enc s) = true
  | .least ws c => by
    show (true && (undL n (ws.map D.int) && (true && true))) = true
    rw [und_ints]; rfl
  | .rest ws m r => by
    show (true && (undL n (ws.map D.int) && (true && (true && true)))) = true
    rw [und_ints]; rfl
  | .no s => by
    show (true && (undD n (enc s) && true)) = true
    rw [und_enc n s]; rfl
  | .two w a b => by
    show (true && (undD n (enc a) && (undD n (enc b) && true))) = true
    rw [und_enc n a, und_enc n b]; rfl
theorem und_ints (n : Nat) : ∀ ws : List Int, undL n (ws.map D.int) = true
  | [] => rfl
  | w :: r => by
    show (true && undL n (r.map D.int)) = true
    rw [und_ints n r]; rfl
end
section
variable {S : Store}
theorem nought_ok {t : Nat} (ht : t = 2 ∨ t = 3) : oMulT false (.tup [.int 0]) (.int ((t : Int) - 1)) S = some (.tup ((List.replicate (t - 1) (0 : Int)).map D.int), S) := by
  rcases ht with e | e
  · subst e; rfl
  · subst e; rfl
theorem Put1.set {t n : Nat} {S1 : Store} {p : Nat × Sn} {xs : List D} {c : Cell} (h : Put1 t S1 p) (hn : S1[n]? = some (.lst xs)) : Put1 t (S1.set n c) p := by
  obtain ⟨⟨sl, st, pt, h1, h2⟩, h3⟩ := h
  refine ⟨⟨sl, st, pt, h1, ?_⟩, h3⟩
  have : n ≠ p.1 := by
    intro e
    rw [e, h2] at hn
    cases hn
  rw [List.getElem?_set_ne this]
  exact h2
structure FI (n : Nat) (S S1 : Store) (l : List Sn) : Prop where
  low : S.length ≤ n
  grow : Grow S S1
  found : S1[n]? = some (.lst (l.map enc))
  all : ∀ a ∈ l, Sz 5 a
theorem fi_turn {t k n : Nat} {A w : Sn} {S1 : Store} {l : List Sn} {i : Nat} {x1 x2 e4 e5 : Option D} (F : FI n S S1 l) (hA : SnOk t k A) (hk : k ≤ 2) (ht : 1 ≤ t ∧ t ≤ 4) (hp : Put1 t S1 (i, w)) (hl : l.length ≤ 1000) :
    ∃ a, fDrop (gMt .list (oAppend) (gVar 3) (aCons (gTup (aCons (gC (.str "and")) (aCons (gVar 7) (aCons (gTup (aCons (gC (.str "and")) (aCons (gMeth [("Put", 1, m_Put_is_number, [])] "is_number" (gVar 6) aNil) (aCons (gMeth [("Put", 2, (m_Put_into 40), [])] "into" (gVar 6) (aCons (gVar 0) (aNil))) (aNil))))) (aNil))))) (aNil)))
      [some (enc A), x1, x2, some (.box n), e4, e5, some (.box i), some (enc w)] S1 = some (.nx [some (enc A), x1, x2, some (.box n), e4, e5, some (.box i), some (enc w)], S1.set n (.lst ((l ++ [a]).map enc))) ∧
    FI n S (S1.set n (.lst ((l ++ [a]).map enc))) (l ++ [a]) := by
  obtain ⟨⟨sl, st, pt, P, hi⟩, hw⟩ := hp
  have h1 := is_number_ok hi
  have h2 := into_ok hi P ht A k 40 hA (by omega)
  have hm1 : ∀ {h : AM} {ρ : Dm.Env}, kMeth [("Put", 1, m_Put_is_number, [])] "is_number" h ρ (some (.ok (.box i), S1)) = kMeth2 1 m_Put_is_number [] (.box i) (h ρ S1) := v_meth1 hi rfl
  have hm2 : kMeth2 1 m_Put_is_number [] (.box i) (some (.ok [], S1)) = m_Put_is_number [.box i] S1 := kMeth2_ok (dd := []) rfl
  refine ⟨.two true w (.two true (.least sl (-st)) (intoS sl st pt A)), ?_, ⟨F.low, F.grow.set F.low, get_set F.found, ?_⟩⟩
  · have ha := v_app (y := enc (.two true w (.two true (.least sl (-st)) (intoS sl st pt A)))) F.found (by rw [List.length_map]; omega)
    have hq : D.tup [.str "and", enc w, .tup [.str "and", enc (.least sl (-st)), enc (intoS sl st pt A)]] = enc (.two true w (.two true (.least sl (-st)) (intoS sl st pt A))) := rfl
    simp only [e_seq, kSeq_nx, kSeq_rt, e_next, e_if, kIf_t, kIf_f, e_ret, kRet_ok, e_drop, kDrop_ok, e_set, kSet_ok, e_asg, kAsg_ok, kAsg2_ok, e_par, kPar_ok, e_var, kVar_ok, e_c, e_okM, e_2, k2_ok, k2b_ok, e_1, k1_ok, e_b, kB_ok, e_ifE, kIfE_t, kIfE_f, e_and, kAnd_t, kAnd_f, e_or, kOr_t, kOr_f, e_not, kNot_ok, e_nil, e_cons, kA_ok, kA2_ok, e_tup, kTup_ok, e_lst, kLst_ok, e_mkF, e_mkT, e_call, kCall_ok, e_cb, kCB_ok, e_mt, kMt_ok, kMt2_ok, e_tyS, e_pNo, e_pSo, kSo_ok, e_sl, kSl_ok, kSl2_ok, kSl3_ok, e_it, kIt_tup, kIt_lst, kIt_wlst, kIt_str, e_for, kFor_ok, e_lc, kLc_ok, kLc2_ok, e_tget, kTG_ok, kTG2_ok, e_pat, e_tgN, e_tgNil, e_yes, e_endN, e_endR, e_gsub, kSub_ok, kSub2_ok, kSub3_ok, e_tr, kTr_bl, e_lcW, e_forW, List.getElem?_cons_zero, List.getElem?_cons_succ, List.set_cons_zero, List.set_cons_succ, List.length_cons, List.length_nil, if_pos, v_addI, v_sub, v_lt, v_le, v_gt, v_ge, v_eqI, v_neI, v_eqS, v_neS, Nat.reduceAdd, Nat.reduceLeDiff, Nat.reduceEqDiff, Int.reduceLT, Int.reduceLE, Int.reduceEq, Int.reduceAdd, Int.reduceSub, Int.reduceMul, Int.reduceNeg, decide_true, decide_false, Bool.not_true, Bool.not_false, Option.some.injEq, ite_true, ite_false, setA, v_ty F.found, e_meth, hm1, hm2, h1, mth_i hi, mth_2, h2, hq, ha]
    rw [List.map_append]
    rfl
  · intro a ha
    rcases List.mem_append.mp ha with q | q
    · exact F.all a q
    · rw [List.mem_singleton] at q
      subst q
      have hlen := P.len
      have hst := P.st0
      have z1 : Sz 1 (.least sl (-st)) := ⟨by omega, fun w hw => by have := P.bd w hw; omega, by omega⟩
      have z2 := (into_sz ht P hA).le (show k + 1 ≤ 3 by omega)
      have z3 : Sz 3 (.least sl (-st)) := z1.le (by omega)
      exact ⟨Sz.le (e := 4) hw (by decide), z3, z2⟩
theorem found_ok {t k : Nat} {A : Sn} {v : Nat} (hA : SnOk t k A) (hk : k ≤ 2) (ht : t = 2 ∨ t = 3) (hv : v ≤ 25) : ∃ l S', gLc true (gRng1 (aCons (gVar 1) (aNil))) [5] [5] (tgN) (gYes) (gMeth [("Put", 2, (m_Put_into 40), [])] "into" (gMake "Put" 4 m_Put___init__ [.int 1] (aCons (gVar 2) (aCons (gVar 5) (aNil)))) (aCons (gVar 0) (aNil)))
    [some (enc A), some (.int (v : Nat)), some (.tup ((List.replicate (t - 1) (0 : Int)).map D.int)), none, none, none, none, none] S = some (.ok (.box S'.length), S' ++ [.lst (l.map enc)]) ∧ FI S'.length S (S' ++ [.lst (l.map enc)]) l ∧ l.length = v := by
  have ht4 : 1 ≤ t ∧ t ≤ 4 := by omega
  obtain ⟨acc, S', h1, ⟨l, e, hl, G, hall⟩, _⟩ := lc_inv (ns := [5]) (pf := tgN) (t := gYes) (el := gMeth [("Put", 2, (m_Put_into 40), [])] "into" (gMake "Put" 4 m_Put___init__ [.int 1] (aCons (gVar 2) (aCons (gVar 5) (aNil)))) (aCons (gVar 0) (aNil)))
    (ρ0 := [some (enc A), some (.int (v : Nat)), some (.tup ((List.replicate (t - 1) (0 : Int)).map D.int)), none, none, none, none, none]) (S := S) (xs := rngD 0 v) (bad := 100)
    (I := fun i acc S1 => ∃ l : List Sn, acc = l.map enc ∧ l.length = i ∧ Grow S S1 ∧ ∀ a ∈ l, Sz 5 a) (by rw [rngD_len]; omega) (by decide)
    (fun i d acc S1 hd ⟨l, e, hl, G, hall⟩ _ => by
      obtain ⟨hi, rfl⟩ := rngD_get hd
      refine ⟨[.int (0 + (i : Nat))], S1, rfl, S1, .inr ⟨rfl, ?_⟩⟩
      have P : PutOk t (List.replicate (t - 1) (0 : Int)) (0 + (i : Nat)) 1 := ⟨by rw [List.length_replicate]; omega, fun w hw => by have := List.eq_of_mem_replicate hw; omega, by omega, by omega⟩
      have hp : (S1 ++ [putC (List.replicate (t - 1) (0 : Int)) (0 + (i : Nat)) 1])[S1.length]? = some (putC (List.replicate (t - 1) (0 : Int)) (0 + (i : Nat)) 1) := get_push
      have h2 := into_ok hp P ht4 A k 40 hA (by omega)
      refine ⟨enc (intoS (List.replicate (t - 1) (0 : Int)) (0 + (i : Nat)) 1 A), S1 ++ [putC (List.replicate (t - 1) (0 : Int)) (0 + (i : Nat)) 1], ?_, l ++ [intoS (List.replicate (t - 1) (0 : Int)) (0 + (i : Nat)) 1 A], ?_, by simp [hl], G.trans Grow.push, ?_⟩
      · simp only [e_seq, kSeq_nx, kSeq_rt, e_next, e_if, kIf_t, kIf_f, e_ret, kRet_ok, e_drop, kDrop_ok, e_set, kSet_ok, e_asg, kAsg_ok, kAsg2_ok, e_par, kPar_ok, e_var, kVar_ok, e_c, e_okM, e_2, k2_ok, k2b_ok, e_1, k1_ok, e_b, kB_ok, e_ifE, kIfE_t, kIfE_f, e_and, kAnd_t, kAnd_f, e_or, kOr_t, kOr_f, e_not, kNot_ok, e_nil, e_cons, kA_ok, kA2_ok, e_tup, kTup_ok, e_lst, kLst_ok, e_mkF, e_mkT, e_call, kCall_ok, e_cb, kCB_ok, e_mt, kMt_ok, kMt2_ok, e_tyS, e_pNo, e_pSo, kSo_ok, e_sl, kSl_ok, kSl2_ok, kSl3_ok, e_it, kIt_tup, kIt_lst, kIt_wlst, kIt_str, e_for, kFor_ok, e_lc, kLc_ok, kLc2_ok, e_tget, kTG_ok, kTG2_ok, e_pat, e_tgN, e_tgNil, e_yes, e_endN, e_endR, e_gsub, kSub_ok, kSub2_ok, kSub3_ok, e_tr, kTr_bl, e_lcW, e_forW, List.getElem?_cons_zero, List.getElem?_cons_succ, List.set_cons_zero, List.set_cons_succ, List.length_cons, List.length_nil, if_pos, v_addI, v_sub, v_lt, v_le, v_gt, v_ge, v_eqI, v_neI, v_eqS, v_neS, Nat.reduceAdd, Nat.reduceLeDiff, Nat.reduceEqDiff, Int.reduceLT, Int.reduceLE, Int.reduceEq, Int.reduceAdd, Int.reduceSub, Int.reduceMul, Int.reduceNeg, decide_true, decide_false, Bool.not_true, Bool.not_false, Option.some.injEq, ite_true, ite_false, setA, e_meth, e_make, kMake_ok, List.cons_append, List.nil_append, put_make, mth_i hp, mth_2, h2]
      · rw [e, List.map_append]; rfl
      · intro a ha
        rcases List.mem_append.mp ha with q | q
        · exact hall a q
        · rw [List.mem_singleton] at q
          subst q
          exact (into_sz ht4 P hA).le (by omega))
    ⟨[], rfl, rfl, Grow.refl S, fun a ha => absurd ha (List.not_mem_nil)⟩
  refine ⟨l, S', ?_, ⟨G.len, G.trans Grow.push, get_push, hall⟩, by rw [hl, rngD_len]⟩
  have hr : kRng1 (some (.ok [.int (v : Int)], S)) = some (.ok (wkC (rngD 0 v)), S) := by
    rw [kRng1_ok (by omega)]; rfl
  simp only [e_seq, kSeq_nx, kSeq_rt, e_next, e_if, kIf_t, kIf_f, e_ret, kRet_ok, e_drop, kDrop_ok, e_set, kSet_ok, e_asg, kAsg_ok, kAsg2_ok, e_par, kPar_ok, e_var, kVar_ok, e_c, e_okM, e_2, k2_ok, k2b_ok, e_1, k1_ok, e_b, kB_ok, e_ifE, kIfE_t, kIfE_f, e_and, kAnd_t, kAnd_f, e_or, kOr_t, kOr_f, e_not, kNot_ok, e_nil, e_cons, kA_ok, kA2_ok, e_tup, kTup_ok, e_lst, kLst_ok, e_mkF, e_mkT, e_call, kCall_ok, e_cb, kCB_ok, e_mt, kMt_ok, kMt2_ok, e_tyS, e_pNo, e_pSo, kSo_ok, e_sl, kSl_ok, kSl2_ok, kSl3_ok, e_it, kIt_tup, kIt_lst, kIt_wlst, kIt_str, e_for, kFor_ok, e_lc, kLc_ok, kLc2_ok, e_tget, kTG_ok, kTG2_ok, e_pat, e_tgN, e_tgNil, e_yes, e_endN, e_endR, e_gsub, kSub_ok, kSub2_ok, kSub3_ok, e_tr, kTr_bl, e_lcW, e_forW, List.getElem?_cons_zero, List.getElem?_cons_succ, List.set_cons_zero, List.set_cons_succ, List.length_cons, List.length_nil, if_pos, v_addI, v_sub, v_lt, v_le, v_gt, v_ge, v_eqI, v_neI, v_eqS, v_neS, Nat.reduceAdd, Nat.reduceLeDiff, Nat.reduceEqDiff, Int.reduceLT, Int.reduceLE, Int.reduceEq, Int.reduceAdd, Int.reduceSub, Int.reduceMul, Int.reduceNeg, decide_true, decide_false, Bool.not_true, Bool.not_false, Option.some.injEq, ite_true, ite_false, setA, e_rng1, hr, wipeA, h1, e]
theorem some_ok {t k : Nat} {A : Sn} (hA : SnOk t k A) (hk : k ≤ 2) (ht : t = 2 ∨ t = 3) (hn : (atoms A).length ≤ 2) (hwt : (wts A).length = t) : ∃ b, Sz 13 b ∧ m_plainly_some [enc A] S = some (.ok (enc b), S) := by
  have ht4 : 1 ≤ t ∧ t ≤ 4 := by omega
  have hat := atoms_wt hA
  have hdep : dep A ≤ 20 := by have := (hA.sz (by omega)).dep; omega
  obtain ⟨v, v1, v2, hv⟩ := wheel_ok (S := S) hat (by omega) (by omega) hdep
  have hv25 : v ≤ 25 := by
    have : (5 : Int) ^ (atoms A).length ≤ 5 ^ 2 := by
      have : 5 ^ (atoms A).length ≤ 5 ^ 2 := Nat.pow_le_pow_right (by decide) hn
      exact_mod_cast this
    omega
  obtain ⟨v, rfl⟩ : ∃ n : Nat, v = n := ⟨v.toNat, by omega⟩
  have hmany := many_ok (S := S) A
  rw [hwt] at hmany
  have hno := nought_ok (S := S) ht
  obtain ⟨l0, S1, hf1, F1, hl0⟩ := found_ok (S := S) hA hk ht (show v ≤ 25 by omega)
  have hbr := breaking_ok (S := S1 ++ [.lst (l0.map enc)]) hat (by omega) hdep
  have hbl : ((atoms A).filter brk).length ≤ 2 := Nat.le_trans (List.length_filter_le ..) hn
  have hball : ∀ a ∈ (atoms A).filter brk, SnOk t 0 a ∧ brk a = true := fun a ha => ⟨hat a (List.mem_filter.mp ha).1, (List.mem_filter.mp ha).2⟩
  obtain ⟨ρ', S', hfor, e4, e6, e7, l, hρ, F, hl⟩ := for_inv (tg := gPat [4] tgN) (xs := ((atoms A).filter brk).map enc) (f := fFor (gIt (gCall 2 m_puts_at (aCons (gVar 4) (aCons (gVar 1) (aNil))))) (gPat [6, 7] (tgTup 2 (tgCons (tgN) (tgCons (tgN) (tgNil)))))
    (fDrop (gMt .list (oAppend) (gVar 3) (aCons (gTup (aCons (gC (.str "and")) (aCons (gVar 7) (aCons (gTup (aCons (gC (.str "and")) (aCons (gMeth [("Put", 1, m_Put_is_number, [])] "is_number" (gVar 6) aNil) (aCons (gMeth [("Put", 2, (m_Put_into 40), [])] "into" (gVar 6) (aCons (gVar 0) (aNil))) (aNil))))) (aNil))))) (aNil)))))
    (I := fun i ρ S2 => ∃ e4 e6 e7 l, ρ = [some (enc A), some (.int (v : Nat)), some (.tup ((List.replicate (t - 1) (0 : Int)).map D.int)), some (.box S1.length), e4, none, e6, e7] ∧ FI S1.length S S2 l ∧ v ≤ l.length ∧ l.length ≤ v + 75 * i)
    (fun i d ρ S2 hd ⟨e4, e6, e7, l, hρ, F, hl1, hl2⟩ => by
      subst hρ
      rw [List.getElem?_map] at hd
      obtain ⟨a, ha, rfl⟩ := Option.map_eq_some_iff.mp hd
      have hilt := (List.getElem?_eq_some_iff.mp ha).1
      obtain ⟨q1, q2⟩ := hball a (List.mem_of_getElem? ha)
      refine ⟨_, S2, rfl, ?_⟩
      cases a with
      | rest ws m r => cases q2
      | no s => cases q2
      | two w a b => cases q2
      | least ws c =>
        obtain ⟨ps, S3, hp1, hp2, hp3, hp4⟩ := puts_ok (S := S2) q1 ht4 q2 (show v ≤ 25 by omega)
        have F3 : FI S1.length S S3 l := ⟨F.low, F.grow.trans hp2, hp2.get F.found, F.all⟩
        obtain ⟨ρ', S4, k1, e6', e7', l2, hρ', F4, hl3, hall⟩ := for_inv (tg := gPat [6, 7] (tgTup 2 (tgCons (tgN) (tgCons (tgN) (tgNil))))) (xs := ps.map encQ) (f := fDrop (gMt .list (oAppend) (gVar 3) (aCons (gTup (aCons (gC (.str "and")) (aCons (gVar 7) (aCons (gTup (aCons (gC (.str "and")) (aCons (gMeth [("Put", 1, m_Put_is_number, [])] "is_number" (gVar 6) aNil) (aCons (gMeth [("Put", 2, (m_Put_into 40), [])] "into" (gVar 6) (aCons (gVar 0) (aNil))) (aNil))))) (aNil))))) (aNil))))
          (I := fun j ρ S4 => ∃ e6' e7' l2, ρ = [some (enc A), some (.int (v : Nat)), some (.tup ((List.replicate (t - 1) (0 : Int)).map D.int)), some (.box S1.length), some (enc (.least ws c)), none, e6', e7'] ∧ FI S1.length S S4 l2 ∧ l2.length = l.length + j ∧ ∀ p ∈ ps, Put1 t S4 p)
          (fun j d ρ S4 hd ⟨e6', e7', l2, hρ, F4, hl3, hall⟩ => by
            subst hρ
            rw [List.getElem?_map] at hd
            obtain ⟨⟨pi, pw⟩, hp, rfl⟩ := Option.map_eq_some_iff.mp hd
            have hjlt := (List.getElem?_eq_some_iff.mp hp).1
            obtain ⟨b, k1, k2⟩ := fi_turn (x1 := some (.int (v : Nat))) (x2 := some (.tup ((List.replicate (t - 1) (0 : Int)).map D.int))) (e4 := some (enc (.least ws c))) (e5 := none) F4 hA hk ht4 (hall (pi, pw) (List.mem_of_getElem? hp)) (by omega)
            refine ⟨_, S4, rfl, _, _, .inl k1, some (.box pi), some (enc pw), l2 ++ [b], rfl, k2, by simp [hl3]; omega, fun p hp => (hall p hp).set F4.found⟩)
          (ρ := [some (enc A), some (.int (v : Nat)), some (.tup ((List.replicate (t - 1) (0 : Int)).map D.int)), some (.box S1.length), some (enc (.least ws c)), none, e6, e7]) (S := S3)
          ⟨e6, e7, l, rfl, F3, rfl, hp4⟩
        rw [List.length_map] at hl3
        refine ⟨ρ', S4, .inl ?_, some (enc (.least ws c)), e6', e7', l2, hρ', F4, by omega, by omega⟩
        simp only [e_for, e_it, e_call, e_cons, e_var, setA, List.set_cons_succ, List.set_cons_zero, List.getElem?_cons_zero, List.getElem?_cons_succ, kVar_ok, kA_ok, e_nil, kA2_ok, kCall_ok, List.length_cons, List.length_nil, Nat.reduceAdd, if_pos, hp1, kIt_lst, kFor_ok, e_forW, k1])
    (ρ := [some (enc A), some (.int (v : Nat)), some (.tup ((List.replicate (t - 1) (0 : Int)).map D.int)), some (.box S1.length), none, none, none, none]) (S := S1 ++ [.lst (l0.map enc)])
    ⟨none, none, none, l0, rfl, F1, by omega, by omega⟩
  rw [List.length_map] at hl
  obtain ⟨b, hb, hany⟩ := any_ok (S := S') (x := .box S1.length) (l := l) (k := 8) ⟨.inl ⟨_, rfl, F.found⟩⟩ (by omega) (by omega) (by decide) F.all
  refine ⟨b, hb, ?_⟩
  unfold m_plainly_some b_plainly_some
  refine pureS_grow (S' := S') ?_ F.grow (und_enc _ b)
  rw [e_sem1, show startD 8 [enc A] = [some (enc A), none, none, none, none, none, none, none] from rfl, e_seq]
  simp only [e_set, e_call, e_cons, e_var, List.getElem?_cons_zero, kVar_ok, kA_ok, e_nil, kA2_ok, kCall_ok, List.length_cons, List.length_nil, Nat.reduceAdd, if_pos, hv, kSet_ok, kSeq_nx, List.set_cons_succ, List.set_cons_zero, e_seq, e_2, e_tup, e_c, kTup_ok, Nat.reduceLeDiff, hmany, k2_ok, k2b_ok, v_sub, e_okM, hno, hf1, e_for, e_it, hbr, kIt_lst, kFor_ok, e_forW, hfor]
  subst hρ
  simp only [e_seq, kSeq_nx, kSeq_rt, e_next, e_if, kIf_t, kIf_f, e_ret, kRet_ok, e_drop, kDrop_ok, e_set, kSet_ok, e_asg, kAsg_ok, kAsg2_ok, e_par, kPar_ok, e_var, kVar_ok, e_c, e_okM, e_2, k2_ok, k2b_ok, e_1, k1_ok, e_b, kB_ok, e_ifE, kIfE_t, kIfE_f, e_and, kAnd_t, kAnd_f, e_or, kOr_t, kOr_f, e_not, kNot_ok, e_nil, e_cons, kA_ok, kA2_ok, e_tup, kTup_ok, e_lst, kLst_ok, e_mkF, e_mkT, e_call, kCall_ok, e_cb, kCB_ok, e_mt, kMt_ok, kMt2_ok, e_tyS, e_pNo, e_pSo, kSo_ok, e_sl, kSl_ok, kSl2_ok, kSl3_ok, e_it, kIt_tup, kIt_lst, kIt_wlst, kIt_str, e_for, kFor_ok, e_lc, kLc_ok, kLc2_ok, e_tget, kTG_ok, kTG2_ok, e_pat, e_tgN, e_tgNil, e_yes, e_endN, e_endR, e_gsub, kSub_ok, kSub2_ok, kSub3_ok, e_tr, kTr_bl, e_lcW, e_forW, List.getElem?_cons_zero, List.getElem?_cons_succ, List.set_cons_zero, List.set_cons_succ, List.length_cons, List.length_nil, if_pos, v_addI, v_sub, v_lt, v_le, v_gt, v_ge, v_eqI, v_neI, v_eqS, v_neS, Nat.reduceAdd, Nat.reduceLeDiff, Nat.reduceEqDiff, Int.reduceLT, Int.reduceLE, Int.reduceEq, Int.reduceAdd, Int.reduceSub, Int.reduceMul, Int.reduceNeg, decide_true, decide_false, Bool.not_true, Bool.not_false, Option.some.injEq, ite_true, ite_false, setA, hany]
theorem plainly_ok {t k : Nat} {s : Sn} {w : Str} (hs : SnOk t k s) (hk : k ≤ 1) (ht : t = 2 ∨ t = 3) (hw : w = "some" ∨ w = "all") (hn : (atoms s).length ≤ 2) (hwt : (wts s).length = t) : ∃ b, Sz 14 b ∧ m_plainly [.tup [.str w, enc s]] S = some (.ok (enc b), S) := by
  have ht2 : ∀ x y : D, tgTup 2 (tgCons tgN (tgCons tgN tgNil)) (.tup [x, y]) S = some ([x, y], S) := fun _ _ => rfl
  rcases hw with e | e
  · subst e
    obtain ⟨b, hb, hp⟩ := some_ok (S := S) hs (by omega) ht hn hwt
    refine ⟨b, hb.up, ?_⟩
    have hso : m_sought_by [.tup [.str "some", enc s]] S = some (.ok (enc s), S) := by
      unfold m_sought_by b_sought_by
      rw [e_sem1, show ∀ x : D, startD 3 [x] = [some x, none, none] from fun _ => rfl]
      simp only [e_seq, kSeq_nx, kSeq_rt, e_next, e_if, kIf_t, kIf_f, e_ret, kRet_ok, e_drop, kDrop_ok, e_set, kSet_ok, e_asg, kAsg_ok, kAsg2_ok, e_par, kPar_ok, e_var, kVar_ok, e_c, e_okM, e_2, k2_ok, k2b_ok, e_1, k1_ok, e_b, kB_ok, e_ifE, kIfE_t, kIfE_f, e_and, kAnd_t, kAnd_f, e_or, kOr_t, kOr_f, e_not, kNot_ok, e_nil, e_cons, kA_ok, kA2_ok, e_tup, kTup_ok, e_lst, kLst_ok, e_mkF, e_mkT, e_call, kCall_ok, e_cb, kCB_ok, e_mt, kMt_ok, kMt2_ok, e_tyS, e_pNo, e_pSo, kSo_ok, e_sl, kSl_ok, kSl2_ok, kSl3_ok, e_it, kIt_tup, kIt_lst, kIt_wlst, kIt_str, e_for, kFor_ok, e_lc, kLc_ok, kLc2_ok, e_tget, kTG_ok, kTG2_ok, e_pat, e_tgN, e_tgNil, e_yes, e_endN, e_endR, e_gsub, kSub_ok, kSub2_ok, kSub3_ok, e_tr, kTr_bl, e_lcW, e_forW, List.getElem?_cons_zero, List.getElem?_cons_succ, List.set_cons_zero, List.set_cons_succ, List.length_cons, List.length_nil, if_pos, v_addI, v_sub, v_lt, v_le, v_gt, v_ge, v_eqI, v_neI, v_eqS, v_neS, Nat.reduceAdd, Nat.reduceLeDiff, Nat.reduceEqDiff, Int.reduceLT, Int.reduceLE, Int.reduceEq, Int.reduceAdd, Int.reduceSub, Int.reduceMul, Int.reduceNeg, decide_true, decide_false, Bool.not_true, Bool.not_false, Option.some.injEq, ite_true, ite_false, setA, ht2]
    unfold m_plainly b_plainly
    rw [e_sem1, show ∀ x : D, startD 2 [x] = [some x, none] from fun _ => rfl]
    simp only [e_seq, kSeq_nx, kSeq_rt, e_next, e_if, kIf_t, kIf_f, e_ret, kRet_ok, e_drop, kDrop_ok, e_set, kSet_ok, e_asg, kAsg_ok, kAsg2_ok, e_par, kPar_ok, e_var, kVar_ok, e_c, e_okM, e_2, k2_ok, k2b_ok, e_1, k1_ok, e_b, kB_ok, e_ifE, kIfE_t, kIfE_f, e_and, kAnd_t, kAnd_f, e_or, kOr_t, kOr_f, e_not, kNot_ok, e_nil, e_cons, kA_ok, kA2_ok, e_tup, kTup_ok, e_lst, kLst_ok, e_mkF, e_mkT, e_call, kCall_ok, e_cb, kCB_ok, e_mt, kMt_ok, kMt2_ok, e_tyS, e_pNo, e_pSo, kSo_ok, e_sl, kSl_ok, kSl2_ok, kSl3_ok, e_it, kIt_tup, kIt_lst, kIt_wlst, kIt_str, e_for, kFor_ok, e_lc, kLc_ok, kLc2_ok, e_tget, kTG_ok, kTG2_ok, e_pat, e_tgN, e_tgNil, e_yes, e_endN, e_endR, e_gsub, kSub_ok, kSub2_ok, kSub3_ok, e_tr, kTr_bl, e_lcW, e_forW, List.getElem?_cons_zero, List.getElem?_cons_succ, List.set_cons_zero, List.set_cons_succ, List.length_cons, List.length_nil, if_pos, v_addI, v_sub, v_lt, v_le, v_gt, v_ge, v_eqI, v_neI, v_eqS, v_neS, Nat.reduceAdd, Nat.reduceLeDiff, Nat.reduceEqDiff, Int.reduceLT, Int.reduceLE, Int.reduceEq, Int.reduceAdd, Int.reduceSub, Int.reduceMul, Int.reduceNeg, decide_true, decide_false, Bool.not_true, Bool.not_false, Option.some.injEq, ite_true, ite_false, setA, hso, hp, v_ixT0]
  · subst e
    obtain ⟨b, hb, hp⟩ := some_ok (S := S) (t := t) (k := k + 1) (A := .no s) hs (by omega) ht hn hwt
    refine ⟨.no b, hb, ?_⟩
    have hd : decide (("all" : Str) = "some") = false := by decide
    have hso : m_sought_by [.tup [.str "all", enc s]] S = some (.ok (enc (.no s)), S) := by
      unfold m_sought_by b_sought_by
      rw [e_sem1, show ∀ x : D, startD 3 [x] = [some x, none, none] from fun _ => rfl]
      simp only [e_seq, kSeq_nx, kSeq_rt, e_next, e_if, kIf_t, kIf_f, e_ret, kRet_ok, e_drop, kDrop_ok, e_set, kSet_ok, e_asg, kAsg_ok, kAsg2_ok, e_par, kPar_ok, e_var, kVar_ok, e_c, e_okM, e_2, k2_ok, k2b_ok, e_1, k1_ok, e_b, kB_ok, e_ifE, kIfE_t, kIfE_f, e_and, kAnd_t, kAnd_f, e_or, kOr_t, kOr_f, e_not, kNot_ok, e_nil, e_cons, kA_ok, kA2_ok, e_tup, kTup_ok, e_lst, kLst_ok, e_mkF, e_mkT, e_call, kCall_ok, e_cb, kCB_ok, e_mt, kMt_ok, kMt2_ok, e_tyS, e_pNo, e_pSo, kSo_ok, e_sl, kSl_ok, kSl2_ok, kSl3_ok, e_it, kIt_tup, kIt_lst, kIt_wlst, kIt_str, e_for, kFor_ok, e_lc, kLc_ok, kLc2_ok, e_tget, kTG_ok, kTG2_ok, e_pat, e_tgN, e_tgNil, e_yes, e_endN, e_endR, e_gsub, kSub_ok, kSub2_ok, kSub3_ok, e_tr, kTr_bl, e_lcW, e_forW, List.getElem?_cons_zero, List.getElem?_cons_succ, List.set_cons_zero, List.set_cons_succ, List.length_cons, List.length_nil, if_pos, v_addI, v_sub, v_lt, v_le, v_gt, v_ge, v_eqI, v_neI, v_eqS, v_neS, Nat.reduceAdd, Nat.reduceLeDiff, Nat.reduceEqDiff, Int.reduceLT, Int.reduceLE, Int.reduceEq, Int.reduceAdd, Int.reduceSub, Int.reduceMul, Int.reduceNeg, decide_true, decide_false, Bool.not_true, Bool.not_false, Option.some.injEq, ite_true, ite_false, setA, ht2, hd, enc]
    unfold m_plainly b_plainly
    rw [e_sem1, show ∀ x : D, startD 2 [x] = [some x, none] from fun _ => rfl]
    simp only [e_seq, kSeq_nx, kSeq_rt, e_next, e_if, kIf_t, kIf_f, e_ret, kRet_ok, e_drop, kDrop_ok, e_set, kSet_ok, e_asg, kAsg_ok, kAsg2_ok, e_par, kPar_ok, e_var, kVar_ok, e_c, e_okM, e_2, k2_ok, k2b_ok, e_1, k1_ok, e_b, kB_ok, e_ifE, kIfE_t, kIfE_f, e_and, kAnd_t, kAnd_f, e_or, kOr_t, kOr_f, e_not, kNot_ok, e_nil, e_cons, kA_ok, kA2_ok, e_tup, kTup_ok, e_lst, kLst_ok, e_mkF, e_mkT, e_call, kCall_ok, e_cb, kCB_ok, e_mt, kMt_ok, kMt2_ok, e_tyS, e_pNo, e_pSo, kSo_ok, e_sl, kSl_ok, kSl2_ok, kSl3_ok, e_it, kIt_tup, kIt_lst, kIt_wlst, kIt_str, e_for, kFor_ok, e_lc, kLc_ok, kLc2_ok, e_tget, kTG_ok, kTG2_ok, e_pat, e_tgN, e_tgNil, e_yes, e_endN, e_endR, e_gsub, kSub_ok, kSub2_ok, kSub3_ok, e_tr, kTr_bl, e_lcW, e_forW, List.getElem?_cons_zero, List.getElem?_cons_succ, List.set_cons_zero, List.set_cons_succ, List.length_cons, List.length_nil, if_pos, v_addI, v_sub, v_lt, v_le, v_gt, v_ge, v_eqI, v_neI, v_eqS, v_neS, Nat.reduceAdd, Nat.reduceLeDiff, Nat.reduceEqDiff, Int.reduceLT, Int.reduceLE, Int.reduceEq, Int.reduceAdd, Int.reduceSub, Int.reduceMul, Int.reduceNeg, decide_true, decide_false, Bool.not_true, Bool.not_false, Option.some.injEq, ite_true, ite_false, setA, hso, hp, v_ixT0, hd]
    rfl
end
end Cs
set_option linter.all false
set_option maxRecDepth 100000
set_option maxHeartbeats 1000000
namespace Cs
open PySem L2 Dm
section
variable {S : Store} {p q : Nat}
/-! ### the jar -/
theorem seed_step {i j : Int} : ∃ r : Int, m__law_mix [.int ((i * 5 + j) % 18446744073709551616)] S = some (.ok (.int r), S) := by
  obtain ⟨r, _, _, h⟩ := mix_ok (S := S) ((i * 5 + j) % 18446744073709551616)
  exact ⟨r, h⟩
theorem jar_gen {ns : List Int} {A M : Int} (hM : 0 < M) (hs : ∀ i j : Int, ∀ S : Store, ∃ r : Int, m__law_mix [.int ((i * 5 + j) % M)] S = some (.ok (.int r), S)) (hl : ns.length ≤ 63) :
    ∃ S' p q, semD 1 3 (fSeq (fSet 1 (gC (.int A)))
    (fSeq (fFor (gIt (gSl false (gVar 0) (pNo) (pSo (gC (.int 63))))) (gPat [2] (tgN))
    (fSet 1 (gCall 1 m__law_mix (aCons (g2 (oMod) (g2 (oAdd false) (g2 (oMul false) (gVar 1) (gC (.int 5))) (gVar 2)) (gC (.int M))) (aNil)))))
    (fRet (gDisp ["cells", "rest", "seed", "turn"] [gCB (oLst true) (aCons (gSl false (gVar 0) (pNo) (pSo (gC (.int 63)))) (aNil)), gC (.int 0), gVar 1, gC (.int 0)])))) [.wlst (ns.map D.int)] S = some (.ok (.box p), S') ∧ Jar S' p q := by
  have hsl : oSl false (.wlst (ns.map D.int)) none (some 63) S = some (.lst (ns.map D.int), S) := by
    show some (mkL false (cutD (ns.map D.int) none (some ((63 : Nat) : Int))) S) = _
    unfold cutD
    rw [HT.sIx_nat]
    show some (D.lst (((ns.map D.int).drop 0).take (min 63 (ns.map D.int).length - 0)), S) = _
    rw [List.length_map, Nat.min_eq_right hl, List.drop_zero, Nat.sub_zero, List.take_of_length_le (by rw [List.length_map]; exact Nat.le_refl _)]
  rw [e_sem1, show ∀ x : D, startD 3 [x] = [some x, none, none] from fun _ => rfl, e_seq]
  obtain ⟨ρ', S', hf, s, e2, hρ, hS⟩ := for_inv (tg := gPat [2] tgN) (xs := ns.map D.int) (f := fSet 1 (gCall 1 m__law_mix (aCons (g2 (oMod) (g2 (oAdd false) (g2 (oMul false) (gVar 1) (gC (.int 5))) (gVar 2)) (gC (.int M))) (aNil))))
    (I := fun i ρ S1 => ∃ (s : Int) (e2 : Option D), ρ = [some (.wlst (ns.map D.int)), some (.int s), e2] ∧ S1 = S)
    (fun i d ρ S1 hd ⟨s, e2, hρ, hS⟩ => by
      subst hρ hS
      rw [List.getElem?_map] at hd
      obtain ⟨j, _, rfl⟩ := Option.map_eq_some_iff.mp hd
      obtain ⟨r, hr⟩ := hs s j S1
      refine ⟨_, S1, rfl, _, S1, .inl ?_, r, some (.int j), rfl, rfl⟩
      have hm5 : oMul false (.int s) (.int 5) S1 = some (.int (s * 5), S1) := v_mulR (by decide)
      simp only [e_seq, kSeq_nx, kSeq_rt, e_next, e_if, kIf_t, kIf_f, e_ret, kRet_ok, e_drop, kDrop_ok, e_set, kSet_ok, e_asg, kAsg_ok, kAsg2_ok, e_par, kPar_ok, e_var, kVar_ok, e_c, e_okM, e_2, k2_ok, k2b_ok, e_1, k1_ok, e_b, kB_ok, e_ifE, kIfE_t, kIfE_f, e_and, kAnd_t, kAnd_f, e_or, kOr_t, kOr_f, e_not, kNot_ok, e_nil, e_cons, kA_ok, kA2_ok, e_tup, kTup_ok, e_lst, kLst_ok, e_mkF, e_mkT, e_call, kCall_ok, e_cb, kCB_ok, e_mt, kMt_ok, kMt2_ok, e_tyS, e_pNo, e_pSo, kSo_ok, e_sl, kSl_ok, kSl2_ok, kSl3_ok, e_it, kIt_tup, kIt_lst, kIt_wlst, kIt_str, e_for, kFor_ok, e_lc, kLc_ok, kLc2_ok, e_tget, kTG_ok, kTG2_ok, e_pat, e_tgN, e_tgNil, e_yes, e_endN, e_endR, e_gsub, kSub_ok, kSub2_ok, kSub3_ok, e_tr, kTr_bl, e_lcW, e_forW, List.getElem?_cons_zero, List.getElem?_cons_succ, List.set_cons_zero, List.set_cons_succ, List.length_cons, List.length_nil, if_pos, v_addI, v_sub, v_lt, v_le, v_gt, v_ge, v_eqI, v_neI, v_eqS, v_neS, Nat.reduceAdd, Nat.reduceLeDiff, Nat.reduceEqDiff, Int.reduceLT, Int.reduceLE, Int.reduceEq, Int.reduceAdd, Int.reduceSub, Int.reduceMul, Int.reduceNeg, decide_true, decide_false, Bool.not_true, Bool.not_false, Option.some.injEq, ite_true, ite_false, setA, hm5, v_modP hM, hr])
    (ρ := [some (.wlst (ns.map D.int)), some (.int A), none]) (S := S) ⟨A, none, rfl, rfl⟩
  subst hρ hS
  refine ⟨S' ++ [.lst (ns.map D.int), jarC S'.length 0 s 0], S'.length + 1, S'.length, ?_, ⟨by omega, 0, s, 0, ns, ?_, ?_⟩⟩
  · have hlst : oLst true [.lst (ns.map D.int)] S' = some (.box S'.length, S' ++ [.lst (ns.map D.int)]) := rfl
    simp only [e_seq, kSeq_nx, kSeq_rt, e_next, e_if, kIf_t, kIf_f, e_ret, kRet_ok, e_drop, kDrop_ok, e_set, kSet_ok, e_asg, kAsg_ok, kAsg2_ok, e_par, kPar_ok, e_var, kVar_ok, e_c, e_okM, e_2, k2_ok, k2b_ok, e_1, k1_ok, e_b, kB_ok, e_ifE, kIfE_t, kIfE_f, e_and, kAnd_t, kAnd_f, e_or, kOr_t, kOr_f, e_not, kNot_ok, e_nil, e_cons, kA_ok, kA2_ok, e_tup, kTup_ok, e_lst, kLst_ok, e_mkF, e_mkT, e_call, kCall_ok, e_cb, kCB_ok, e_mt, kMt_ok, kMt2_ok, e_tyS, e_pNo, e_pSo, kSo_ok, e_sl, kSl_ok, kSl2_ok, kSl3_ok, e_it, kIt_tup, kIt_lst, kIt_wlst, kIt_str, e_for, kFor_ok, e_lc, kLc_ok, kLc2_ok, e_tget, kTG_ok, kTG2_ok, e_pat, e_tgN, e_tgNil, e_yes, e_endN, e_endR, e_gsub, kSub_ok, kSub2_ok, kSub3_ok, e_tr, kTr_bl, e_lcW, e_forW, List.getElem?_cons_zero, List.getElem?_cons_succ, List.set_cons_zero, List.set_cons_succ, List.length_cons, List.length_nil, if_pos, v_addI, v_sub, v_lt, v_le, v_gt, v_ge, v_eqI, v_neI, v_eqS, v_neS, Nat.reduceAdd, Nat.reduceLeDiff, Nat.reduceEqDiff, Int.reduceLT, Int.reduceLE, Int.reduceEq, Int.reduceAdd, Int.reduceSub, Int.reduceMul, Int.reduceNeg, decide_true, decide_false, Bool.not_true, Bool.not_false, Option.some.injEq, ite_true, ite_false, setA, hsl, hf]
    have hg : gDisp ["cells", "rest", "seed", "turn"] [gCB (oLst true) (aCons (gSl false (gVar 0) (pNo) (pSo (gC (.int 63)))) (aNil)), gC (.int 0), gVar 1, gC (.int 0)] [some (.wlst (ns.map D.int)), some (.int s), e2] S' = some (.ok (.box (S'.length + 1)), S' ++ [.lst (ns.map D.int), jarC S'.length 0 s 0]) := by
      have h1 : gCB (oLst true) (aCons (gSl false (gVar 0) (pNo) (pSo (gC (.int 63)))) (aNil)) [some (.wlst (ns.map D.int)), some (.int s), e2] S' = some (.ok (.box S'.length), S' ++ [.lst (ns.map D.int)]) := by
        simp only [e_seq, kSeq_nx, kSeq_rt, e_next, e_if, kIf_t, kIf_f, e_ret, kRet_ok, e_drop, kDrop_ok, e_set, kSet_ok, e_asg, kAsg_ok, kAsg2_ok, e_par, kPar_ok, e_var, kVar_ok, e_c, e_okM, e_2, k2_ok, k2b_ok, e_1, k1_ok, e_b, kB_ok, e_ifE, kIfE_t, kIfE_f, e_and, kAnd_t, kAnd_f, e_or, kOr_t, kOr_f, e_not, kNot_ok, e_nil, e_cons, kA_ok, kA2_ok, e_tup, kTup_ok, e_lst, kLst_ok, e_mkF, e_mkT, e_call, kCall_ok, e_cb, kCB_ok, e_mt, kMt_ok, kMt2_ok, e_tyS, e_pNo, e_pSo, kSo_ok, e_sl, kSl_ok, kSl2_ok, kSl3_ok, e_it, kIt_tup, kIt_lst, kIt_wlst, kIt_str, e_for, kFor_ok, e_lc, kLc_ok, kLc2_ok, e_tget, kTG_ok, kTG2_ok, e_pat, e_tgN, e_tgNil, e_yes, e_endN, e_endR, e_gsub, kSub_ok, kSub2_ok, kSub3_ok, e_tr, kTr_bl, e_lcW, e_forW, List.getElem?_cons_zero, List.getElem?_cons_succ, List.set_cons_zero, List.set_cons_succ, List.length_cons, List.length_nil, if_pos, v_addI, v_sub, v_lt, v_le, v_gt, v_ge, v_eqI, v_neI, v_eqS, v_neS, Nat.reduceAdd, Nat.reduceLeDiff, Nat.reduceEqDiff, Int.reduceLT, Int.reduceLE, Int.reduceEq, Int.reduceAdd, Int.reduceSub, Int.reduceMul, Int.reduceNeg, decide_true, decide_false, Bool.not_true, Bool.not_false, Option.some.injEq, ite_true, ite_false, setA, hsl, hlst]
      unfold gDisp
      show bd (ppD [("cells", _), ("rest", _), ("seed", _), ("turn", _)] _ S') _ = _
      have hp : ∀ (k : Str) (g : EM) (r : List (Str × EM)) (ρ : Dm.Env) (S1 S2 S3 : Store) (v : D) (kvs : List (D × D)), k.length ≤ 16777216 → g ρ S1 = some (.ok v, S2) → ppD r ρ S2 = some (.ok kvs, S3) → ppD ((k, g) :: r) ρ S1 = some (.ok ((.str k, v) :: kvs), S3) := by
        intro k g r ρ S1 S2 S3 v kvs hk hg hr
        unfold ppD
        rw [hg]
        show bd (ppD r ρ S2) _ = _
        rw [hr]
        exact if_pos hk
      rw [hp "cells" _ _ _ _ _ _ _ _ (by decide) h1 (hp "rest" _ _ _ _ _ _ _ _ (by decide) rfl (hp "seed" _ _ _ _ _ _ _ _ (by decide) rfl (hp "turn" _ [] _ _ _ _ _ _ (by decide) rfl rfl)))]
      show some (Rs.ok (D.box (S' ++ [Cell.lst (ns.map D.int)]).length), (S' ++ [Cell.lst (ns.map D.int)]) ++ [_]) = _
      rw [List.length_append, List.length_singleton, List.append_assoc]
      rfl
    rw [hg]
    rfl
  · rw [List.getElem?_append_right (by omega)]
    have : S'.length + 1 - S'.length = 1 := by omega
    rw [this]; rfl
  · rw [List.getElem?_append_right (by omega), Nat.sub_self]; rfl
theorem jar_ok {ns : List Int} (hl : ns.length ≤ 63) : ∃ S' p q, m__law_jar [.wlst (ns.map D.int)] S = some (.ok (.box p), S') ∧ Jar S' p q :=
  jar_gen (by decide) (fun _ _ _ => seed_step) hl
/-! ### one turn of the law -/
theorem turn_right {t : Nat} {s : Sn} (hs : SnOk t 2 s) (ht : 1 ≤ t ∧ t ≤ 3) : m__law_written 40 [enc s] S = some (.ok (.str (txt s)), S) ∧ m_show_sentence 40 [enc s] S = some (.ok (.str (txt s)), S) ∧ m_read_sentence [.str (txt s)] S = some (.ok (enc s), S) ∧ m__law_same 40 [enc s, enc s] S = some (.ok (.bl true), S) := by
  have hz := hs.sz ht.2
  have hf := hz.fit (by decide)
  have hd := hz.dep
  exact ⟨wr_all s 40 hf (by omega), show_all s 40 hf (by omega), read_ok ht.1 ht.2 (by decide) hs, same_enc s 38 hf (by omega)⟩
theorem told_right {d : Nat} {s : Sn} (hz : Sz d s) (hd : d ≤ 16) : m__law_written 40 [enc s] S = some (.ok (.str (txt s)), S) ∧ m_show_sentence 40 [enc s] S = some (.ok (.str (txt s)), S) := by
  have hf := hz.fit hd
  have hdp := hz.dep
  exact ⟨wr_all s 40 hf (by omega), show_all s 40 hf (by omega)⟩
theorem sn_wts {t : Nat} : ∀ {k : Nat} {s : Sn}, SnOk t k s → (wts s).length = t := by
  intro k s
  induction s generalizing k with
  | least ws c => intro h; have h : WtOk t ws ∧ -4 ≤ c ∧ c ≤ 4 := by cases k <;> exact h
                  exact h.1.len
  | rest ws m r => intro h; have h : WtOk t ws ∧ 2 ≤ m ∧ m ≤ 5 ∧ 0 ≤ r ∧ r < m := by cases k <;> exact h
                   exact h.1.len
  | no s ih => intro h; cases k with
    | zero => exact h.elim
    | succ k => exact ih (k := k) h
  | two w a b iha ihb => intro h; cases k with
    | zero => exact h.elim
    | succ k => exact iha (k := k) h.1
theorem sn_atoms {t : Nat} : ∀ {k : Nat} {s : Sn}, SnOk t k s → (atoms s).length ≤ 2 ^ k := by
  intro k s
  induction s generalizing k with
  | least ws c => intro h; exact Nat.one_le_two_pow
  | rest ws m r => intro h; exact Nat.one_le_two_pow
  | no s ih => intro h; cases k with
    | zero => exact h.elim
    | succ k => have := ih (k := k) h; show (atoms s).length ≤ _; rw [Nat.pow_succ]; omega
  | two w a b iha ihb => intro h; cases k with
    | zero => exact h.elim
    | succ k => have h1 := iha (k := k) h.1; have h2 := ihb (k := k) h.2; show (atoms a ++ atoms b).length ≤ _; rw [Nat.pow_succ, List.length_append]; omega
theorem law_turn {x e3 e4 e5 e6 : Option D} {i : Int} (J : Jar S p q) : ∃ s tx S', Jar S' p q ∧
    (fSeq (fSet 5 (gCall 3 (m__law_sentence 40) (aCons (gVar 1) (aCons (g2 (oAdd false) (gC (.int 1)) (gCall 2 m__law_pick (aCons (gVar 1) (aCons (gC (.int 3)) (aNil))))) (aCons (gC (.int 2)) (aNil))))))
    (fSeq (fSet 6 (gCall 1 (m__law_written 40) (aCons (gVar 5) (aNil))))
    (fIf (gOrT (gNotT (gTr (gCall 2 (m__law_same 40) (aCons (gCall 1 (m_show_sentence 40) (aCons (gVar 5) (aNil))) (aCons (gVar 6) (aNil)))))) (gNotT (gTr (gCall 2 (m__law_same 40) (aCons (gCall 1 m_read_sentence (aCons (gVar 6) (aNil))) (aCons (gVar 5) (aNil)))))))
    (fRet (gC (.bl false)))
    (fNext)))) [x, some (.box p), some (.int i), e3, e4, e5, e6] S = some (.nx [x, some (.box p), some (.int i), e3, e4, some s, some tx], S') := by
  obtain ⟨v, S1, v0, v1, hv, J1, o1⟩ := pick_ok J (total := 3) (by decide) (by decide)
  obtain ⟨t, ht⟩ : ∃ t : Nat, (1 : Int) + v = t := ⟨(1 + v).toNat, by omega⟩
  obtain ⟨s, S2, hs, h2, J2, o2⟩ := sentence_ok (t := t) (by omega) 40 2 S1 (by decide) J1
  obtain ⟨w1, w2, w3, w4⟩ := turn_right (S := S2) hs (by omega)
  have w5 : m__law_same 40 [.str (txt s), .str (txt s)] S2 = some (.ok (.bl true), S2) := same_str
  refine ⟨enc s, .str (txt s), S2, J2, ?_⟩
  have h2 : m__law_sentence 40 [.box p, .int t, .int 2] S1 = some (.ok (enc s), S2) := h2
  simp only [e_seq, kSeq_nx, kSeq_rt, e_next, e_if, kIf_t, kIf_f, e_ret, kRet_ok, e_drop, kDrop_ok, e_set, kSet_ok, e_asg, kAsg_ok, kAsg2_ok, e_par, kPar_ok, e_var, kVar_ok, e_c, e_okM, e_2, k2_ok, k2b_ok, e_1, k1_ok, e_b, kB_ok, e_ifE, kIfE_t, kIfE_f, e_and, kAnd_t, kAnd_f, e_or, kOr_t, kOr_f, e_not, kNot_ok, e_nil, e_cons, kA_ok, kA2_ok, e_tup, kTup_ok, e_lst, kLst_ok, e_mkF, e_mkT, e_call, kCall_ok, e_cb, kCB_ok, e_mt, kMt_ok, kMt2_ok, e_tyS, e_pNo, e_pSo, kSo_ok, e_sl, kSl_ok, kSl2_ok, kSl3_ok, e_it, kIt_tup, kIt_lst, kIt_wlst, kIt_str, e_for, kFor_ok, e_lc, kLc_ok, kLc2_ok, e_tget, kTG_ok, kTG2_ok, e_pat, e_tgN, e_tgNil, e_yes, e_endN, e_endR, e_gsub, kSub_ok, kSub2_ok, kSub3_ok, e_tr, kTr_bl, e_lcW, e_forW, List.getElem?_cons_zero, List.getElem?_cons_succ, List.set_cons_zero, List.set_cons_succ, List.length_cons, List.length_nil, if_pos, v_addI, v_sub, v_lt, v_le, v_gt, v_ge, v_eqI, v_neI, v_eqS, v_neS, Nat.reduceAdd, Nat.reduceLeDiff, Nat.reduceEqDiff, Int.reduceLT, Int.reduceLE, Int.reduceEq, Int.reduceAdd, Int.reduceSub, Int.reduceMul, Int.reduceNeg, decide_true, decide_false, Bool.not_true, Bool.not_false, Option.some.injEq, ite_true, ite_false, setA, hv, ht, h2, w1, w2, w3, w4, w5]
theorem law_true_k83 : ∀ ns : List Int, ns.length ≤ 63 → (∀ z ∈ ns, Builtin.Int.intBits z ≤ 1048576) → ∃ S', semD 1 N_law_k83.length b_law_k83 [.wlst (ns.map D.int)] [] = some (.ok (.bl true), S') := by
  intro ns hl _
  obtain ⟨S1, p, q, hj, J⟩ := jar_ok (S := []) hl
  show ∃ S', semD 1 7 b_law_k83 [.wlst (ns.map D.int)] [] = some (.ok (.bl true), S')
  unfold b_law_k83
  rw [e_sem1, show ∀ x : D, startD 7 [x] = [some x, none, none, none, none, none, none] from fun _ => rfl, e_seq]
  have hr : kRng1 (some (.ok [.int 8], S1)) = some (.ok (wkC (rngD 0 8)), S1) := kRng1_ok (by decide)
  obtain ⟨ρ', S2, hf, e2, e5, e6, hρ, J2⟩ := for_inv (tg := gPat [2] tgN) (xs := rngD 0 8) (f := (fSeq (fSet 5 (gCall 3 (m__law_sentence 40) (aCons (gVar 1) (aCons (g2 (oAdd false) (gC (.int 1)) (gCall 2 m__law_pick (aCons (gVar 1) (aCons (gC (.int 3)) (aNil))))) (aCons (gC (.int 2)) (aNil))))))
    (fSeq (fSet 6 (gCall 1 (m__law_written 40) (aCons (gVar 5) (aNil))))
    (fIf (gOrT (gNotT (gTr (gCall 2 (m__law_same 40) (aCons (gCall 1 (m_show_sentence 40) (aCons (gVar 5) (aNil))) (aCons (gVar 6) (aNil)))))) (gNotT (gTr (gCall 2 (m__law_same 40) (aCons (gCall 1 m_read_sentence (aCons (gVar 6) (aNil))) (aCons (gVar 5) (aNil)))))))
    (fRet (gC (.bl false)))
    (fNext)))))
    (I := fun i ρ S2 => ∃ e2 e5 e6 : Option D, ρ = [some (.wlst (ns.map D.int)), some (.box p), e2, none, none, e5, e6] ∧ Jar S2 p q)
    (fun i d ρ S2 hd ⟨e2, e5, e6, hρ, J2⟩ => by
      obtain ⟨hi, rfl⟩ := rngD_get hd
      subst hρ
      obtain ⟨s, tx, S3, J3, h3⟩ := law_turn (x := some (.wlst (ns.map D.int))) (e3 := none) (e4 := none) (e5 := e5) (e6 := e6) (i := 0 + (i : Nat)) J2
      exact ⟨_, S2, rfl, _, S3, .inl h3, some (.int (0 + (i : Nat))), some s, some tx, rfl, J3⟩)
    (ρ := [some (.wlst (ns.map D.int)), some (.box p), none, none, none, none, none]) (S := S1) ⟨none, none, none, rfl, J⟩
  subst hρ
  obtain ⟨a, S3, a0, a1, ha, J3, _⟩ := pick_ok J2 (total := 2) (by decide) (by decide)
  obtain ⟨b, S4, b0, b1, hb, J4, _⟩ := pick_ok J3 (total := 2) (by decide) (by decide)
  obtain ⟨c, S5, c0, c1, hc, J5, _⟩ := pick_ok J4 (total := 2) (by decide) (by decide)
  obtain ⟨t, ht⟩ : ∃ t : Nat, (2 : Int) + b = t := ⟨(2 + b).toNat, by omega⟩
  obtain ⟨k, rfl⟩ : ∃ k : Nat, c = k := ⟨c.toNat, by omega⟩
  obtain ⟨s, S6, hs, h6, J6, _⟩ := sentence_ok (t := t) (by omega) 40 k S5 (by omega) J5
  obtain ⟨w, hw, hx⟩ : ∃ w : Str, (w = "some" ∨ w = "all") ∧ oIx (.lst [.str "some", .str "all"]) (.int a) S3 = some (.str w, S3) := by
    rcases (show a = 0 ∨ a = 1 by omega) with e | e
    · subst e; exact ⟨_, .inl rfl, v_ixL0⟩
    · subst e; exact ⟨_, .inr rfl, v_ixL1⟩
  have hat : (atoms s).length ≤ 2 := by
    have h1 := sn_atoms hs
    have h2 : 2 ^ k ≤ 2 ^ 1 := Nat.pow_le_pow_right (by decide) (by omega)
    omega
  obtain ⟨told, hz, hp⟩ := plainly_ok (S := S6) hs (by omega) (by omega) hw hat (sn_wts hs)
  obtain ⟨w1, w2⟩ := told_right (S := S6) hz (by decide)
  have w5 : m__law_same 40 [.str (txt told), .str (txt told)] S6 = some (.ok (.bl true), S6) := same_str
  refine ⟨S6, ?_⟩
  simp only [e_set, e_call, e_cons, e_var, List.getElem?_cons_zero, kVar_ok, kA_ok, e_nil, kA2_ok, kCall_ok, List.length_cons, List.length_nil, Nat.reduceAdd, if_pos, hj, kSet_ok, kSeq_nx, List.set_cons_succ, List.set_cons_zero, e_seq, e_for, e_rng1, e_c, hr, kFor_ok, e_forW, hf]
  simp only [e_seq, kSeq_nx, kSeq_rt, e_next, e_if, kIf_t, kIf_f, e_ret, kRet_ok, e_drop, kDrop_ok, e_set, kSet_ok, e_asg, kAsg_ok, kAsg2_ok, e_par, kPar_ok, e_var, kVar_ok, e_c, e_okM, e_2, k2_ok, k2b_ok, e_1, k1_ok, e_b, kB_ok, e_ifE, kIfE_t, kIfE_f, e_and, kAnd_t, kAnd_f, e_or, kOr_t, kOr_f, e_not, kNot_ok, e_nil, e_cons, kA_ok, kA2_ok, e_tup, kTup_ok, e_lst, kLst_ok, e_mkF, e_mkT, e_call, kCall_ok, e_cb, kCB_ok, e_mt, kMt_ok, kMt2_ok, e_tyS, e_pNo, e_pSo, kSo_ok, e_sl, kSl_ok, kSl2_ok, kSl3_ok, e_it, kIt_tup, kIt_lst, kIt_wlst, kIt_str, e_for, kFor_ok, e_lc, kLc_ok, kLc2_ok, e_tget, kTG_ok, kTG2_ok, e_pat, e_tgN, e_tgNil, e_yes, e_endN, e_endR, e_gsub, kSub_ok, kSub2_ok, kSub3_ok, e_tr, kTr_bl, e_lcW, e_forW, List.getElem?_cons_zero, List.getElem?_cons_succ, List.set_cons_zero, List.set_cons_succ, List.length_cons, List.length_nil, if_pos, v_addI, v_sub, v_lt, v_le, v_gt, v_ge, v_eqI, v_neI, v_eqS, v_neS, Nat.reduceAdd, Nat.reduceLeDiff, Nat.reduceEqDiff, Int.reduceLT, Int.reduceLE, Int.reduceEq, Int.reduceAdd, Int.reduceSub, Int.reduceMul, Int.reduceNeg, decide_true, decide_false, Bool.not_true, Bool.not_false, Option.some.injEq, ite_true, ite_false, setA, ha, hx, hb, ht, hc, h6, hp, w1, w2, w5]
end
end Cs
set_option linter.all false
set_option maxRecDepth 100000
set_option maxHeartbeats 4000000
namespace K83
open PySem L2 Dm Cs
def top (i : Nat) : Stmt := PySem.Challenge.pw_crowdsay_k83_sentences_written_and_read.main.body.getD i (.Pass ⟨0, 0, 0, 0⟩)
/-! ### _law_mix -/
def s__law_mix : Stmt := top 31
theorem sc__law_mix : FnScope N__law_mix ["one"] (defScope s__law_mix) := ⟨rfl, rfl, rfl, by decide +kernel, rfl, by decide +kernel, by decide +kernel⟩
/-! ### _law_jar -/
def s__law_jar : Stmt := top 32
theorem sc__law_jar : FnScope N__law_jar ["script"] (defScope s__law_jar) := ⟨rfl, rfl, rfl, by decide +kernel, rfl, by decide +kernel, by decide +kernel⟩
/-! ### _law_pick -/
def s__law_pick : Stmt := top 33
theorem sc__law_pick : FnScope N__law_pick ["jar", "total"] (defScope s__law_pick) := ⟨rfl, rfl, rfl, by decide +kernel, rfl, by decide +kernel, by decide +kernel⟩
/-! ### _law_same -/
def s__law_same : Stmt := top 38
theorem sc__law_same : FnScope N__law_same ["found", "due"] (defScope s__law_same) := ⟨rfl, rfl, rfl, by decide +kernel, rfl, by decide +kernel, by decide +kernel⟩
/-! ### _law_simple -/
def s__law_simple : Stmt := top 35
theorem sc__law_simple : FnScope N__law_simple ["jar", "total"] (defScope s__law_simple) := ⟨rfl, rfl, rfl, by decide +kernel, rfl, by decide +kernel, by decide +kernel⟩
/-! ### _law_sentence -/
def s__law_sentence : Stmt := top 36
theorem sc__law_sentence : FnScope N__law_sentence ["jar", "total", "within"] (defScope s__law_sentence) := ⟨rfl, rfl, rfl, by decide +kernel, rfl, by decide +kernel, by decide +kernel⟩
/-! ### _law_written -/
def s__law_written : Stmt := top 37
theorem sc__law_written : FnScope N__law_written ["sentence"] (defScope s__law_written) := ⟨rfl, rfl, rfl, by decide +kernel, rfl, by decide +kernel, by decide +kernel⟩
/-! ### Put.__init__ -/
def s_Put___init__ : Stmt := inClass (top 25) 0
theorem sc_Put___init__ : FnScope N_Put___init__ ["self", "weights", "number", "by"] (defScope s_Put___init__) := ⟨rfl, rfl, rfl, by decide +kernel, rfl, by decide +kernel, by decide +kernel⟩
/-! ### Put.weights_in -/
def s_Put_weights_in : Stmt := inClass (top 25) 1
theorem sc_Put_weights_in : FnScope N_Put_weights_in ["self", "weights"] (defScope s_Put_weights_in) := ⟨rfl, rfl, rfl, by decide +kernel, rfl, by decide +kernel, by decide +kernel⟩
/-! ### Put.into -/
def s_Put_into : Stmt := inClass (top 25) 2
theorem sc_Put_into : FnScope N_Put_into ["self", "sentence"] (defScope s_Put_into) := ⟨rfl, rfl, rfl, by decide +kernel, rfl, by decide +kernel, by decide +kernel⟩
/-! ### Put.is_number -/
def s_Put_is_number : Stmt := inClass (top 25) 3
theorem sc_Put_is_number : FnScope N_Put_is_number ["self"] (defScope s_Put_is_number) := ⟨rfl, rfl, rfl, by decide +kernel, rfl, by decide +kernel, by decide +kernel⟩
/-! ### any_of -/
def s_any_of : Stmt := top 27
theorem sc_any_of : FnScope N_any_of ["sentences"] (defScope s_any_of) := ⟨rfl, rfl, rfl, by decide +kernel, rfl, by decide +kernel, by decide +kernel⟩
/-! ### atoms_of -/
def s_atoms_of : Stmt := top 11
theorem sc_atoms_of : FnScope N_atoms_of ["sentence"] (defScope s_atoms_of) := ⟨rfl, rfl, rfl, by decide +kernel, rfl, by decide +kernel, by decide +kernel⟩
/-! ### breaking -/
def s_breaking : Stmt := top 23
theorem sc_breaking : FnScope N_breaking ["sentence"] (defScope s_breaking) := ⟨rfl, rfl, rfl, by decide +kernel, rfl, by decide +kernel, by decide +kernel⟩
/-! ### many_of -/
def s_many_of : Stmt := top 10
theorem sc_many_of : FnScope N_many_of ["sentence"] (defScope s_many_of) := ⟨rfl, rfl, rfl, by decide +kernel, rfl, by decide +kernel, by decide +kernel⟩
/-! ### puts_at -/
def s_puts_at : Stmt := top 26
theorem sc_puts_at : FnScope N_puts_at ["atom", "wheel"] (defScope s_puts_at) := ⟨rfl, rfl, rfl, by decide +kernel, rfl, by decide +kernel, by decide +kernel⟩
/-! ### common_part -/
def s_common_part : Stmt := top 20
theorem sc_common_part : FnScope N_common_part ["one", "other"] (defScope s_common_part) := ⟨rfl, rfl, rfl, by decide +kernel, rfl, by decide +kernel, by decide +kernel⟩
/-! ### wheel_of -/
def s_wheel_of : Stmt := top 22
theorem sc_wheel_of : FnScope N_wheel_of ["sentence"] (defScope s_wheel_of) := ⟨rfl, rfl, rfl, by decide +kernel, rfl, by decide +kernel, by decide +kernel⟩
/-! ### plainly_some -/
def s_plainly_some : Stmt := top 28
theorem sc_plainly_some : FnScope N_plainly_some ["sentence"] (defScope s_plainly_some) := ⟨rfl, rfl, rfl, by decide +kernel, rfl, by decide +kernel, by decide +kernel⟩
/-! ### sought_by -/
def s_sought_by : Stmt := top 24
theorem sc_sought_by : FnScope N_sought_by ["question"] (defScope s_sought_by) := ⟨rfl, rfl, rfl, by decide +kernel, rfl, by decide +kernel, by decide +kernel⟩
/-! ### plainly -/
def s_plainly : Stmt := top 29
theorem sc_plainly : FnScope N_plainly ["question"] (defScope s_plainly) := ⟨rfl, rfl, rfl, by decide +kernel, rfl, by decide +kernel, by decide +kernel⟩
/-! ### places_between -/
def s_places_between : Stmt := top 15
theorem sc_places_between : FnScope N_places_between ["text"] (defScope s_places_between) := ⟨rfl, rfl, rfl, by decide +kernel, rfl, by decide +kernel, by decide +kernel⟩
/-! ### number_in -/
def s_number_in : Stmt := top 13
theorem sc_number_in : FnScope N_number_in ["word", "least", "most"] (defScope s_number_in) := ⟨rfl, rfl, rfl, by decide +kernel, rfl, by decide +kernel, by decide +kernel⟩
/-! ### simple_in -/
def s_simple_in : Stmt := top 14
theorem sc_simple_in : FnScope N_simple_in ["text"] (defScope s_simple_in) := ⟨rfl, rfl, rfl, by decide +kernel, rfl, by decide +kernel, by decide +kernel⟩
/-! ### both_in -/
def s_both_in : Stmt := top 16
theorem sc_both_in : FnScope N_both_in ["text", "within"] (defScope s_both_in) := ⟨rfl, rfl, rfl, by decide +kernel, rfl, by decide +kernel, by decide +kernel⟩
/-! ### sentence_in -/
def s_sentence_in : Stmt := top 17
theorem sc_sentence_in : FnScope N_sentence_in ["text", "within"] (defScope s_sentence_in) := ⟨rfl, rfl, rfl, by decide +kernel, rfl, by decide +kernel, by decide +kernel⟩
/-! ### read_sentence -/
def s_read_sentence : Stmt := top 18
theorem sc_read_sentence : FnScope N_read_sentence ["text"] (defScope s_read_sentence) := ⟨rfl, rfl, rfl, by decide +kernel, rfl, by decide +kernel, by decide +kernel⟩
/-! ### show_sentence -/
def s_show_sentence : Stmt := top 12
theorem sc_show_sentence : FnScope N_show_sentence ["sentence"] (defScope s_show_sentence) := ⟨rfl, rfl, rfl, by decide +kernel, rfl, by decide +kernel, by decide +kernel⟩
/-! ### law -/
def s_law : Stmt := top 39
theorem sc_law : FnScope N_law_k83 ["script"] (defScope s_law) := ⟨rfl, rfl, rfl, by decide +kernel, rfl, by decide +kernel, by decide +kernel⟩
structure Txt (K : PySem.W.Frag) (mg : Str → Option Value) (w : World) : Prop where
  n_abs : mg "abs" = none
  n_all : mg "all" = none
  n_bool : mg "bool" = none
  n_enumerate : mg "enumerate" = none
  n_int : mg "int" = none
  n_isinstance : mg "isinstance" = none
  n_len : mg "len" = none
  n_list : mg "list" = none
  n_range : mg "range" = none
  n_str : mg "str" = none
  n_tuple : mg "tuple" = none
  n_zip : mg "zip" = none
  g_GREATEST_WEIGHT : ∃ t, mg "GREATEST_WEIGHT" = some (.int (3) t)
  g_MOST_WEIGHTS : ∃ t, mg "MOST_WEIGHTS" = some (.int (3) t)
  g_GREATEST_BOUND : ∃ t, mg "GREATEST_BOUND" = some (.int (4) t)
  g_GREATEST_PART : ∃ t, mg "GREATEST_PART" = some (.int (5) t)
  g_MOST_WITHIN : ∃ t, mg "MOST_WITHIN" = some (.int (2) t)
  d_DEEPER : ∃ a, mg "DEEPER" = some (.ref a)
  t_DEEPER : KTab K mg w "DEEPER" tb_DEEPER
  d_NUMBERS : ∃ a, mg "NUMBERS" = some (.ref a)
  t_NUMBERS : KTab K mg w "NUMBERS" tb_NUMBERS
  k_Put_slopes : ∀ c ∈ (["Put"] : List Str), ∀ C, mg c = some (.ref C) → Cls K C ∧ NoAttr K C "slopes"
  k_Put_start : ∀ c ∈ (["Put"] : List Str), ∀ C, mg c = some (.ref C) → Cls K C ∧ NoAttr K C "start"
  k_Put_parts : ∀ c ∈ (["Put"] : List Str), ∀ C, mg c = some (.ref C) → Cls K C ∧ NoAttr K C "parts"
  f__law_mix : Df K mg "_law_mix" s__law_mix ["one"]
  f__law_jar : Df K mg "_law_jar" s__law_jar ["script"]
  f__law_pick : Df K mg "_law_pick" s__law_pick ["jar", "total"]
  f__law_same : Df K mg "_law_same" s__law_same ["found", "due"]
  f__law_simple : Df K mg "_law_simple" s__law_simple ["jar", "total"]
  f__law_sentence : Df K mg "_law_sentence" s__law_sentence ["jar", "total", "within"]
  f__law_written : Df K mg "_law_written" s__law_written ["sentence"]
  f_Put___init__ : DinK K mg "Put" "Put.__init__" s_Put___init__ [("by", .int 1)]
  f_Put_weights_in : Dmt K mg "Put" "weights_in" "Put.weights_in" s_Put_weights_in ["self", "weights"]
  f_Put_into : Dmt K mg "Put" "into" "Put.into" s_Put_into ["self", "sentence"]
  f_Put_is_number : Dmt K mg "Put" "is_number" "Put.is_number" s_Put_is_number ["self"]
  f_any_of : Df K mg "any_of" s_any_of ["sentences"]
  f_atoms_of : Df K mg "atoms_of" s_atoms_of ["sentence"]
  f_breaking : Df K mg "breaking" s_breaking ["sentence"]
  f_many_of : Df K mg "many_of" s_many_of ["sentence"]
  f_puts_at : Df K mg "puts_at" s_puts_at ["atom", "wheel"]
  f_common_part : Df K mg "common_part" s_common_part ["one", "other"]
  f_wheel_of : Df K mg "wheel_of" s_wheel_of ["sentence"]
  f_plainly_some : Df K mg "plainly_some" s_plainly_some ["sentence"]
  f_sought_by : Df K mg "sought_by" s_sought_by ["question"]
  f_plainly : Df K mg "plainly" s_plainly ["question"]
  f_places_between : Df K mg "places_between" s_places_between ["text"]
  f_number_in : Df K mg "number_in" s_number_in ["word", "least", "most"]
  f_simple_in : Df K mg "simple_in" s_simple_in ["text"]
  f_both_in : Df K mg "both_in" s_both_in ["text", "within"]
  f_sentence_in : Df K mg "sentence_in" s_sentence_in ["text", "within"]
  f_read_sentence : Df K mg "read_sentence" s_read_sentence ["text"]
  f_show_sentence : Df K mg "show_sentence" s_show_sentence ["sentence"]
  f_law : Df K mg "law" s_law ["script"]
section
variable {P : Program} {w : World} {K : PySem.W.Frag} {mg : Str → Option Value} {base : Heap}
/-! _law_mix -/
theorem d__law_mix (T : Txt K mg w)  : Body P w K mg base 0 N__law_mix "_law_mix" (defScope s__law_mix) (defBody s__law_mix) b__law_mix := fun f cdv A outer s H E hr tk pw =>
  have nd := sc__law_mix.nd
  dss_cons (ds_set 0 nd (de_op (oo_mod) (de_op (oo_mul false) (de_op (oo_xor) (de_var 0) (de_op (oo_div) (de_var 0) (de_int))) (de_int)) (de_int)))
    (dss_cons (ds_set 0 nd (de_op (oo_mod) (de_op (oo_mul false) (de_op (oo_xor) (de_var 0) (de_op (oo_div) (de_var 0) (de_int))) (de_int)) (de_int)))
    (dss_one (ds_ret (de_op (oo_xor) (de_var 0) (de_op (oo_div) (de_var 0) (de_int))))))
theorem o__law_mix (T : Txt K mg w)  : Fo P w K mg base 1 "_law_mix" ["one"] m__law_mix := (fo_of T.f__law_mix sc__law_mix (d__law_mix T ))
/-! _law_jar -/
theorem d__law_jar (T : Txt K mg w) (F__law_mix : Fo P w K mg base 1 "_law_mix" ["one"] m__law_mix) : Body P w K mg base 1 N__law_jar "_law_jar" (defScope s__law_jar) (defBody s__law_jar) b__law_jar := fun f cdv A outer s H E hr tk pw =>
  have nd := sc__law_jar.nd
  dss_cons (ds_set 1 nd (de_int))
    (dss_cons (ds_for pw rfl (di_seq (de_sl false (de_var 0) (do_no) (do_so (de_int)))) (dg_pat (dgn_name 2 nd))
    (dss_one (ds_set 1 nd (de_fo F__law_mix (hr.mono (by decide)) tk (da_cons (de_op (oo_mod) (de_op (oo_add false) (de_op (oo_mul false) (de_var 1) (de_int)) (de_var 2)) (de_int)) (da_nil))))))
    (dss_one (ds_ret (de_disp (dpp_cons (de_ct (co_list rfl true) T.n_list (da_cons (de_sl false (de_var 0) (do_no) (do_so (de_int))) (da_nil)) (by decide +kernel)) (dpp_cons (de_int) (dpp_cons (de_var 1) (dpp_cons (de_int) (dpp_nil)))))))))
theorem o__law_jar (T : Txt K mg w) (F__law_mix : Fo P w K mg base 1 "_law_mix" ["one"] m__law_mix) : Fo P w K mg base 2 "_law_jar" ["script"] m__law_jar := (fo_of T.f__law_jar sc__law_jar (d__law_jar T F__law_mix))
/-! _law_pick -/
theorem d__law_pick (T : Txt K mg w) (F__law_mix : Fo P w K mg base 1 "_law_mix" ["one"] m__law_mix) : Body P w K mg base 1 N__law_pick "_law_pick" (defScope s__law_pick) (defBody s__law_pick) b__law_pick := fun f cdv A outer s H E hr tk pw =>
  have nd := sc__law_pick.nd
  dss_cons (ds_if (dt_co (oo_lt) (de_ix (hu1 hr) (de_var 0) (de_str)) (de_var 1))
    (dss_cons (ds_asg (de_op (oo_add false) (de_ix (hu1 hr) (de_var 0) (de_str)) (de_int)) (dg_sub (hu1 hr) (de_var 0) (de_str)))
    (dss_one (ds_if (dt_co (oo_ne (hu64 hr)) (de_ix (hu1 hr) (de_var 0) (de_str)) (de_lst false (da_nil)))
    (dss_cons (ds_set 3 nd (de_m .list PySem.F.plainAttrs_list PySem.F.slot_list_pop PySem.F.type_list_pop mo_popAt (de_ix (hu1 hr) (de_var 0) (de_str)) (da_cons (de_int) (da_nil))))
    (dss_cons (ds_asg (de_var 3) (dg_sub (hu1 hr) (de_var 0) (de_str)))
    (dss_one (ds_if (dt_co (oo_lt) (de_var 3) (de_op (oo_pow) (de_int) (de_int)))
    (dss_cons (ds_set 4 nd (de_op (oo_add false) (de_op (oo_mul false) (de_var 3) (de_int)) (de_op (oo_mul false) (de_ix (hu1 hr) (de_var 0) (de_str)) (de_int))))
    (dss_cons (ds_set 5 nd (de_fo F__law_mix (hr.mono (by decide)) tk (da_cons (de_op (oo_mod) (de_var 4) (de_int)) (da_nil))))
    (dss_one (ds_asg (de_op (oo_add false) (de_op (oo_mul false) (de_var 5) (de_int)) (de_fo F__law_mix (hr.mono (by decide)) tk (da_cons (de_op (oo_xor) (de_var 5) (de_int)) (da_nil)))) (dg_sub (hu1 hr) (de_var 0) (de_str))))))
    (dss_nil)))))
    (dss_cons (ds_asg (de_fo F__law_mix (hr.mono (by decide)) tk (da_cons (de_op (oo_mod) (de_op (oo_add false) (de_ix (hu1 hr) (de_var 0) (de_str)) (de_int)) (de_int)) (da_nil))) (dg_sub (hu1 hr) (de_var 0) (de_str)))
    (dss_one (ds_asg (de_ix (hu1 hr) (de_var 0) (de_str)) (dg_sub (hu1 hr) (de_var 0) (de_str))))))))
    (dss_nil))
    (dss_cons (ds_set 2 nd (de_op (oo_mod) (de_ix (hu1 hr) (de_var 0) (de_str)) (de_var 1)))
    (dss_cons (ds_asg (de_op (oo_div) (de_ix (hu1 hr) (de_var 0) (de_str)) (de_var 1)) (dg_sub (hu1 hr) (de_var 0) (de_str)))
    (dss_one (ds_ret (de_var 2)))))
theorem o__law_pick (T : Txt K mg w) (F__law_mix : Fo P w K mg base 1 "_law_mix" ["one"] m__law_mix) : Fo P w K mg base 2 "_law_pick" ["jar", "total"] m__law_pick := (fo_of T.f__law_pick sc__law_pick (d__law_pick T F__law_mix))
/-! _law_same -/
theorem d__law_same (T : Txt K mg w)  {k : Nat} (hk : 0 ≤ k) {r : FnS} (F__law_same : Fo P w K mg base k "_law_same" ["found", "due"] r) : Body P w K mg base k N__law_same "_law_same" (defScope s__law_same) (defBody s__law_same) (b__law_same r) := fun f cdv A outer s H E hr tk pw =>
  have nd := sc__law_same.nd
  dss_cons (ds_if (dt_co (oo_is) (de_var 1) (de_non))
    (dss_one (ds_ret (de_co (oo_is) (de_var 0) (de_non))))
    (dss_nil))
    (dss_cons (ds_if (dt_tr (de_isi (de_var 1) T.n_isinstance T.n_bool (by decide +kernel)))
    (dss_one (ds_ret (de_and (de_isi (de_var 0) T.n_isinstance T.n_bool (by decide +kernel)) (de_one (de_co (oo_eq (hu64 hr)) (de_var 0) (de_var 1))))))
    (dss_nil))
    (dss_cons (ds_if (dt_tr (de_isi (de_var 1) T.n_isinstance T.n_int (by decide +kernel)))
    (dss_one (ds_ret (de_and (de_isi (de_var 0) T.n_isinstance T.n_int (by decide +kernel)) (de_and (de_not (de_isi (de_var 0) T.n_isinstance T.n_bool (by decide +kernel))) (de_one (de_co (oo_eq (hu64 hr)) (de_var 0) (de_var 1)))))))
    (dss_nil))
    (dss_cons (ds_if (dt_tr (de_isi (de_var 1) T.n_isinstance T.n_str (by decide +kernel)))
    (dss_one (ds_ret (de_and (de_isi (de_var 0) T.n_isinstance T.n_str (by decide +kernel)) (de_one (de_co (oo_eq (hu64 hr)) (de_var 0) (de_var 1))))))
    (dss_nil))
    (dss_cons (ds_if (dt_w (dw_or (dt_co (oo_ne (hu64 hr)) (de_isi (de_var 1) T.n_isinstance T.n_tuple (by decide +kernel)) (de_isi (de_var 0) T.n_isinstance T.n_tuple (by decide +kernel))) (dw_or1 (dt_co (oo_ne (hu64 hr)) (de_isi (de_var 1) T.n_isinstance T.n_list (by decide +kernel)) (de_isi (de_var 0) T.n_isinstance T.n_list (by decide +kernel))))))
    (dss_one (ds_ret (de_bl)))
    (dss_nil))
    (dss_cons (ds_if (dt_co (oo_ne (hu64 hr)) (de_cb (co_len) T.n_len (da_cons (de_var 0) (da_nil)) (by decide +kernel)) (de_cb (co_len) T.n_len (da_cons (de_var 1) (da_nil)) (by decide +kernel)))
    (dss_one (ds_ret (de_bl)))
    (dss_nil))
    (dss_one (ds_ret (de_cb (co_all rfl) T.n_all (da_cons (de_lc false [("one", 2), ("other", 3)] rfl nd (di_zip T.n_zip (da_cons (de_var 0) (da_cons (de_var 1) (da_nil)))) (show blkC N__law_same (defScope s__law_same) _ [("one", 2), ("other", 3)] = true from by decide +kernel) (fun _ => dgn_tup 2 rfl (dgns_cons (dgn_name 2 nd) (dgns_cons (dgn_name 3 nd) (dgns_nil)))) (fun _ => dts_nil) (fun _ => de_fo F__law_same (hr.mono (by omega)) takes0 (da_cons (de_var 2) (da_cons (de_var 3) (da_nil))))) (da_nil)) (by decide +kernel)))))))))
theorem o__law_same (T : Txt K mg w)  : ∀ n, Fo P w K mg base (0 + n) "_law_same" ["found", "due"] (m__law_same n)
  | 0 => fo_none T.f__law_same
  | n + 1 => (fo_of T.f__law_same sc__law_same (d__law_same T  (k := 0 + n) (by omega) (o__law_same T  n)))
/-! _law_simple -/
theorem d__law_simple (T : Txt K mg w) (F__law_pick : Fo P w K mg base 2 "_law_pick" ["jar", "total"] m__law_pick) : Body P w K mg base 2 N__law_simple "_law_simple" (defScope s__law_simple) (defBody s__law_simple) b__law_simple := fun f cdv A outer s H E hr tk pw =>
  have nd := sc__law_simple.nd
  dss_cons (ds_set 2 nd (de_ct co_tuple T.n_tuple (da_cons (de_lc false [("gate", 4)] rfl nd (di_rng1 T.n_range (da_cons (de_var 1) (da_nil))) (show blkC N__law_simple (defScope s__law_simple) _ [("gate", 4)] = true from by decide +kernel) (fun _ => dgn_name 4 nd) (fun _ => dts_nil) (fun _ => de_op (oo_sub) (de_fo F__law_pick (hr.mono (by decide)) takes0 (da_cons (de_var 0) (da_cons (de_int) (da_nil)))) (de_int))) (da_nil)) (by decide +kernel)))
    (dss_cons (ds_if (dt_co (oo_eq (hu64 hr)) (de_fo F__law_pick (hr.mono (by decide)) tk (da_cons (de_var 0) (da_cons (de_int) (da_nil)))) (de_int))
    (dss_one (ds_ret (de_tup (da_cons (de_str) (da_cons (de_var 2) (da_cons (de_op (oo_sub) (de_fo F__law_pick (hr.mono (by decide)) tk (da_cons (de_var 0) (da_cons (de_int) (da_nil)))) (de_int)) (da_nil)))))))
    (dss_nil))
    (dss_cons (ds_set 3 nd (de_op (oo_add false) (de_int) (de_fo F__law_pick (hr.mono (by decide)) tk (da_cons (de_var 0) (da_cons (de_int) (da_nil))))))
    (dss_one (ds_ret (de_tup (da_cons (de_str) (da_cons (de_var 2) (da_cons (de_var 3) (da_cons (de_fo F__law_pick (hr.mono (by decide)) tk (da_cons (de_var 0) (da_cons (de_var 3) (da_nil)))) (da_nil))))))))))
theorem o__law_simple (T : Txt K mg w) (F__law_pick : Fo P w K mg base 2 "_law_pick" ["jar", "total"] m__law_pick) : Fo P w K mg base 3 "_law_simple" ["jar", "total"] m__law_simple := (fo_of T.f__law_simple sc__law_simple (d__law_simple T F__law_pick))
/-! _law_sentence -/
theorem d__law_sentence (T : Txt K mg w) (F__law_pick : Fo P w K mg base 2 "_law_pick" ["jar", "total"] m__law_pick) (F__law_simple : Fo P w K mg base 3 "_law_simple" ["jar", "total"] m__law_simple) {k : Nat} (hk : 3 ≤ k) {r : FnS} (F__law_sentence : Fo P w K mg base k "_law_sentence" ["jar", "total", "within"] r) : Body P w K mg base k N__law_sentence "_law_sentence" (defScope s__law_sentence) (defBody s__law_sentence) (b__law_sentence r) := fun f cdv A outer s H E hr tk pw =>
  have nd := sc__law_sentence.nd
  dss_cons (ds_set 3 nd (de_op (oo_mul false) (de_fo F__law_pick (hr.mono (by omega)) tk (da_cons (de_var 0) (da_cons (de_int) (da_nil)))) (de_ct co_int T.n_int (da_cons (de_co (oo_gt) (de_var 2) (de_int)) (da_nil)) (by decide +kernel))))
    (dss_cons (ds_if (dt_co (oo_lt) (de_var 3) (de_int))
    (dss_one (ds_ret (de_fo F__law_simple (hr.mono (by omega)) tk (da_cons (de_var 0) (da_cons (de_var 1) (da_nil))))))
    (dss_nil))
    (dss_cons (ds_if (dt_co (oo_eq (hu64 hr)) (de_var 3) (de_int))
    (dss_one (ds_ret (de_tup (da_cons (de_str) (da_cons (de_fo F__law_sentence (hr.mono (by omega)) tk (da_cons (de_var 0) (da_cons (de_var 1) (da_cons (de_op (oo_sub) (de_var 2) (de_int)) (da_nil))))) (da_nil))))))
    (dss_nil))
    (dss_cons (ds_set 4 nd (de_fo F__law_sentence (hr.mono (by omega)) tk (da_cons (de_var 0) (da_cons (de_var 1) (da_cons (de_op (oo_sub) (de_var 2) (de_int)) (da_nil))))))
    (dss_one (ds_ret (de_tup (da_cons (de_ix (hu1 hr) (de_lst false (da_cons (de_str) (da_cons (de_str) (da_nil)))) (de_op (oo_sub) (de_var 3) (de_int))) (da_cons (de_var 4) (da_cons (de_fo F__law_sentence (hr.mono (by omega)) tk (da_cons (de_var 0) (da_cons (de_var 1) (da_cons (de_op (oo_sub) (de_var 2) (de_int)) (da_nil))))) (da_nil))))))))))
theorem o__law_sentence (T : Txt K mg w) (F__law_pick : Fo P w K mg base 2 "_law_pick" ["jar", "total"] m__law_pick) (F__law_simple : Fo P w K mg base 3 "_law_simple" ["jar", "total"] m__law_simple) : ∀ n, Fo P w K mg base (3 + n) "_law_sentence" ["jar", "total", "within"] (m__law_sentence n)
  | 0 => fo_none T.f__law_sentence
  | n + 1 => (fo_of T.f__law_sentence sc__law_sentence (d__law_sentence T F__law_pick F__law_simple (k := 3 + n) (by omega) (o__law_sentence T F__law_pick F__law_simple n)))
/-! _law_written -/
theorem d__law_written (T : Txt K mg w)  {k : Nat} (hk : 0 ≤ k) {r : FnS} (F__law_written : Fo P w K mg base k "_law_written" ["sentence"] r) : Body P w K mg base k N__law_written "_law_written" (defScope s__law_written) (defBody s__law_written) (b__law_written r) := fun f cdv A outer s H E hr tk pw =>
  have nd := sc__law_written.nd
  dss_cons (ds_if (dt_co (oo_eq (hu64 hr)) (de_ix (hu1 hr) (de_var 0) (de_int)) (de_str))
    (dss_one (ds_ret (de_op (oo_add false) (de_str) (de_fo F__law_written (hr.mono (by omega)) tk (da_cons (de_ix (hu1 hr) (de_var 0) (de_int)) (da_nil))))))
    (dss_nil))
    (dss_cons (ds_if (dt_co (oo_in (hu1 hr)) (de_ix (hu1 hr) (de_var 0) (de_int)) (de_tup (da_cons (de_str) (da_cons (de_str) (da_nil)))))
    (dss_cons (ds_setLc false 3 [("one", 4)] rfl nd (sw_true rfl rfl rfl (by decide +kernel)) (di_seq (de_sl false (de_var 0) (do_so (de_int)) (do_no))) (show blkC N__law_written (defScope s__law_written) _ [("one", 4)] = true from by decide +kernel) (fun _ => dgn_name 4 nd) (fun _ => dts_nil) (fun _ => de_fo F__law_written (hr.mono (by omega)) takes0 (da_cons (de_var 4) (da_nil))))
    (dss_one (ds_ret (de_op (oo_add false) (de_op (oo_add false) (de_str) (de_m .str PySem.F.plainAttrs_str PySem.F.slot_str_join PySem.F.type_str_join (mo_join) (de_op (oo_add false) (de_op (oo_add false) (de_str) (de_ix (hu1 hr) (de_var 0) (de_int))) (de_str)) (da_cons (de_var 3) (da_nil)))) (de_str)))))
    (dss_nil))
    (dss_cons (ds_set 1 nd (de_op (oo_add false) (de_op (oo_add false) (de_ix (hu1 hr) (de_var 0) (de_int)) (de_str)) (de_m .str PySem.F.plainAttrs_str PySem.F.slot_str_join PySem.F.type_str_join (mo_join) (de_str) (da_cons (de_lc false [("weight", 5)] rfl nd (di_seq (de_ix (hu1 hr) (de_var 0) (de_int))) (show blkC N__law_written (defScope s__law_written) _ [("weight", 5)] = true from by decide +kernel) (fun _ => dgn_name 5 nd) (fun _ => dts_nil) (fun _ => de_ct co_str T.n_str (da_cons (de_var 5) (da_nil)) (by decide +kernel))) (da_nil)))))
    (dss_cons (ds_for pw rfl (di_seq (de_sl false (de_var 0) (do_so (de_int)) (do_no))) (dg_pat (dgn_name 2 nd))
    (dss_one (ds_set 1 nd (de_op (oo_add false) (de_op (oo_add false) (de_var 1) (de_str)) (de_ct co_str T.n_str (da_cons (de_var 2) (da_nil)) (by decide +kernel))))))
    (dss_one (ds_ret (de_var 1))))))
theorem o__law_written (T : Txt K mg w)  : ∀ n, Fo P w K mg base (0 + n) "_law_written" ["sentence"] (m__law_written n)
  | 0 => fo_none T.f__law_written
  | n + 1 => (fo_of T.f__law_written sc__law_written (d__law_written T  (k := 0 + n) (by omega) (o__law_written T  n)))
/-! Put.__init__ -/
theorem d_Put___init__ (T : Txt K mg w)  : Body P w K mg base 0 N_Put___init__ "Put.__init__" (defScope s_Put___init__) (defBody s_Put___init__) b_Put___init__ := fun f cdv A outer s H E hr tk pw =>
  have nd := sc_Put___init__.nd
  dss_cons (ds_fld (de_var 0) (de_var 1) T.k_Put_slopes)
    (dss_cons (ds_fld (de_var 0) (de_var 2) T.k_Put_start)
    (dss_one (ds_fld (de_var 0) (de_var 3) T.k_Put_parts)))
theorem o_Put___init__ (T : Txt K mg w)  : Mi P w K mg base 1 "Put" 4 m_Put___init__ [.int 1] := mi_ofK (n := 3) T.f_Put___init__ sc_Put___init__ (d_Put___init__ T ) (by intro z; cases z) rfl (fun _ => .cons .int (.nil)) (fun D doc pm an cdv ct us ks l1 l2 => match us, ks, l1, l2 with | [_, _, _], [_], _, _ => ⟨_, _, _, _, _, _, rfl, rfl, rfl⟩)
theorem o_Put___init___N (T : Txt K mg w)  : MiN P w K mg base 1 "Put" 2 ["by"] 4 m_Put___init__ (fun xs zs => xs ++ zs) := mi_ofN (n := 2) T.f_Put___init__ sc_Put___init__ (d_Put___init__ T ) (by intro z; cases z) ["by"] (fun D doc pm an cdv ct us ks l1 l2 => match us, ks, l1, l2 with | [_, _, _], [_], _, _ => rfl)
/-! Put.weights_in -/
theorem d_Put_weights_in (T : Txt K mg w)  : Body P w K mg base 0 N_Put_weights_in "Put.weights_in" (defScope s_Put_weights_in) (defBody s_Put_weights_in) b_Put_weights_in := fun f cdv A outer s H E hr tk pw =>
  have nd := sc_Put_weights_in.nd
  dss_cons (ds_asg (de_var 1) (dg_pat (dgn_star false 2 0 rfl (dgns_star (dgn_name 3 nd) (dgns_cons (dgn_name 2 nd) (dgns_nil))))))
    (dss_one (ds_ret (de_ct co_tuple T.n_tuple (da_cons (de_lc false [("one", 4), ("other", 5)] rfl nd (di_zipS T.n_zip (da_cons (de_var 3) (da_cons (de_fld (de_var 0) T.k_Put_slopes) (da_nil)))) (show blkC N_Put_weights_in (defScope s_Put_weights_in) _ [("one", 4), ("other", 5)] = true from by decide +kernel) (fun _ => dgn_tup 2 rfl (dgns_cons (dgn_name 4 nd) (dgns_cons (dgn_name 5 nd) (dgns_nil)))) (fun _ => dts_nil) (fun _ => de_op (oo_add false) (de_op (oo_mul false) (de_fld (de_var 0) T.k_Put_parts) (de_var 4)) (de_op (oo_mul false) (de_var 2) (de_var 5)))) (da_nil)) (by decide +kernel))))
theorem o_Put_weights_in (T : Txt K mg w)  : Mo P w K mg base 1 "weights_in" "Put" 2 m_Put_weights_in [] := (mo_of T.f_Put_weights_in sc_Put_weights_in (d_Put_weights_in T ))
/-! Put.into -/
theorem d_Put_into (T : Txt K mg w) (F_Put_weights_in : Mo P w K mg base 1 "weights_in" "Put" 2 m_Put_weights_in []) {k : Nat} (hk : 1 ≤ k) {r : FnS} (F_Put_into : Mo P w K mg base k "into" "Put" 2 r []) : Body P w K mg base k N_Put_into "Put.into" (defScope s_Put_into) (defBody s_Put_into) (b_Put_into r) := fun f cdv A outer s H E hr tk pw =>
  have nd := sc_Put_into.nd
  dss_cons (ds_asg (de_var 1) (dg_pat (dgn_star false 2 1 rfl (dgns_cons (dgn_name 2 nd) (dgns_star (dgn_name 4 nd) (dgns_nil))))))
    (dss_cons (ds_if (dt_co (oo_eq (hu64 hr)) (de_var 2) (de_str))
    (dss_cons (ds_asg (de_var 4) (dg_pat (dgn_tup 2 rfl (dgns_cons (dgn_name 5 nd) (dgns_cons (dgn_name 6 nd) (dgns_nil))))))
    (dss_one (ds_ret (de_tup (da_cons (de_str) (da_cons (de_meth (de_var 0) (mok1 F_Put_weights_in) (hr.mono (by omega)) (lets_of tk) (da_cons (de_var 5) (da_nil))) (da_cons (de_op (oo_sub) (de_op (oo_mul false) (de_fld (de_var 0) T.k_Put_parts) (de_var 6)) (de_op (oo_mul false) (de_ix (hu1 hr) (de_var 5) (de_neg (de_int))) (de_fld (de_var 0) T.k_Put_start))) (da_nil))))))))
    (dss_nil))
    (dss_cons (ds_if (dt_co (oo_eq (hu64 hr)) (de_var 2) (de_str))
    (dss_cons (ds_asg (de_var 4) (dg_pat (dgn_tup 3 rfl (dgns_cons (dgn_name 5 nd) (dgns_cons (dgn_name 7 nd) (dgns_cons (dgn_name 8 nd) (dgns_nil)))))))
    (dss_cons (ds_set 3 nd (de_op (oo_mul false) (de_fld (de_var 0) T.k_Put_parts) (de_var 7)))
    (dss_one (ds_ret (de_tup (da_cons (de_str) (da_cons (de_meth (de_var 0) (mok1 F_Put_weights_in) (hr.mono (by omega)) (lets_of tk) (da_cons (de_var 5) (da_nil))) (da_cons (de_var 3) (da_cons (de_op (oo_mod) (de_op (oo_sub) (de_op (oo_mul false) (de_fld (de_var 0) T.k_Put_parts) (de_var 8)) (de_op (oo_mul false) (de_ix (hu1 hr) (de_var 5) (de_neg (de_int))) (de_fld (de_var 0) T.k_Put_start))) (de_var 3)) (da_nil))))))))))
    (dss_nil))
    (dss_one (ds_ret (de_op (oo_add false) (de_tup (da_cons (de_var 2) (da_nil))) (de_ct co_tuple T.n_tuple (da_cons (de_lc false [("part", 9)] rfl nd (di_seq (de_var 4)) (show blkC N_Put_into (defScope s_Put_into) _ [("part", 9)] = true from by decide +kernel) (fun _ => dgn_name 9 nd) (fun _ => dts_nil) (fun _ => de_meth (de_var 0) (mok1 F_Put_into) (hr.mono (by omega)) lets_nx (da_cons (de_var 9) (da_nil)))) (da_nil)) (by decide +kernel)))))))
theorem o_Put_into (T : Txt K mg w) (F_Put_weights_in : Mo P w K mg base 1 "weights_in" "Put" 2 m_Put_weights_in []) : ∀ n, Mo P w K mg base (1 + n) "into" "Put" 2 (m_Put_into n) []
  | 0 => mo_none T.f_Put_into
  | n + 1 => (mo_of T.f_Put_into sc_Put_into (d_Put_into T F_Put_weights_in (k := 1 + n) (by omega) (o_Put_into T F_Put_weights_in n)))
/-! Put.is_number -/
theorem d_Put_is_number (T : Txt K mg w)  : Body P w K mg base 0 N_Put_is_number "Put.is_number" (defScope s_Put_is_number) (defBody s_Put_is_number) b_Put_is_number := fun f cdv A outer s H E hr tk pw =>
  have nd := sc_Put_is_number.nd
  dss_one (ds_ret (de_tup (da_cons (de_str) (da_cons (de_fld (de_var 0) T.k_Put_slopes) (da_cons (de_neg (de_fld (de_var 0) T.k_Put_start)) (da_nil))))))
theorem o_Put_is_number (T : Txt K mg w)  : Mo P w K mg base 1 "is_number" "Put" 1 m_Put_is_number [] := (mo_of T.f_Put_is_number sc_Put_is_number (d_Put_is_number T ))
/-! any_of -/
theorem d_any_of (T : Txt K mg w)  : Body P w K mg base 0 N_any_of "any_of" (defScope s_any_of) (defBody s_any_of) b_any_of := fun f cdv A outer s H E hr tk pw =>
  have nd := sc_any_of.nd
  dss_cons (ds_while pw (dt_co (oo_gt) (de_cb (co_len) T.n_len (da_cons (de_var 0) (da_nil)) (by decide +kernel)) (de_int))
    (dss_cons (ds_set 1 nd (de_sl false (de_var 0) (do_so (de_op (oo_mul false) (de_op (oo_div) (de_cb (co_len) T.n_len (da_cons (de_var 0) (da_nil)) (by decide +kernel)) (de_int)) (de_int))) (do_no)))
    (dss_one (ds_set 0 nd (de_op (oo_add false) (de_lc false [("one", 2), ("other", 3)] rfl nd (di_zip T.n_zip (da_cons (de_sl3 false (de_var 0) (do_no) (do_no) (do_so (de_int))) (da_cons (de_sl3 false (de_var 0) (do_so (de_int)) (do_no) (do_so (de_int))) (da_nil)))) (show blkC N_any_of (defScope s_any_of) _ [("one", 2), ("other", 3)] = true from by decide +kernel) (fun _ => dgn_tup 2 rfl (dgns_cons (dgn_name 2 nd) (dgns_cons (dgn_name 3 nd) (dgns_nil)))) (fun _ => dts_nil) (fun _ => de_tup (da_cons (de_str) (da_cons (de_var 2) (da_cons (de_var 3) (da_nil)))))) (de_var 1))))))
    (dss_one (ds_ret (de_ix (hu1 hr) (de_var 0) (de_int))))
theorem o_any_of (T : Txt K mg w)  : Fo P w K mg base 1 "any_of" ["sentences"] m_any_of := (fo_of T.f_any_of sc_any_of (d_any_of T ))
/-! atoms_of -/
theorem d_atoms_of (T : Txt K mg w)  {k : Nat} (hk : 0 ≤ k) {r : FnS} (F_atoms_of : Fo P w K mg base k "atoms_of" ["sentence"] r) : Body P w K mg base k N_atoms_of "atoms_of" (defScope s_atoms_of) (defBody s_atoms_of) (b_atoms_of r) := fun f cdv A outer s H E hr tk pw =>
  have nd := sc_atoms_of.nd
  dss_cons (ds_if (dt_co (oo_in (hu1 hr)) (de_ix (hu1 hr) (de_var 0) (de_int)) (de_tup (da_cons (de_str) (da_cons (de_str) (da_nil)))))
    (dss_one (ds_ret (de_lst false (da_cons (de_var 0) (da_nil)))))
    (dss_nil))
    (dss_one (ds_ret (de_lc2 false [("part", 1), ("one", 2)] [2] rfl nd (di_seq (de_sl false (de_var 0) (do_so (de_int)) (do_no))) (show blkC N_atoms_of (defScope s_atoms_of) _ [("part", 1), ("one", 2)] = true from by decide +kernel) (fun _ => dgn_name 1 nd) (fun _ => dts_nil) (fun _ => di_seq (de_fo F_atoms_of (hr.mono (by omega)) takes0 (da_cons (de_var 1) (da_nil)))) (fun _ => dgn_name 2 nd) (fun _ => dts_nil) (fun _ => de_var 2))))
theorem o_atoms_of (T : Txt K mg w)  : ∀ n, Fo P w K mg base (0 + n) "atoms_of" ["sentence"] (m_atoms_of n)
  | 0 => fo_none T.f_atoms_of
  | n + 1 => (fo_of T.f_atoms_of sc_atoms_of (d_atoms_of T  (k := 0 + n) (by omega) (o_atoms_of T  n)))
/-! breaking -/
theorem d_breaking (T : Txt K mg w) (F_atoms_of : Fo P w K mg base 40 "atoms_of" ["sentence"] (m_atoms_of 40)) : Body P w K mg base 40 N_breaking "breaking" (defScope s_breaking) (defBody s_breaking) b_breaking := fun f cdv A outer s H E hr tk pw =>
  have nd := sc_breaking.nd
  dss_one (ds_ret (de_lc false [("atom", 1)] rfl nd (di_seq (de_fo F_atoms_of (hr.mono (by decide)) tk (da_cons (de_var 0) (da_nil)))) (show blkC N_breaking (defScope s_breaking) _ [("atom", 1)] = true from by decide +kernel) (fun _ => dgn_name 1 nd) (fun _ => dts_one (dt_w (dw_and (dt_co (oo_eq (hu64 hr)) (de_ix (hu1 hr) (de_var 1) (de_int)) (de_str)) (dw_and1 (dt_co (oo_ne (hu64 hr)) (de_ix (hu1 hr) (de_ix (hu1 hr) (de_var 1) (de_int)) (de_neg (de_int))) (de_int)))))) (fun _ => de_var 1)))
theorem o_breaking (T : Txt K mg w) (F_atoms_of : Fo P w K mg base 40 "atoms_of" ["sentence"] (m_atoms_of 40)) : Fo P w K mg base 41 "breaking" ["sentence"] m_breaking := (fo_of T.f_breaking sc_breaking (d_breaking T F_atoms_of))
/-! many_of -/
theorem d_many_of (T : Txt K mg w)  : Body P w K mg base 0 N_many_of "many_of" (defScope s_many_of) (defBody s_many_of) b_many_of := fun f cdv A outer s H E hr tk pw =>
  have nd := sc_many_of.nd
  dss_cons (ds_while pw (dt_co (oo_notin (hu1 hr)) (de_ix (hu1 hr) (de_var 0) (de_int)) (de_tup (da_cons (de_str) (da_cons (de_str) (da_nil)))))
    (dss_one (ds_set 0 nd (de_ix (hu1 hr) (de_var 0) (de_int)))))
    (dss_one (ds_ret (de_cb (co_len) T.n_len (da_cons (de_ix (hu1 hr) (de_var 0) (de_int)) (da_nil)) (by decide +kernel))))
theorem o_many_of (T : Txt K mg w)  : Fo P w K mg base 1 "many_of" ["sentence"] m_many_of := (fo_of T.f_many_of sc_many_of (d_many_of T ))
/-! puts_at -/
theorem d_puts_at (T : Txt K mg w) (F_Put___init___N : MiN P w K mg base 1 "Put" 2 ["by"] 4 m_Put___init__ (fun xs zs => xs ++ zs)) : Body P w K mg base 2 N_puts_at "puts_at" (defScope s_puts_at) (defBody s_puts_at) b_puts_at := fun f cdv A outer s H E hr tk pw =>
  have nd := sc_puts_at.nd
  dss_cons (ds_asg (de_ix (hu1 hr) (de_var 0) (de_int)) (dg_pat (dgn_star false 2 0 rfl (dgns_star (dgn_name 8 nd) (dgns_cons (dgn_name 5 nd) (dgns_nil))))))
    (dss_cons (ds_set 2 nd (de_cb (co_abs) T.n_abs (da_cons (de_var 5) (da_nil)) (by decide +kernel)))
    (dss_cons (ds_set 3 nd (de_lst true (da_nil)))
    (dss_cons (ds_for pw rfl (di_rng1 T.n_range (da_cons (de_var 2) (da_nil))) (dg_pat (dgn_name 4 nd))
    (dss_cons (ds_set 6 nd (de_tup (da_cons (de_str) (da_cons (de_ct co_tuple T.n_tuple (da_cons (de_var 8) (da_nil)) (by decide +kernel)) (da_cons (de_var 2) (da_cons (de_op (oo_mod) (de_op (oo_add false) (de_ix (hu1 hr) (de_var 0) (de_int)) (de_var 4)) (de_var 2)) (da_nil)))))))
    (dss_one (ds_for pw rfl (di_rng1 T.n_range (da_cons (de_var 1) (da_nil))) (dg_pat (dgn_name 7 nd))
    (dss_cons (ds_if (dt_co (oo_gt) (de_var 5) (de_int))
    (dss_one (ds_set 9 nd (de_miN F_Put___init___N (hr.mono (by decide)) (lets_of tk) (da_cons (de_ct co_tuple T.n_tuple (da_cons (de_lc false [("weight", 10)] rfl nd (di_seq (de_var 8)) (show blkC N_puts_at (defScope s_puts_at) _ [("weight", 10)] = true from by decide +kernel) (fun _ => dgn_name 10 nd) (fun _ => dts_nil) (fun _ => de_neg (de_var 10))) (da_nil)) (by decide +kernel)) (da_cons (de_op (oo_add false) (de_op (oo_add false) (de_ix (hu1 hr) (de_var 0) (de_int)) (de_var 4)) (de_op (oo_mul false) (de_var 2) (de_var 7))) (da_nil))) (dk_cons (de_var 2) (dk_nil)))))
    (dss_one (ds_set 9 nd (de_miN F_Put___init___N (hr.mono (by decide)) (lets_of tk) (da_cons (de_ct co_tuple T.n_tuple (da_cons (de_var 8) (da_nil)) (by decide +kernel)) (da_cons (de_op (oo_sub) (de_op (oo_sub) (de_op (oo_mul false) (de_var 2) (de_op (oo_add false) (de_var 7) (de_int))) (de_ix (hu1 hr) (de_var 0) (de_int))) (de_var 4)) (da_nil))) (dk_cons (de_var 2) (dk_nil))))))
    (dss_one (ds_expr (de_m .list PySem.F.plainAttrs_list PySem.F.slot_list_append PySem.F.type_list_append (mo_append) (de_var 3) (da_cons (de_tup (da_cons (de_var 9) (da_cons (de_var 6) (da_nil)))) (da_nil))))))))))
    (dss_one (ds_ret (de_frz (de_var 3)))))))
theorem o_puts_at (T : Txt K mg w) (F_Put___init___N : MiN P w K mg base 1 "Put" 2 ["by"] 4 m_Put___init__ (fun xs zs => xs ++ zs)) : Fo P w K mg base 3 "puts_at" ["atom", "wheel"] m_puts_at := (fo_of T.f_puts_at sc_puts_at (d_puts_at T F_Put___init___N))
/-! common_part -/
theorem d_common_part (T : Txt K mg w)  : Body P w K mg base 0 N_common_part "common_part" (defScope s_common_part) (defBody s_common_part) b_common_part := fun f cdv A outer s H E hr tk pw =>
  have nd := sc_common_part.nd
  dss_cons (ds_par 0 1 rfl nd (da_cons (de_cb (co_abs) T.n_abs (da_cons (de_var 0) (da_nil)) (by decide +kernel)) (da_cons (de_cb (co_abs) T.n_abs (da_cons (de_var 1) (da_nil)) (by decide +kernel)) (da_nil))) (by rfl))
    (dss_cons (ds_while pw (dt_co (oo_ne (hu64 hr)) (de_var 1) (de_int))
    (dss_one (ds_par 0 1 rfl nd (da_cons (de_var 1) (da_cons (de_op (oo_mod) (de_var 0) (de_var 1)) (da_nil))) (by rfl))))
    (dss_one (ds_ret (de_var 0))))
theorem o_common_part (T : Txt K mg w)  : Fo P w K mg base 1 "common_part" ["one", "other"] m_common_part := (fo_of T.f_common_part sc_common_part (d_common_part T ))
/-! wheel_of -/
theorem d_wheel_of (T : Txt K mg w) (F_atoms_of : Fo P w K mg base 40 "atoms_of" ["sentence"] (m_atoms_of 40)) (F_common_part : Fo P w K mg base 1 "common_part" ["one", "other"] m_common_part) : Body P w K mg base 40 N_wheel_of "wheel_of" (defScope s_wheel_of) (defBody s_wheel_of) b_wheel_of := fun f cdv A outer s H E hr tk pw =>
  have nd := sc_wheel_of.nd
  dss_cons (ds_set 1 nd (de_int))
    (dss_cons (ds_for pw rfl (di_seq (de_fo F_atoms_of (hr.mono (by decide)) tk (da_cons (de_var 0) (da_nil)))) (dg_pat (dgn_name 2 nd))
    (dss_one (ds_if (dt_co (oo_eq (hu64 hr)) (de_ix (hu1 hr) (de_var 2) (de_int)) (de_str))
    (dss_cons (ds_asg (de_ix (hu1 hr) (de_var 2) (de_int)) (dg_pat (dgn_star false 2 0 rfl (dgns_star (dgn_name 5 nd) (dgns_cons (dgn_name 4 nd) (dgns_nil))))))
    (dss_cons (ds_set 3 nd (de_op (oo_div) (de_ix (hu1 hr) (de_var 2) (de_int)) (de_fo F_common_part (hr.mono (by decide)) tk (da_cons (de_ix (hu1 hr) (de_var 2) (de_int)) (da_cons (de_var 4) (da_nil))))))
    (dss_one (ds_set 1 nd (de_op (oo_div) (de_op (oo_mul false) (de_var 1) (de_var 3)) (de_fo F_common_part (hr.mono (by decide)) tk (da_cons (de_var 1) (da_cons (de_var 3) (da_nil)))))))))
    (dss_nil))))
    (dss_one (ds_ret (de_var 1))))
theorem o_wheel_of (T : Txt K mg w) (F_atoms_of : Fo P w K mg base 40 "atoms_of" ["sentence"] (m_atoms_of 40)) (F_common_part : Fo P w K mg base 1 "common_part" ["one", "other"] m_common_part) : Fo P w K mg base 41 "wheel_of" ["sentence"] m_wheel_of := (fo_of T.f_wheel_of sc_wheel_of (d_wheel_of T F_atoms_of F_common_part))
/-! plainly_some -/
theorem d_plainly_some (T : Txt K mg w) (F_wheel_of : Fo P w K mg base 41 "wheel_of" ["sentence"] m_wheel_of) (F_many_of : Fo P w K mg base 1 "many_of" ["sentence"] m_many_of) (F_Put___init__ : Mi P w K mg base 1 "Put" 4 m_Put___init__ [.int 1]) (F_Put_into : Mo P w K mg base 41 "into" "Put" 2 (m_Put_into 40) []) (F_breaking : Fo P w K mg base 41 "breaking" ["sentence"] m_breaking) (F_puts_at : Fo P w K mg base 3 "puts_at" ["atom", "wheel"] m_puts_at) (F_Put_is_number : Mo P w K mg base 1 "is_number" "Put" 1 m_Put_is_number []) (F_any_of : Fo P w K mg base 1 "any_of" ["sentences"] m_any_of) : Body P w K mg base 41 N_plainly_some "plainly_some" (defScope s_plainly_some) (defBody s_plainly_some) b_plainly_some := fun f cdv A outer s H E hr tk pw =>
  have nd := sc_plainly_some.nd
  dss_cons (ds_set 1 nd (de_fo F_wheel_of (hr.mono (by decide)) tk (da_cons (de_var 0) (da_nil))))
    (dss_cons (ds_set 2 nd (de_op (oo_mulT false) (de_tup (da_cons (de_int) (da_nil))) (de_op (oo_sub) (de_fo F_many_of (hr.mono (by decide)) tk (da_cons (de_var 0) (da_nil))) (de_int))))
    (dss_cons (ds_setLc true 3 [("more", 5)] rfl nd (sw_true rfl rfl rfl (by decide +kernel)) (di_rng1 T.n_range (da_cons (de_var 1) (da_nil))) (show blkC N_plainly_some (defScope s_plainly_some) _ [("more", 5)] = true from by decide +kernel) (fun _ => dgn_name 5 nd) (fun _ => dts_nil) (fun _ => de_meth (de_mi F_Put___init__ (hr.mono (by decide)) lets_nx (da_cons (de_var 2) (da_cons (de_var 5) (da_nil)))) (mok1 F_Put_into) (hr.mono (by decide)) lets_nx (da_cons (de_var 0) (da_nil))))
    (dss_cons (ds_for pw rfl (di_seq (de_fo F_breaking (hr.mono (by decide)) tk (da_cons (de_var 0) (da_nil)))) (dg_pat (dgn_name 4 nd))
    (dss_one (ds_for pw rfl (di_seq (de_fo F_puts_at (hr.mono (by decide)) tk (da_cons (de_var 4) (da_cons (de_var 1) (da_nil))))) (dg_pat (dgn_tup 2 rfl (dgns_cons (dgn_name 6 nd) (dgns_cons (dgn_name 7 nd) (dgns_nil)))))
    (dss_one (ds_expr (de_m .list PySem.F.plainAttrs_list PySem.F.slot_list_append PySem.F.type_list_append (mo_append) (de_var 3) (da_cons (de_tup (da_cons (de_str) (da_cons (de_var 7) (da_cons (de_tup (da_cons (de_str) (da_cons (de_meth0 (de_var 6) (mok1 F_Put_is_number) (hr.mono (by decide)) (lets_of tk)) (da_cons (de_meth (de_var 6) (mok1 F_Put_into) (hr.mono (by decide)) (lets_of tk) (da_cons (de_var 0) (da_nil))) (da_nil))))) (da_nil))))) (da_nil))))))))
    (dss_one (ds_ret (de_fo F_any_of (hr.mono (by decide)) tk (da_cons (de_var 3) (da_nil))))))))
theorem o_plainly_some (T : Txt K mg w) (F_wheel_of : Fo P w K mg base 41 "wheel_of" ["sentence"] m_wheel_of) (F_many_of : Fo P w K mg base 1 "many_of" ["sentence"] m_many_of) (F_Put___init__ : Mi P w K mg base 1 "Put" 4 m_Put___init__ [.int 1]) (F_Put_into : Mo P w K mg base 41 "into" "Put" 2 (m_Put_into 40) []) (F_breaking : Fo P w K mg base 41 "breaking" ["sentence"] m_breaking) (F_puts_at : Fo P w K mg base 3 "puts_at" ["atom", "wheel"] m_puts_at) (F_Put_is_number : Mo P w K mg base 1 "is_number" "Put" 1 m_Put_is_number []) (F_any_of : Fo P w K mg base 1 "any_of" ["sentences"] m_any_of) : Fo P w K mg base 42 "plainly_some" ["sentence"] m_plainly_some := (fo_of T.f_plainly_some sc_plainly_some (d_plainly_some T F_wheel_of F_many_of F_Put___init__ F_Put_into F_breaking F_puts_at F_Put_is_number F_any_of)).pure
/-! sought_by -/
theorem d_sought_by (T : Txt K mg w)  : Body P w K mg base 0 N_sought_by "sought_by" (defScope s_sought_by) (defBody s_sought_by) b_sought_by := fun f cdv A outer s H E hr tk pw =>
  have nd := sc_sought_by.nd
  dss_cons (ds_asg (de_var 0) (dg_pat (dgn_tup 2 rfl (dgns_cons (dgn_name 1 nd) (dgns_cons (dgn_name 2 nd) (dgns_nil))))))
    (dss_one (ds_ret (de_if (dt_co (oo_eq (hu64 hr)) (de_var 1) (de_str)) (de_var 2) (de_tup (da_cons (de_str) (da_cons (de_var 2) (da_nil)))))))
theorem o_sought_by (T : Txt K mg w)  : Fo P w K mg base 1 "sought_by" ["question"] m_sought_by := (fo_of T.f_sought_by sc_sought_by (d_sought_by T ))
/-! plainly -/
theorem d_plainly (T : Txt K mg w) (F_sought_by : Fo P w K mg base 1 "sought_by" ["question"] m_sought_by) (F_plainly_some : Fo P w K mg base 42 "plainly_some" ["sentence"] m_plainly_some) : Body P w K mg base 42 N_plainly "plainly" (defScope s_plainly) (defBody s_plainly) b_plainly := fun f cdv A outer s H E hr tk pw =>
  have nd := sc_plainly.nd
  dss_cons (ds_set 1 nd (de_fo F_plainly_some (hr.mono (by decide)) tk (da_cons (de_fo F_sought_by (hr.mono (by decide)) tk (da_cons (de_var 0) (da_nil))) (da_nil))))
    (dss_one (ds_ret (de_if (dt_co (oo_eq (hu64 hr)) (de_ix (hu1 hr) (de_var 0) (de_int)) (de_str)) (de_var 1) (de_tup (da_cons (de_str) (da_cons (de_var 1) (da_nil)))))))
theorem o_plainly (T : Txt K mg w) (F_sought_by : Fo P w K mg base 1 "sought_by" ["question"] m_sought_by) (F_plainly_some : Fo P w K mg base 42 "plainly_some" ["sentence"] m_plainly_some) : Fo P w K mg base 43 "plainly" ["question"] m_plainly := (fo_of T.f_plainly sc_plainly (d_plainly T F_sought_by F_plainly_some))
/-! places_between -/
theorem d_places_between (T : Txt K mg w)  : Body P w K mg base 0 N_places_between "places_between" (defScope s_places_between) (defBody s_places_between) b_places_between := fun f cdv A outer s H E hr tk pw =>
  have nd := sc_places_between.nd
  dss_cons (ds_set 1 nd (de_lst true (da_nil)))
    (dss_cons (ds_set 2 nd (de_int))
    (dss_cons (ds_for pw rfl (di_enum T.n_enumerate (da_cons (de_var 0) (da_nil))) (dg_pat (dgn_tup 2 rfl (dgns_cons (dgn_name 3 nd) (dgns_cons (dgn_name 4 nd) (dgns_nil)))))
    (dss_cons (ds_aug 2 nd (de_tget T.t_DEEPER (de_var 4) (de_int) ⟨rfl, rfl, rfl, rfl⟩) ip_add ipo_add)
    (dss_one (ds_for pw rfl (di_seq (de_tup (da_cons (de_str) (da_cons (de_str) (da_nil))))) (dg_pat (dgn_name 5 nd))
    (dss_one (ds_if (dt_w (dw_and (dt_co (oo_eq (hu64 hr)) (de_var 2) (de_int)) (dw_and1 (dt_co (oo_eq (hu64 hr)) (de_sl false (de_var 0) (do_so (de_var 3)) (do_so (de_op (oo_add false) (de_op (oo_add false) (de_var 3) (de_cb (co_len) T.n_len (da_cons (de_var 5) (da_nil)) (by decide +kernel))) (de_int)))) (de_op (oo_add false) (de_op (oo_add false) (de_str) (de_var 5)) (de_str))))))
    (dss_one (ds_expr (de_m .list PySem.F.plainAttrs_list PySem.F.slot_list_append PySem.F.type_list_append (mo_append) (de_var 1) (da_cons (de_tup (da_cons (de_var 3) (da_cons (de_var 5) (da_nil)))) (da_nil)))))
    (dss_nil)))))))
    (dss_one (ds_ret (de_frz (de_var 1))))))
theorem o_places_between (T : Txt K mg w)  : Fo P w K mg base 1 "places_between" ["text"] m_places_between := (fo_of T.f_places_between sc_places_between (d_places_between T )).pure
/-! number_in -/
theorem d_number_in (T : Txt K mg w)  : Body P w K mg base 0 N_number_in "number_in" (defScope s_number_in) (defBody s_number_in) b_number_in := fun f cdv A outer s H E hr tk pw =>
  have nd := sc_number_in.nd
  dss_cons (ds_setLc false 3 [("number", 4)] rfl nd (sw_true rfl rfl rfl (by decide +kernel)) (di_rng2 T.n_range (da_cons (de_var 1) (da_cons (de_op (oo_add false) (de_var 2) (de_int)) (da_nil)))) (show blkC N_number_in (defScope s_number_in) _ [("number", 4)] = true from by decide +kernel) (fun _ => dgn_name 4 nd) (fun _ => dts_one (dt_co (oo_eq (hu64 hr)) (de_ct co_str T.n_str (da_cons (de_var 4) (da_nil)) (by decide +kernel)) (de_var 0))) (fun _ => de_var 4))
    (dss_one (ds_ret (de_if (dt_co (oo_ne (hu64 hr)) (de_var 3) (de_lst false (da_nil))) (de_ix (hu1 hr) (de_var 3) (de_int)) (de_non))))
theorem o_number_in (T : Txt K mg w)  : Fo P w K mg base 1 "number_in" ["word", "least", "most"] m_number_in := (fo_of T.f_number_in sc_number_in (d_number_in T ))
/-! simple_in -/
theorem d_simple_in (T : Txt K mg w) (F_number_in : Fo P w K mg base 1 "number_in" ["word", "least", "most"] m_number_in) : Body P w K mg base 1 N_simple_in "simple_in" (defScope s_simple_in) (defBody s_simple_in) b_simple_in := fun f cdv A outer s H E hr tk pw =>
  have nd := sc_simple_in.nd
  dss_cons (ds_asg (de_m .str PySem.F.plainAttrs_str PySem.F.slot_str_split PySem.F.type_str_split (mo_split false) (de_var 0) (da_cons (de_str) (da_nil))) (dg_pat (dgn_star false 2 1 rfl (dgns_cons (dgn_name 4 nd) (dgns_star (dgn_name 6 nd) (dgns_nil))))))
    (dss_cons (ds_if (dt_w (dw_or (dt_co (oo_eq (hu64 hr)) (de_var 6) (de_lst false (da_nil))) (dw_or1 (dt_co (oo_ne (hu64 hr)) (de_tget T.t_NUMBERS (de_var 4) (de_int) ⟨rfl, rfl, rfl, rfl⟩) (de_cb (co_len) T.n_len (da_cons (de_var 6) (da_nil)) (by decide +kernel))))))
    (dss_one (ds_ret (de_non)))
    (dss_nil))
    (dss_cons (ds_set 1 nd (de_ct co_tuple T.n_tuple (da_cons (de_lc false [("one", 7)] rfl nd (di_seq (de_m .str PySem.F.plainAttrs_str PySem.F.slot_str_split PySem.F.type_str_split (mo_split false) (de_ix (hu1 hr) (de_var 6) (de_int)) (da_cons (de_str) (da_nil)))) (show blkC N_simple_in (defScope s_simple_in) _ [("one", 7)] = true from by decide +kernel) (fun _ => dgn_name 7 nd) (fun _ => dts_nil) (fun _ => de_fo F_number_in (hr.mono (by decide)) takes0 (da_cons (de_var 7) (da_cons (de_neg (T.g_GREATEST_WEIGHT.elim fun _ h => de_gint h)) (da_cons (T.g_GREATEST_WEIGHT.elim fun _ h => de_gint h) (da_nil)))))) (da_nil)) (by decide +kernel)))
    (dss_cons (ds_if (dt_w (dw_or (dt_co (oo_gt) (de_cb (co_len) T.n_len (da_cons (de_var 1) (da_nil)) (by decide +kernel)) (T.g_MOST_WEIGHTS.elim fun _ h => de_gint h)) (dw_or1 (dt_co (oo_in (hu1 hr)) (de_non) (de_var 1)))))
    (dss_one (ds_ret (de_non)))
    (dss_nil))
    (dss_cons (ds_if (dt_co (oo_eq (hu64 hr)) (de_var 4) (de_str))
    (dss_cons (ds_set 5 nd (de_fo F_number_in (hr.mono (by decide)) tk (da_cons (de_ix (hu1 hr) (de_var 6) (de_int)) (da_cons (de_neg (T.g_GREATEST_BOUND.elim fun _ h => de_gint h)) (da_cons (T.g_GREATEST_BOUND.elim fun _ h => de_gint h) (da_nil))))))
    (dss_one (ds_ret (de_if (dt_co (oo_is) (de_var 5) (de_non)) (de_non) (de_tup (da_cons (de_var 4) (da_cons (de_var 1) (da_cons (de_var 5) (da_nil)))))))))
    (dss_nil))
    (dss_cons (ds_set 2 nd (de_fo F_number_in (hr.mono (by decide)) tk (da_cons (de_ix (hu1 hr) (de_var 6) (de_int)) (da_cons (de_int) (da_cons (T.g_GREATEST_PART.elim fun _ h => de_gint h) (da_nil))))))
    (dss_cons (ds_set 3 nd (de_if (dt_co (oo_is) (de_var 2) (de_non)) (de_non) (de_fo F_number_in (hr.mono (by decide)) tk (da_cons (de_ix (hu1 hr) (de_var 6) (de_int)) (da_cons (de_int) (da_cons (de_op (oo_sub) (de_var 2) (de_int)) (da_nil)))))))
    (dss_one (ds_ret (de_if (dt_co (oo_is) (de_var 3) (de_non)) (de_non) (de_tup (da_cons (de_var 4) (da_cons (de_var 1) (da_cons (de_var 2) (da_cons (de_var 3) (da_nil)))))))))))))))
theorem o_simple_in (T : Txt K mg w) (F_number_in : Fo P w K mg base 1 "number_in" ["word", "least", "most"] m_number_in) : Fo P w K mg base 2 "simple_in" ["text"] m_simple_in := (fo_of T.f_simple_in sc_simple_in (d_simple_in T F_number_in))
/-! both_in -/
theorem d_both_in (T : Txt K mg w) (F_places_between : Fo P w K mg base 1 "places_between" ["text"] m_places_between) {k : Nat} (hk : 1 ≤ k) {r : FnS} (F_sentence_in : Fo P w K mg base k "sentence_in" ["text", "within"] r) : Body P w K mg base k N_both_in "both_in" (defScope s_both_in) (defBody s_both_in) (b_both_in r) := fun f cdv A outer s H E hr tk pw =>
  have nd := sc_both_in.nd
  dss_cons (ds_set 2 nd (de_fo F_places_between (hr.mono (by omega)) tk (da_cons (de_var 0) (da_nil))))
    (dss_cons (ds_if (dt_co (oo_ne (hu64 hr)) (de_cb (co_len) T.n_len (da_cons (de_var 2) (da_nil)) (by decide +kernel)) (de_int))
    (dss_one (ds_ret (de_non)))
    (dss_nil))
    (dss_cons (ds_asg (de_ix (hu1 hr) (de_var 2) (de_int)) (dg_pat (dgn_tup 2 rfl (dgns_cons (dgn_name 5 nd) (dgns_cons (dgn_name 6 nd) (dgns_nil))))))
    (dss_cons (ds_set 3 nd (de_fo F_sentence_in (hr.mono (by omega)) tk (da_cons (de_sl false (de_var 0) (do_no) (do_so (de_var 5))) (da_cons (de_op (oo_add false) (de_var 1) (de_int)) (da_nil)))))
    (dss_cons (ds_set 4 nd (de_fo F_sentence_in (hr.mono (by omega)) tk (da_cons (de_sl false (de_var 0) (do_so (de_op (oo_add false) (de_op (oo_add false) (de_var 5) (de_cb (co_len) T.n_len (da_cons (de_var 6) (da_nil)) (by decide +kernel))) (de_int))) (do_no)) (da_cons (de_op (oo_add false) (de_var 1) (de_int)) (da_nil)))))
    (dss_one (ds_ret (de_if (dt_w (dw_or (dt_co (oo_is) (de_var 3) (de_non)) (dw_or1 (dt_co (oo_is) (de_var 4) (de_non))))) (de_non) (de_tup (da_cons (de_var 6) (da_cons (de_var 3) (da_cons (de_var 4) (da_nil))))))))))))
theorem o_both_in (T : Txt K mg w) (F_places_between : Fo P w K mg base 1 "places_between" ["text"] m_places_between) {k : Nat} (hk : 1 ≤ k) {r : FnS} (F_sentence_in : Fo P w K mg base k "sentence_in" ["text", "within"] r) : Fo P w K mg base (k + 1) "both_in" ["text", "within"] (a_both_in r) := (fo_of T.f_both_in sc_both_in (d_both_in T F_places_between hk F_sentence_in))
/-! sentence_in -/
theorem d_sentence_in (T : Txt K mg w) (F_simple_in : Fo P w K mg base 2 "simple_in" ["text"] m_simple_in) (F_places_between : Fo P w K mg base 1 "places_between" ["text"] m_places_between) {k : Nat} (hk : 2 ≤ k) {r : FnS} (F_sentence_in : Fo P w K mg base k "sentence_in" ["text", "within"] r) : Body P w K mg base (k + 1) N_sentence_in "sentence_in" (defScope s_sentence_in) (defBody s_sentence_in) (b_sentence_in r) := fun f cdv A outer s H E hr tk pw =>
  have nd := sc_sentence_in.nd
  have F_both_in := o_both_in T F_places_between (by omega) F_sentence_in
  dss_cons (ds_if (dt_co (oo_gt) (de_var 1) (T.g_MOST_WITHIN.elim fun _ h => de_gint h))
    (dss_one (ds_ret (de_non)))
    (dss_nil))
    (dss_cons (ds_if (dt_co (oo_eq (hu64 hr)) (de_sl false (de_var 0) (do_no) (do_so (de_int))) (de_str))
    (dss_cons (ds_set 2 nd (de_fo F_sentence_in (hr.mono (by omega)) tk (da_cons (de_sl false (de_var 0) (do_so (de_int)) (do_no)) (da_cons (de_op (oo_add false) (de_var 1) (de_int)) (da_nil)))))
    (dss_one (ds_ret (de_if (dt_co (oo_is) (de_var 2) (de_non)) (de_non) (de_tup (da_cons (de_str) (da_cons (de_var 2) (da_nil))))))))
    (dss_nil))
    (dss_cons (ds_if (dt_w (dw_and (dt_co (oo_eq (hu64 hr)) (de_sl false (de_var 0) (do_no) (do_so (de_int))) (de_str)) (dw_and1 (dt_co (oo_eq (hu64 hr)) (de_sl false (de_var 0) (do_so (de_neg (de_int))) (do_no)) (de_str)))))
    (dss_one (ds_ret (de_fo F_both_in (hr.mono (by omega)) tk (da_cons (de_sl false (de_var 0) (do_so (de_int)) (do_so (de_neg (de_int)))) (da_cons (de_var 1) (da_nil))))))
    (dss_nil))
    (dss_one (ds_ret (de_fo F_simple_in (hr.mono (by omega)) tk (da_cons (de_var 0) (da_nil)))))))
theorem o_sentence_in (T : Txt K mg w) (F_simple_in : Fo P w K mg base 2 "simple_in" ["text"] m_simple_in) (F_places_between : Fo P w K mg base 1 "places_between" ["text"] m_places_between) : ∀ n, Fo P w K mg base (2 + 2 * n) "sentence_in" ["text", "within"] (m_sentence_in n)
  | 0 => fo_none T.f_sentence_in
  | n + 1 => (fo_of T.f_sentence_in sc_sentence_in (d_sentence_in T F_simple_in F_places_between (k := 2 + 2 * n) (by omega) (o_sentence_in T F_simple_in F_places_between n)))
/-! read_sentence -/
theorem d_read_sentence (T : Txt K mg w) (F_sentence_in : Fo P w K mg base 82 "sentence_in" ["text", "within"] (m_sentence_in 40)) (F_atoms_of : Fo P w K mg base 40 "atoms_of" ["sentence"] (m_atoms_of 40)) : Body P w K mg base 82 N_read_sentence "read_sentence" (defScope s_read_sentence) (defBody s_read_sentence) b_read_sentence := fun f cdv A outer s H E hr tk pw =>
  have nd := sc_read_sentence.nd
  dss_cons (ds_set 1 nd (de_fo F_sentence_in (hr.mono (by decide)) tk (da_cons (de_var 0) (da_cons (de_int) (da_nil)))))
    (dss_cons (ds_if (dt_w (dw_or (dt_co (oo_is) (de_var 1) (de_non)) (dw_or1 (dt_co (oo_gt) (de_lenSc [("one", 2)] rfl nd T.n_len (di_seq (de_fo F_atoms_of (hr.mono (by decide)) tk (da_cons (de_var 1) (da_nil)))) (show blkC N_read_sentence (defScope s_read_sentence) _ [("one", 2)] = true from by decide +kernel) (fun _ => dgn_name 2 nd) (fun _ => dts_nil) (fun _ => de_cb (co_len) T.n_len (da_cons (de_ix (hu1 hr) (de_var 2) (de_int)) (da_nil)) (by decide +kernel))) (de_int)))))
    (dss_one (ds_never))
    (dss_nil))
    (dss_one (ds_ret (de_var 1))))
theorem o_read_sentence (T : Txt K mg w) (F_sentence_in : Fo P w K mg base 82 "sentence_in" ["text", "within"] (m_sentence_in 40)) (F_atoms_of : Fo P w K mg base 40 "atoms_of" ["sentence"] (m_atoms_of 40)) : Fo P w K mg base 83 "read_sentence" ["text"] m_read_sentence := (fo_of T.f_read_sentence sc_read_sentence (d_read_sentence T F_sentence_in F_atoms_of))
/-! show_sentence -/
theorem d_show_sentence (T : Txt K mg w)  {k : Nat} (hk : 0 ≤ k) {r : FnS} (F_show_sentence : Fo P w K mg base k "show_sentence" ["sentence"] r) : Body P w K mg base k N_show_sentence "show_sentence" (defScope s_show_sentence) (defBody s_show_sentence) (b_show_sentence r) := fun f cdv A outer s H E hr tk pw =>
  have nd := sc_show_sentence.nd
  dss_cons (ds_asg (de_var 0) (dg_pat (dgn_star false 2 1 rfl (dgns_cons (dgn_name 1 nd) (dgns_star (dgn_name 4 nd) (dgns_nil))))))
    (dss_cons (ds_if (dt_co (oo_tin T.t_NUMBERS) (de_var 1) (T.d_NUMBERS.elim fun _ h => de_glb h))
    (dss_cons (ds_asg (de_var 4) (dg_pat (dgn_star false 2 1 rfl (dgns_cons (dgn_name 5 nd) (dgns_star (dgn_name 6 nd) (dgns_nil))))))
    (dss_one (ds_ret (de_m .str PySem.F.plainAttrs_str PySem.F.slot_str_join PySem.F.type_str_join (mo_join) (de_str) (da_cons (de_op (oo_add false) (de_lst false (da_cons (de_var 1) (da_cons (de_m .str PySem.F.plainAttrs_str PySem.F.slot_str_join PySem.F.type_str_join (mo_join) (de_str) (da_cons (de_lc false [("weight", 8)] rfl nd (di_seq (de_var 5)) (show blkC N_show_sentence (defScope s_show_sentence) _ [("weight", 8)] = true from by decide +kernel) (fun _ => dgn_name 8 nd) (fun _ => dts_nil) (fun _ => de_ct co_str T.n_str (da_cons (de_var 8) (da_nil)) (by decide +kernel))) (da_nil))) (da_nil)))) (de_lc false [("number", 7)] rfl nd (di_seq (de_var 6)) (show blkC N_show_sentence (defScope s_show_sentence) _ [("number", 7)] = true from by decide +kernel) (fun _ => dgn_name 7 nd) (fun _ => dts_nil) (fun _ => de_ct co_str T.n_str (da_cons (de_var 7) (da_nil)) (by decide +kernel)))) (da_nil))))))
    (dss_nil))
    (dss_cons (ds_if (dt_co (oo_eq (hu64 hr)) (de_var 1) (de_str))
    (dss_one (ds_ret (de_op (oo_add false) (de_str) (de_fo F_show_sentence (hr.mono (by omega)) tk (da_cons (de_ix (hu1 hr) (de_var 4) (de_int)) (da_nil))))))
    (dss_nil))
    (dss_cons (ds_asg (de_var 4) (dg_pat (dgn_tup 2 rfl (dgns_cons (dgn_name 2 nd) (dgns_cons (dgn_name 3 nd) (dgns_nil))))))
    (dss_one (ds_ret (de_joined (dj_cons (de_str) (dj_cons (de_fmt (de_fo F_show_sentence (hr.mono (by omega)) tk (da_cons (de_var 2) (da_nil)))) (dj_cons (de_str) (dj_cons (de_fmt (de_var 1)) (dj_cons (de_str) (dj_cons (de_fmt (de_fo F_show_sentence (hr.mono (by omega)) tk (da_cons (de_var 3) (da_nil)))) (dj_cons (de_str) (dj_nil))))))))))))))
theorem o_show_sentence (T : Txt K mg w)  : ∀ n, Fo P w K mg base (0 + n) "show_sentence" ["sentence"] (m_show_sentence n)
  | 0 => fo_none T.f_show_sentence
  | n + 1 => (fo_of T.f_show_sentence sc_show_sentence (d_show_sentence T  (k := 0 + n) (by omega) (o_show_sentence T  n)))
/-! law -/
theorem d_law (T : Txt K mg w) (F__law_jar : Fo P w K mg base 2 "_law_jar" ["script"] m__law_jar) (F__law_pick : Fo P w K mg base 2 "_law_pick" ["jar", "total"] m__law_pick) (F__law_sentence : Fo P w K mg base 43 "_law_sentence" ["jar", "total", "within"] (m__law_sentence 40)) (F__law_written : Fo P w K mg base 40 "_law_written" ["sentence"] (m__law_written 40)) (F_show_sentence : Fo P w K mg base 40 "show_sentence" ["sentence"] (m_show_sentence 40)) (F__law_same : Fo P w K mg base 40 "_law_same" ["found", "due"] (m__law_same 40)) (F_read_sentence : Fo P w K mg base 83 "read_sentence" ["text"] m_read_sentence) (F_plainly : Fo P w K mg base 43 "plainly" ["question"] m_plainly) : Body P w K mg base 83 N_law_k83 "law" (defScope s_law) (defBody s_law) b_law_k83 := fun f cdv A outer s H E hr tk pw =>
  have nd := sc_law.nd
  dss_cons (ds_set 1 nd (de_fo F__law_jar (hr.mono (by decide)) tk (da_cons (de_var 0) (da_nil))))
    (dss_cons (ds_for pw rfl (di_rng1 T.n_range (da_cons (de_int) (da_nil))) (dg_pat (dgn_name 2 nd))
    (dss_cons (ds_set 5 nd (de_fo F__law_sentence (hr.mono (by decide)) tk (da_cons (de_var 1) (da_cons (de_op (oo_add false) (de_int) (de_fo F__law_pick (hr.mono (by decide)) tk (da_cons (de_var 1) (da_cons (de_int) (da_nil))))) (da_cons (de_int) (da_nil))))))
    (dss_cons (ds_set 6 nd (de_fo F__law_written (hr.mono (by decide)) tk (da_cons (de_var 5) (da_nil))))
    (dss_one (ds_if (dt_w (dw_or (dt_not (dt_tr (de_fo F__law_same (hr.mono (by decide)) tk (da_cons (de_fo F_show_sentence (hr.mono (by decide)) tk (da_cons (de_var 5) (da_nil))) (da_cons (de_var 6) (da_nil)))))) (dw_or1 (dt_not (dt_tr (de_fo F__law_same (hr.mono (by decide)) tk (da_cons (de_fo F_read_sentence (hr.mono (by decide)) tk (da_cons (de_var 6) (da_nil))) (da_cons (de_var 5) (da_nil)))))))))
    (dss_one (ds_ret (de_bl)))
    (dss_nil))))))
    (dss_cons (ds_set 3 nd (de_tup (da_cons (de_ix (hu1 hr) (de_lst false (da_cons (de_str) (da_cons (de_str) (da_nil)))) (de_fo F__law_pick (hr.mono (by decide)) tk (da_cons (de_var 1) (da_cons (de_int) (da_nil))))) (da_cons (de_fo F__law_sentence (hr.mono (by decide)) tk (da_cons (de_var 1) (da_cons (de_op (oo_add false) (de_int) (de_fo F__law_pick (hr.mono (by decide)) tk (da_cons (de_var 1) (da_cons (de_int) (da_nil))))) (da_cons (de_fo F__law_pick (hr.mono (by decide)) tk (da_cons (de_var 1) (da_cons (de_int) (da_nil)))) (da_nil))))) (da_nil)))))
    (dss_cons (ds_set 4 nd (de_fo F_plainly (hr.mono (by decide)) tk (da_cons (de_var 3) (da_nil))))
    (dss_one (ds_ret (de_fo F__law_same (hr.mono (by decide)) tk (da_cons (de_fo F_show_sentence (hr.mono (by decide)) tk (da_cons (de_var 4) (da_nil))) (da_cons (de_fo F__law_written (hr.mono (by decide)) tk (da_cons (de_var 4) (da_nil))) (da_nil)))))))))
theorem o_law (T : Txt K mg w) (F__law_jar : Fo P w K mg base 2 "_law_jar" ["script"] m__law_jar) (F__law_pick : Fo P w K mg base 2 "_law_pick" ["jar", "total"] m__law_pick) (F__law_sentence : Fo P w K mg base 43 "_law_sentence" ["jar", "total", "within"] (m__law_sentence 40)) (F__law_written : Fo P w K mg base 40 "_law_written" ["sentence"] (m__law_written 40)) (F_show_sentence : Fo P w K mg base 40 "show_sentence" ["sentence"] (m_show_sentence 40)) (F__law_same : Fo P w K mg base 40 "_law_same" ["found", "due"] (m__law_same 40)) (F_read_sentence : Fo P w K mg base 83 "read_sentence" ["text"] m_read_sentence) (F_plainly : Fo P w K mg base 43 "plainly" ["question"] m_plainly) : Fo P w K mg base 84 "law" ["script"] m_law_k83 := (fo_of T.f_law sc_law (d_law T F__law_jar F__law_pick F__law_sentence F__law_written F_show_sentence F__law_same F_read_sentence F_plainly))
theorem all_law (T : Txt K mg w) : Body P w K mg base 83 N_law_k83 "law" (defScope s_law) (defBody s_law) b_law_k83 :=
  have F__law_mix : Fo P w K mg base 1 "_law_mix" ["one"] m__law_mix := o__law_mix T 
  have F__law_jar : Fo P w K mg base 2 "_law_jar" ["script"] m__law_jar := o__law_jar T F__law_mix
  have F__law_pick : Fo P w K mg base 2 "_law_pick" ["jar", "total"] m__law_pick := o__law_pick T F__law_mix
  have F__law_same : Fo P w K mg base 40 "_law_same" ["found", "due"] (m__law_same 40) := o__law_same T  40
  have F__law_simple : Fo P w K mg base 3 "_law_simple" ["jar", "total"] m__law_simple := o__law_simple T F__law_pick
  have F__law_sentence : Fo P w K mg base 43 "_law_sentence" ["jar", "total", "within"] (m__law_sentence 40) := o__law_sentence T F__law_pick F__law_simple 40
  have F__law_written : Fo P w K mg base 40 "_law_written" ["sentence"] (m__law_written 40) := o__law_written T  40
  have F_Put___init__ : Mi P w K mg base 1 "Put" 4 m_Put___init__ [.int 1] := o_Put___init__ T 
  have F_Put___init___N : MiN P w K mg base 1 "Put" 2 ["by"] 4 m_Put___init__ (fun xs zs => xs ++ zs) := o_Put___init___N T 
  have F_Put_weights_in : Mo P w K mg base 1 "weights_in" "Put" 2 m_Put_weights_in [] := o_Put_weights_in T 
  have F_Put_into : Mo P w K mg base 41 "into" "Put" 2 (m_Put_into 40) [] := o_Put_into T F_Put_weights_in 40
  have F_Put_is_number : Mo P w K mg base 1 "is_number" "Put" 1 m_Put_is_number [] := o_Put_is_number T 
  have F_any_of : Fo P w K mg base 1 "any_of" ["sentences"] m_any_of := o_any_of T 
  have F_atoms_of : Fo P w K mg base 40 "atoms_of" ["sentence"] (m_atoms_of 40) := o_atoms_of T  40
  have F_breaking : Fo P w K mg base 41 "breaking" ["sentence"] m_breaking := o_breaking T F_atoms_of
  have F_many_of : Fo P w K mg base 1 "many_of" ["sentence"] m_many_of := o_many_of T 
  have F_puts_at : Fo P w K mg base 3 "puts_at" ["atom", "wheel"] m_puts_at := o_puts_at T F_Put___init___N
  have F_common_part : Fo P w K mg base 1 "common_part" ["one", "other"] m_common_part := o_common_part T 
  have F_wheel_of : Fo P w K mg base 41 "wheel_of" ["sentence"] m_wheel_of := o_wheel_of T F_atoms_of F_common_part
  have F_plainly_some : Fo P w K mg base 42 "plainly_some" ["sentence"] m_plainly_some := o_plainly_some T F_wheel_of F_many_of F_Put___init__ F_Put_into F_breaking F_puts_at F_Put_is_number F_any_of
  have F_sought_by : Fo P w K mg base 1 "sought_by" ["question"] m_sought_by := o_sought_by T 
  have F_plainly : Fo P w K mg base 43 "plainly" ["question"] m_plainly := o_plainly T F_sought_by F_plainly_some
  have F_places_between : Fo P w K mg base 1 "places_between" ["text"] m_places_between := o_places_between T 
  have F_number_in : Fo P w K mg base 1 "number_in" ["word", "least", "most"] m_number_in := o_number_in T 
  have F_simple_in : Fo P w K mg base 2 "simple_in" ["text"] m_simple_in := o_simple_in T F_number_in
  have F_sentence_in : Fo P w K mg base 82 "sentence_in" ["text", "within"] (m_sentence_in 40) := o_sentence_in T F_simple_in F_places_between 40
  have F_read_sentence : Fo P w K mg base 83 "read_sentence" ["text"] m_read_sentence := o_read_sentence T F_sentence_in F_atoms_of
  have F_show_sentence : Fo P w K mg base 40 "show_sentence" ["sentence"] (m_show_sentence 40) := o_show_sentence T  40
  d_law T F__law_jar F__law_pick F__law_sentence F__law_written F_show_sentence F__law_same F_read_sentence F_plainly
theorem fin_law (mk : Txt K mg w) : Df K mg "law" s_law ["script"] ∧ ∀ base : Heap, Body P w K mg base 83 N_law_k83 "law" (defScope s_law) (defBody s_law) b_law_k83 := ⟨mk.f_law, fun _ => all_law mk⟩
end
end K83
open PySem PySem.W PyProof.Rows
set_option maxRecDepth 100000 in
set_option maxHeartbeats 0 in
theorem PySem.Challenge.cw_crowdsay_k83_sentences_written_and_read_holds : PySem.Challenge.rw_crowdsay_k83_sentences_written_and_read.Holds := by
  w_on; o_law; k_head; (case hw => w_witness2)
  k_fill
  refine Dm.walk_D (l := PySem.Challenge.rw_crowdsay_k83_sentences_written_and_read) (st := K83.s_law) (N := Cs.N_law_k83) (fb := Cs.b_law_k83) (k := 83) (x := "script") rfl (by decide) rfl ⟨rfl, by decide, by decide⟩ (fun w h Y => PySem.W.kIn_of Y) K83.sc_law ?B ?F ?S
  case B => exact fun _ _ _ _ _ _ us hl => match us, hl with | [_], _ => rfl
  case S => exact Cs.law_true_k83
  case F =>
    intro w mg h KX G
    refine K83.fin_law ?T
    refine' K83.Txt.mk ?n_abs ?n_all ?n_bool ?n_enumerate ?n_int ?n_isinstance ?n_len ?n_list ?n_range ?n_str ?n_tuple ?n_zip ?g_GREATEST_WEIGHT ?g_MOST_WEIGHTS ?g_GREATEST_BOUND ?g_GREATEST_PART ?g_MOST_WITHIN ?d_DEEPER ?t_DEEPER ?d_NUMBERS ?t_NUMBERS ?k_Put_slopes ?k_Put_start ?k_Put_parts ?f__law_mix ?f__law_jar ?f__law_pick ?f__law_same ?f__law_simple ?f__law_sentence ?f__law_written ?f_Put___init__ ?f_Put_weights_in ?f_Put_into ?f_Put_is_number ?f_any_of ?f_atoms_of ?f_breaking ?f_many_of ?f_puts_at ?f_common_part ?f_wheel_of ?f_plainly_some ?f_sought_by ?f_plainly ?f_places_between ?f_number_in ?f_simple_in ?f_both_in ?f_sentence_in ?f_read_sentence ?f_show_sentence ?f_law
    case n_abs =>
      exact PySem.W.mg_none_of KX G (by k_is)
    case n_all =>
      exact PySem.W.mg_none_of KX G (by k_is)
    case n_bool =>
      exact PySem.W.mg_none_of KX G (by k_is)
    case n_enumerate =>
      exact PySem.W.mg_none_of KX G (by k_is)
    case n_int =>
      exact PySem.W.mg_none_of KX G (by k_is)
    case n_isinstance =>
      exact PySem.W.mg_none_of KX G (by k_is)
    case n_len =>
      exact PySem.W.mg_none_of KX G (by k_is)
    case n_list =>
      exact PySem.W.mg_none_of KX G (by k_is)
    case n_range =>
      exact PySem.W.mg_none_of KX G (by k_is)
    case n_str =>
      exact PySem.W.mg_none_of KX G (by k_is)
    case n_tuple =>
      exact PySem.W.mg_none_of KX G (by k_is)
    case n_zip =>
      exact PySem.W.mg_none_of KX G (by k_is)
    case g_GREATEST_WEIGHT =>
      refine' Dm.gint_mk KX G ?a
      case a => k_is
    case g_MOST_WEIGHTS =>
      refine' Dm.gint_mk KX G ?a
      case a => k_is
    case g_GREATEST_BOUND =>
      refine' Dm.gint_mk KX G ?a
      case a => k_is
    case g_GREATEST_PART =>
      refine' Dm.gint_mk KX G ?a
      case a => k_is
    case g_MOST_WITHIN =>
      refine' Dm.gint_mk KX G ?a
      case a => k_is
    case d_DEEPER =>
      refine' Dm.gref_mk KX G ?a
      case a => k_is
    case t_DEEPER =>
      refine' Dm.ktab_mk KX G ?a ?l ?lo ?ht
      (case a => k_is); (case l => k_is)
      case lo => decide
      case ht => exact ⟨⟨⟨_, rfl⟩, rfl, ⟨_, rfl⟩⟩, ⟨⟨_, rfl⟩, rfl, ⟨_, rfl⟩⟩, True.intro⟩
    case d_NUMBERS =>
      refine' Dm.gref_mk KX G ?a
      case a => k_is
    case t_NUMBERS =>
      refine' Dm.ktab_mk KX G ?a ?l ?lo ?ht
      (case a => k_is); (case l => k_is)
      case lo => decide
      case ht => exact ⟨⟨⟨_, rfl⟩, rfl, ⟨_, rfl⟩⟩, ⟨⟨_, rfl⟩, rfl, ⟨_, rfl⟩⟩, True.intro⟩
    case k_Put_slopes =>
      refine' Dm.fld1 (Dm.fld_mk KX G ?a ?pg ?hd ?po ?sa ?no)
      (case a => k_is); (case pg => k_is); (case hd => k_is); (case po => k_is); (case sa => k_is); (case no => k_is)
    case k_Put_start =>
      refine' Dm.fld1 (Dm.fld_mk KX G ?a ?pg ?hd ?po ?sa ?no)
      (case a => k_is); (case pg => k_is); (case hd => k_is); (case po => k_is); (case sa => k_is); (case no => k_is)
    case k_Put_parts =>
      refine' Dm.fld1 (Dm.fld_mk KX G ?a ?pg ?hd ?po ?sa ?no)
      (case a => k_is); (case pg => k_is); (case hd => k_is); (case po => k_is); (case sa => k_is); (case no => k_is)
    case f__law_mix =>
      refine' Dm.df_mk KX G ?b ?a ?l ?c ?k
      (case a => k_is); (case l => k_is); (case c => k_is); (case k => k_is)
      case b => exact fun _ _ _ _ _ _ us hl => match us, hl with | [_], _ => rfl
    case f__law_jar =>
      refine' Dm.df_mk KX G ?b ?a ?l ?c ?k
      (case a => k_is); (case l => k_is); (case c => k_is); (case k => k_is)
      case b => exact fun _ _ _ _ _ _ us hl => match us, hl with | [_], _ => rfl
    case f__law_pick =>
      refine' Dm.df_mk KX G ?b ?a ?l ?c ?k
      (case a => k_is); (case l => k_is); (case c => k_is); (case k => k_is)
      case b => exact fun _ _ _ _ _ _ us hl => match us, hl with | [_, _], _ => rfl
    case f__law_same =>
      refine' Dm.df_mk KX G ?b ?a ?l ?c ?k
      (case a => k_is); (case l => k_is); (case c => k_is); (case k => k_is)
      case b => exact fun _ _ _ _ _ _ us hl => match us, hl with | [_, _], _ => rfl
    case f__law_simple =>
      refine' Dm.df_mk KX G ?b ?a ?l ?c ?k
      (case a => k_is); (case l => k_is); (case c => k_is); (case k => k_is)
      case b => exact fun _ _ _ _ _ _ us hl => match us, hl with | [_, _], _ => rfl
    case f__law_sentence =>
      refine' Dm.df_mk KX G ?b ?a ?l ?c ?k
      (case a => k_is); (case l => k_is); (case c => k_is); (case k => k_is)
      case b => exact fun _ _ _ _ _ _ us hl => match us, hl with | [_, _, _], _ => rfl
    case f__law_written =>
      refine' Dm.df_mk KX G ?b ?a ?l ?c ?k
      (case a => k_is); (case l => k_is); (case c => k_is); (case k => k_is)
      case b => exact fun _ _ _ _ _ _ us hl => match us, hl with | [_], _ => rfl
    case f_Put___init__ =>
      refine' Dm.dinK_mk KX G ?a ?mk ?at1 ?fn ?kc ?l ?c1 ?k ?kd
      (case a => k_is); (case mk => k_is); (case at1 => k_is); (case fn => k_is); (case kc => k_is); (case l => k_is); (case c1 => k_is); (case k => k_is); (case kd => k_is)
    case f_Put_weights_in =>
      refine' Dm.dmt_mk KX G ?b ?a ?pg ?hd ?po ?sa ?at1 ?fn ?l ?c1 ?k
      (case a => k_is); (case pg => k_is); (case hd => k_is); (case po => k_is); (case sa => k_is); (case at1 => k_is); (case fn => k_is); (case l => k_is); (case c1 => k_is); (case k => k_is)
      case b => exact fun _ _ _ _ _ _ us hl => match us, hl with | [_, _], _ => rfl
    case f_Put_into =>
      refine' Dm.dmt_mk KX G ?b ?a ?pg ?hd ?po ?sa ?at1 ?fn ?l ?c1 ?k
      (case a => k_is); (case pg => k_is); (case hd => k_is); (case po => k_is); (case sa => k_is); (case at1 => k_is); (case fn => k_is); (case l => k_is); (case c1 => k_is); (case k => k_is)
      case b => exact fun _ _ _ _ _ _ us hl => match us, hl with | [_, _], _ => rfl
    case f_Put_is_number =>
      refine' Dm.dmt_mk KX G ?b ?a ?pg ?hd ?po ?sa ?at1 ?fn ?l ?c1 ?k
      (case a => k_is); (case pg => k_is); (case hd => k_is); (case po => k_is); (case sa => k_is); (case at1 => k_is); (case fn => k_is); (case l => k_is); (case c1 => k_is); (case k => k_is)
      case b => exact fun _ _ _ _ _ _ us hl => match us, hl with | [_], _ => rfl
    case f_any_of =>
      refine' Dm.df_mk KX G ?b ?a ?l ?c ?k
      (case a => k_is); (case l => k_is); (case c => k_is); (case k => k_is)
      case b => exact fun _ _ _ _ _ _ us hl => match us, hl with | [_], _ => rfl
    case f_atoms_of =>
      refine' Dm.df_mk KX G ?b ?a ?l ?c ?k
      (case a => k_is); (case l => k_is); (case c => k_is); (case k => k_is)
      case b => exact fun _ _ _ _ _ _ us hl => match us, hl with | [_], _ => rfl
    case f_breaking =>
      refine' Dm.df_mk KX G ?b ?a ?l ?c ?k
      (case a => k_is); (case l => k_is); (case c => k_is); (case k => k_is)
      case b => exact fun _ _ _ _ _ _ us hl => match us, hl with | [_], _ => rfl
    case f_many_of =>
      refine' Dm.df_mk KX G ?b ?a ?l ?c ?k
      (case a => k_is); (case l => k_is); (case c => k_is); (case k => k_is)
      case b => exact fun _ _ _ _ _ _ us hl => match us, hl with | [_], _ => rfl
    case f_puts_at =>
      refine' Dm.df_mk KX G ?b ?a ?l ?c ?k
      (case a => k_is); (case l => k_is); (case c => k_is); (case k => k_is)
      case b => exact fun _ _ _ _ _ _ us hl => match us, hl with | [_, _], _ => rfl
    case f_common_part =>
      refine' Dm.df_mk KX G ?b ?a ?l ?c ?k
      (case a => k_is); (case l => k_is); (case c => k_is); (case k => k_is)
      case b => exact fun _ _ _ _ _ _ us hl => match us, hl with | [_, _], _ => rfl
    case f_wheel_of =>
      refine' Dm.df_mk KX G ?b ?a ?l ?c ?k
      (case a => k_is); (case l => k_is); (case c => k_is); (case k => k_is)
      case b => exact fun _ _ _ _ _ _ us hl => match us, hl with | [_], _ => rfl
    case f_plainly_some =>
      refine' Dm.df_mk KX G ?b ?a ?l ?c ?k
      (case a => k_is); (case l => k_is); (case c => k_is); (case k => k_is)
      case b => exact fun _ _ _ _ _ _ us hl => match us, hl with | [_], _ => rfl
    case f_sought_by =>
      refine' Dm.df_mk KX G ?b ?a ?l ?c ?k
      (case a => k_is); (case l => k_is); (case c => k_is); (case k => k_is)
      case b => exact fun _ _ _ _ _ _ us hl => match us, hl with | [_], _ => rfl
    case f_plainly =>
      refine' Dm.df_mk KX G ?b ?a ?l ?c ?k
      (case a => k_is); (case l => k_is); (case c => k_is); (case k => k_is)
      case b => exact fun _ _ _ _ _ _ us hl => match us, hl with | [_], _ => rfl
    case f_places_between =>
      refine' Dm.df_mk KX G ?b ?a ?l ?c ?k
      (case a => k_is); (case l => k_is); (case c => k_is); (case k => k_is)
      case b => exact fun _ _ _ _ _ _ us hl => match us, hl with | [_], _ => rfl
    case f_number_in =>
      refine' Dm.df_mk KX G ?b ?a ?l ?c ?k
      (case a => k_is); (case l => k_is); (case c => k_is); (case k => k_is)
      case b => exact fun _ _ _ _ _ _ us hl => match us, hl with | [_, _, _], _ => rfl
    case f_simple_in =>
      refine' Dm.df_mk KX G ?b ?a ?l ?c ?k
      (case a => k_is); (case l => k_is); (case c => k_is); (case k => k_is)
      case b => exact fun _ _ _ _ _ _ us hl => match us, hl with | [_], _ => rfl
    case f_both_in =>
      refine' Dm.df_mk KX G ?b ?a ?l ?c ?k
      (case a => k_is); (case l => k_is); (case c => k_is); (case k => k_is)
      case b => exact fun _ _ _ _ _ _ us hl => match us, hl with | [_, _], _ => rfl
    case f_sentence_in =>
      refine' Dm.df_mk KX G ?b ?a ?l ?c ?k
      (case a => k_is); (case l => k_is); (case c => k_is); (case k => k_is)
      case b => exact fun _ _ _ _ _ _ us hl => match us, hl with | [_, _], _ => rfl
    case f_read_sentence =>
      refine' Dm.df_mk KX G ?b ?a ?l ?c ?k
      (case a => k_is); (case l => k_is); (case c => k_is); (case k => k_is)
      case b => exact fun _ _ _ _ _ _ us hl => match us, hl with | [_], _ => rfl
    case f_show_sentence =>
      refine' Dm.df_mk KX G ?b ?a ?l ?c ?k
      (case a => k_is); (case l => k_is); (case c => k_is); (case k => k_is)
      case b => exact fun _ _ _ _ _ _ us hl => match us, hl with | [_], _ => rfl
    case f_law =>
      refine' Dm.df_mk KX G ?b ?a ?l ?c ?k
      (case a => k_is); (case l => k_is); (case c => k_is); (case k => k_is)
      case b => exact fun _ _ _ _ _ _ us hl => match us, hl with | [_], _ => rfl
