import PyProof.Rows.All
import Wide.All
import OpenK.AllK
import Wide.FinOn
import PySem.Challenge.RW_leatheryard_k76_whole_nearest_words
import HandS.ForMost
import HandS.Conv
import HandS.Zip
import HandS.TupAny
import HandS.TupMul
import HandS.Style
import HandS.Gcd
import KE.DataCmp
import HandS.IsInst
import HandS.Deep
import PyProof.StrBlock2
import HandS.RaiseMore
set_option Elab.async false
set_option linter.all false
set_option maxRecDepth 100000
set_option maxHeartbeats 4000000
set_option autoImplicit false
/-! plain data of a Python program, how it lies in the heap of the model -/
namespace Sh
open PySem PySem.Spec PyProof.Rows L2

/-- plain data -/
inductive D where
  | non | bl (b : Bool) | int (i : Int) | str (s : List Nat)
  | tup (xs : List D) | lst (xs : List D) | dct (ks vs : List D)
  /-- the script itself -/
  | scr (ns : List Int)
/-- what a name holds: plain data, or the n-th cell of the shadow heap -/
inductive W where
  | d (x : D) | ref (n : Nat)
inductive Cell where
  | lst (xs : List W) | dct (ks vs : List D) | dead
abbrev DH := List Cell
abbrev Env := List (Option W)

/-- a list that is never written any more -/
def SqF (H : Hp) (a : Addr) (xs : List V) : Prop := ∃ o, H a = some (.frz o (.lst xs))
theorem SqF.sql {K : PySem.W.Frag} {H : Hp} {a : Addr} {xs : List V} (h : SqF H a xs) : SqL K H a xs := by
  obtain ⟨o, h⟩ := h
  exact .inl (.inr ⟨o, h⟩)
/-- the script -/
def SqS (K : PySem.W.Frag) (H : Hp) (a : Addr) (xs : List V) : Prop :=
  (∃ o, H a = some (.frz o (.lst xs))) ∨
    ∃ (o : Obj) (its : Array Value) (n : Nat), K.lookup a = some o ∧ o.cls = .type "list" ∧ o.dict = none ∧ o.data = .seq its n ∧ its.size ≤ sizeLine ∧ Vals xs its.toList

/-- tuples and frozen things stay -/
structure Fx (H H' : Hp) : Prop where
  tup : ∀ b xs, H b = some (.tup xs) → H' b = some (.tup xs)
  frz : ∀ b o u, H b = some (.frz o u) → H' b = some (.frz o u)
theorem Fx.refl {H : Hp} : Fx H H := ⟨fun _ _ h => h, fun _ _ _ h => h⟩
theorem Fx.trans {H H1 H2 : Hp} (a : Fx H H1) (b : Fx H1 H2) : Fx H H2 := ⟨fun c xs q => b.tup c xs (a.tup c xs q), fun c o u q => b.frz c o u (a.frz c o u q)⟩
theorem Fx.of_same {H H' : Hp} (s : Same H H') : Fx H H' := ⟨fun _ _ => s _ _, fun _ _ _ => s _ _⟩
/-- .. and all that is tracked and is no cell -/
structure Ext (ι : List Addr) (H H' : Hp) : Prop where
  fx : Fx H H'
  oth : ∀ b o, b ∉ ι → H b = some o → H' b = some o
theorem Ext.refl {ι : List Addr} {H : Hp} : Ext ι H H := ⟨.refl, fun _ _ _ h => h⟩
theorem Ext.trans {ι ι' : List Addr} {H H1 H2 : Hp} (a : Ext ι H H1) (b : Ext ι' H1 H2) (h : ∀ c ∈ ι', c ∈ ι ∨ H c = none) : Ext ι H H2 :=
  ⟨a.fx.trans b.fx, fun c o n q => b.oth c o (fun z => by
    rcases h c z with z | z
    · exact n z
    · rw [z] at q; cases q) (a.oth c o n q)⟩
theorem Ext.of_same {ι : List Addr} {H H' : Hp} (s : Same H H') : Ext ι H H' := ⟨.of_same s, fun _ _ _ => s _ _⟩
theorem Ext.same {H H' : Hp} (e : Ext [] H H') : Same H H' := fun b o h => e.oth b o (by simp) h

/-- v is the data d -/
def okCp (s : List Nat) : Bool := s.all (· < 55296)

/-- what stands at a is a dict of these entries (the entries' own values are given) -/
def DctAt (P : Program) (w : World) (a : Addr) (es : List DictEntry) : HO := .ext fun h =>
  ∃ o ea ep, h.get? a = some o ∧ o.ExactDict ∧ o.data = .dict ea ep ∧ ea.toList = es

mutual
inductive Rep (K : PySem.W.Frag) (H : Hp) : D → V → Prop
  | non : Rep K H .non .non
  | bl (b : Bool) : Rep K H (.bl b) (.bl b)
  | int (i : Int) : Rep K H (.int i) (.int i)
  | str (s : List Nat) : okCp s = true → Rep K H (.str s) (.str ⟨s.toArray⟩)
  | tup {a : Addr} {vs : List V} {ds : List D} : SqT K H a vs → RepL K H ds vs → Rep K H (.tup ds) (.ref a)
  | lst {a : Addr} {vs : List V} {ds : List D} : SqF H a vs → RepL K H ds vs → Rep K H (.lst ds) (.ref a)
  | scr {a : Addr} {ns : List Int} : SqS K H a (ns.map V.int) → Rep K H (.scr ns) (.ref a)
inductive RepL (K : PySem.W.Frag) (H : Hp) : List D → List V → Prop
  | nil : RepL K H [] []
  | cons {v : V} {vs : List V} {d : D} {ds : List D} : Rep K H d v → RepL K H ds vs → RepL K H (d :: ds) (v :: vs)
end

section
variable {K : PySem.W.Frag} {H H' : Hp} {ι ι' : List Addr}
theorem sqt_ext (e : Fx H H') {a : Addr} {vs : List V} (h : SqT K H a vs) : SqT K H' a vs := by
  rcases h with (h | ⟨o, h⟩) | h
  · exact .inl (.inl (e.tup _ _ h))
  · exact .inl (.inr ⟨o, e.frz _ _ _ h⟩)
  · exact .inr h
theorem sqf_ext (e : Fx H H') {a : Addr} {vs : List V} (h : SqF H a vs) : SqF H' a vs := by
  obtain ⟨o, h⟩ := h
  exact ⟨o, e.frz _ _ _ h⟩
theorem sqs_ext (e : Fx H H') {a : Addr} {vs : List V} (h : SqS K H a vs) : SqS K H' a vs := by
  rcases h with ⟨o, h⟩ | h
  · exact .inl ⟨o, e.frz _ _ _ h⟩
  · exact .inr h
mutual
theorem Rep.ext (e : Fx H H') : ∀ {d : D} {v : V}, Rep K H d v → Rep K H' d v
  | _, _, .non => .non
  | _, _, .bl b => .bl b
  | _, _, .int i => .int i
  | _, _, .str s h => .str s h
  | _, _, .tup h r => .tup (sqt_ext e h) (RepL.ext e r)
  | _, _, .lst h r => .lst (sqf_ext e h) (RepL.ext e r)
  | _, _, .scr h => .scr (sqs_ext e h)
theorem RepL.ext (e : Fx H H') : ∀ {ds : List D} {vs : List V}, RepL K H ds vs → RepL K H' ds vs
  | _, _, .nil => .nil
  | _, _, .cons a b => .cons (Rep.ext e a) (RepL.ext e b)
end
theorem RepL.length : ∀ {ds : List D} {vs : List V}, RepL K H ds vs → ds.length = vs.length
  | _, _, .nil => rfl
  | _, _, .cons _ t => by simp [RepL.length t]
theorem RepL.get : ∀ {ds : List D} {vs : List V} {i : Nat} {d : D}, RepL K H ds vs → ds[i]? = some d → ∃ v, vs[i]? = some v ∧ Rep K H d v
  | _, _, _, _, .nil, e => by simp at e
  | _, _, 0, _, .cons r _, e => by simp at e; subst e; exact ⟨_, rfl, r⟩
  | _, _, i + 1, d, .cons _ t, e => by
    obtain ⟨v, h1, h2⟩ := RepL.get (i := i) t (by simpa using e)
    exact ⟨v, by simpa using h1, h2⟩
theorem RepL.append : ∀ {ds es : List D} {vs us : List V}, RepL K H ds vs → RepL K H es us → RepL K H (ds ++ es) (vs ++ us)
  | _, _, _, _, .nil, s => s
  | _, _, _, _, .cons r t, s => .cons r (RepL.append t s)
theorem RepL.take : ∀ {ds : List D} {vs : List V} (n : Nat), RepL K H ds vs → RepL K H (ds.take n) (vs.take n)
  | _, _, 0, _ => .nil
  | _, _, _ + 1, .nil => .nil
  | _, _, n + 1, .cons r t => .cons r (RepL.take n t)
theorem RepL.drop : ∀ {ds : List D} {vs : List V} (n : Nat), RepL K H ds vs → RepL K H (ds.drop n) (vs.drop n)
  | _, _, 0, r => r
  | _, _, _ + 1, .nil => .nil
  | _, _, n + 1, .cons _ t => RepL.drop n t
theorem RepL.set {d : D} {v : V} (r : Rep K H d v) : ∀ {ds : List D} {vs : List V} (n : Nat), RepL K H ds vs → RepL K H (ds.set n d) (vs.set n v)
  | _, _, _, .nil => .nil
  | _, _, 0, .cons _ t => .cons r t
  | _, _, n + 1, .cons q t => .cons q (RepL.set r n t)
theorem RepL.reverse : ∀ {ds : List D} {vs : List V}, RepL K H ds vs → RepL K H ds.reverse vs.reverse
  | _, _, .nil => .nil
  | _, _, .cons r t => by simp only [List.reverse_cons]; exact (RepL.reverse t).append (.cons r .nil)
theorem RepL.rep {ds : List D} {vs : List V} (r : RepL K H ds vs) : ∀ n : Nat, RepL K H (List.replicate n ds).flatten (List.replicate n vs).flatten
  | 0 => .nil
  | n + 1 => by simp only [List.replicate_succ, List.flatten_cons]; exact r.append (RepL.rep r n)
theorem RepL.erase : ∀ {ds : List D} {vs : List V} (n : Nat), RepL K H ds vs → RepL K H (ds.eraseIdx n) (vs.eraseIdx n)
  | _, _, _, .nil => .nil
  | _, _, 0, .cons _ t => t
  | _, _, n + 1, .cons q t => .cons q (RepL.erase n t)
theorem RepL.dropLast {ds : List D} {vs : List V} (r : RepL K H ds vs) : RepL K H ds.dropLast vs.dropLast := by
  rw [List.dropLast_eq_take, List.dropLast_eq_take, r.length]; exact r.take _
theorem RepL.ints : ∀ {ns : List Int} {vs : List V}, RepL K H (ns.map D.int) vs → vs = ns.map V.int
  | [], _, .nil => rfl
  | n :: ns, _, .cons (.int _) t => by rw [List.map_cons, RepL.ints t]
theorem RepL.of_ints : ∀ {ns : List Int}, RepL K H (ns.map D.int) (ns.map V.int)
  | [] => .nil
  | _ :: _ => .cons (.int _) RepL.of_ints
theorem RepL.bls : ∀ {ns : List Bool} {vs : List V}, RepL K H (ns.map D.bl) vs → vs = ns.map V.bl
  | [], _, .nil => rfl
  | n :: ns, _, .cons (.bl _) t => by rw [List.map_cons, RepL.bls t]
end

/-! ### the shadow heap -/
inductive RepW (K : PySem.W.Frag) (ι : List Addr) (H : Hp) : W → V → Prop
  | d {x : D} {v : V} : Rep K H x v → RepW K ι H (.d x) v
  | ref {n : Nat} {a : Addr} : ι[n]? = some a → RepW K ι H (.ref n) (.ref a)
inductive RepWL (K : PySem.W.Frag) (ι : List Addr) (H : Hp) : List W → List V → Prop
  | nil : RepWL K ι H [] []
  | cons {v : V} {vs : List V} {d : W} {ds : List W} : RepW K ι H d v → RepWL K ι H ds vs → RepWL K ι H (d :: ds) (v :: vs)
section
variable {K : PySem.W.Frag} {H H' : Hp} {ι ι' : List Addr}
theorem RepW.ext {d : W} {v : V} (r : RepW K ι H d v) (p : ι <+: ι') (e : Fx H H') : RepW K ι' H' d v := by
  cases r with
  | d r => exact .d (r.ext e)
  | ref h => exact .ref (by obtain ⟨t, rfl⟩ := p; rw [List.getElem?_append_left (List.getElem?_eq_some_iff.mp h).1]; exact h)
theorem RepWL.ext : ∀ {ds : List W} {vs : List V}, RepWL K ι H ds vs → ι <+: ι' → Fx H H' → RepWL K ι' H' ds vs
  | _, _, .nil, _, _ => .nil
  | _, _, .cons a b, p, e => .cons (a.ext p e) (b.ext p e)
theorem RepWL.length : ∀ {ds : List W} {vs : List V}, RepWL K ι H ds vs → ds.length = vs.length
  | _, _, .nil => rfl
  | _, _, .cons _ t => by simp [RepWL.length t]
theorem RepWL.get : ∀ {ds : List W} {vs : List V} {i : Nat} {d : W}, RepWL K ι H ds vs → ds[i]? = some d → ∃ v, vs[i]? = some v ∧ RepW K ι H d v
  | _, _, _, _, .nil, e => by simp at e
  | _, _, 0, _, .cons r _, e => by simp at e; subst e; exact ⟨_, rfl, r⟩
  | _, _, i + 1, d, .cons _ t, e => by
    obtain ⟨v, h1, h2⟩ := RepWL.get (i := i) t (by simpa using e)
    exact ⟨v, by simpa using h1, h2⟩
theorem RepWL.append : ∀ {ds es : List W} {vs us : List V}, RepWL K ι H ds vs → RepWL K ι H es us → RepWL K ι H (ds ++ es) (vs ++ us)
  | _, _, _, _, .nil, s => s
  | _, _, _, _, .cons r t, s => .cons r (RepWL.append t s)
theorem RepWL.set {d : W} {v : V} (r : RepW K ι H d v) : ∀ {ds : List W} {vs : List V} (n : Nat), RepWL K ι H ds vs → RepWL K ι H (ds.set n d) (vs.set n v)
  | _, _, _, .nil => .nil
  | _, _, 0, .cons _ t => .cons r t
  | _, _, n + 1, .cons q t => .cons q (RepWL.set r n t)
theorem RepWL.erase : ∀ {ds : List W} {vs : List V} (n : Nat), RepWL K ι H ds vs → RepWL K ι H (ds.eraseIdx n) (vs.eraseIdx n)
  | _, _, _, .nil => .nil
  | _, _, 0, .cons _ t => t
  | _, _, n + 1, .cons q t => .cons q (RepWL.erase n t)
theorem RepWL.take : ∀ {ds : List W} {vs : List V} (n : Nat), RepWL K ι H ds vs → RepWL K ι H (ds.take n) (vs.take n)
  | _, _, 0, _ => .nil
  | _, _, _ + 1, .nil => .nil
  | _, _, n + 1, .cons r t => .cons r (RepWL.take n t)
theorem RepWL.dropLast {ds : List W} {vs : List V} (r : RepWL K ι H ds vs) : RepWL K ι H ds.dropLast vs.dropLast := by
  rw [List.dropLast_eq_take, List.dropLast_eq_take, r.length]; exact r.take _
theorem RepWL.rep {ds : List W} {vs : List V} (r : RepWL K ι H ds vs) : ∀ n : Nat, RepWL K ι H (List.replicate n ds).flatten (List.replicate n vs).flatten
  | 0 => .nil
  | n + 1 => by simp only [List.replicate_succ, List.flatten_cons]; exact r.append (RepWL.rep r n)
theorem RepWL.of : ∀ {ds : List D} {vs : List V}, RepL K H ds vs → RepWL K ι H (ds.map W.d) vs
  | _, _, .nil => .nil
  | _, _, .cons a b => .cons (.d a) (RepWL.of b)
/-- plain data alone -/
def pureL : List W → Option (List D)
  | [] => some []
  | .d x :: r => (pureL r).map (x :: ·)
  | .ref _ :: _ => none
@[simp] theorem pureL_map : ∀ ds : List D, pureL (ds.map W.d) = some ds
  | [] => rfl
  | d :: ds => by simp [pureL, pureL_map ds]
theorem RepWL.pure : ∀ {ws : List W} {vs : List V} {ds : List D}, RepWL K ι H ws vs → pureL ws = some ds → RepL K H ds vs
  | _, _, _, .nil, e => by simp [pureL] at e; subst e; exact .nil
  | _, _, ds, .cons (.d a) t, e => by
    simp only [pureL, Option.map_eq_some_iff] at e
    obtain ⟨r, h, rfl⟩ := e
    exact .cons a (RepWL.pure t h)
  | _, _, _, .cons (.ref a) t, e => by simp [pureL] at e
end
end Sh

namespace Sh
open PySem PySem.Spec PyProof.Rows L2

/-- the cell c stands at a -/
def CellOk (K : PySem.W.Frag) (ι : List Addr) (H : Hp) (a : Addr) : Cell → Prop
  | .lst ws => ∃ vs, H a = some (.lst vs) ∧ RepWL K ι H ws vs
  | .dct _ _ => False
  | .dead => True
/-- the shadow heap h stands in H, its cells at ι -/
structure SR (K : PySem.W.Frag) (ι : List Addr) (H : Hp) (h : DH) : Prop where
  len : ι.length = h.length
  nd : ι.Nodup
  trk : ∀ a ∈ ι, H a ≠ none
  cell : ∀ (n : Nat) (c : Cell) (a : Addr), h[n]? = some c → ι[n]? = some a → CellOk K ι H a c
/-- the names -/
structure EnvOk (K : PySem.W.Frag) (ι : List Addr) (H : Hp) (env : Env) (σ : L2.St) : Prop where
  len : env.length = σ.length
  val : ∀ (i : Nat) (w : W), env[i]? = some (some w) → ∃ v, σ[i]? = some (some v) ∧ RepW K ι H w v

section
variable {K : PySem.W.Frag} {H H' : Hp} {ι ι' : List Addr} {h h' : DH} {env : Env} {σ : L2.St}
theorem nodup_get_ne {l : List Addr} (nd : l.Nodup) {m n : Nat} {a b : Addr} (hm : l[m]? = some a) (hn : l[n]? = some b) (h : m ≠ n) : a ≠ b := fun e => h (by
  subst e
  obtain ⟨h1, e1⟩ := List.getElem?_eq_some_iff.mp hm
  obtain ⟨h2, e2⟩ := List.getElem?_eq_some_iff.mp hn
  exact (List.getElem_inj nd).mp (e1.trans e2.symm))
theorem CellOk.ext {a : Addr} {c : Cell} (x : CellOk K ι H a c) (p : ι <+: ι') (e : Fx H H') (ha : ∀ o, H a = some o → H' a = some o) : CellOk K ι' H' a c := by
  cases c with
  | lst ws => obtain ⟨vs, q, r⟩ := x; exact ⟨vs, ha _ q, r.ext p e⟩
  | dct ks vs => exact x.elim
  | dead => trivial
/-- all that is tracked stays -/
theorem SR.same (s : SR K ι H h) (e : Same H H') : SR K ι H' h :=
  ⟨s.len, s.nd, fun a ha => by
    cases q : H a with
    | none => exact absurd q (s.trk a ha)
    | some o => rw [e a o q]; simp, fun n c a h1 h2 => (s.cell n c a h1 h2).ext (List.prefix_refl _) (Fx.of_same e) (e a)⟩
theorem EnvOk.ext (s : EnvOk K ι H env σ) (p : ι <+: ι') (e : Fx H H') : EnvOk K ι' H' env σ :=
  ⟨s.len, fun i w hi => by obtain ⟨v, h1, h2⟩ := s.val i w hi; exact ⟨v, h1, h2.ext p e⟩⟩
theorem same_upd {p : Addr} {o : HO} (hp : H p = none) : Same H (upd H p o) := fun b u e => by rw [upd_ne (ne_of_none e hp)]; exact e
/-- a new cell -/
theorem SR.alloc (s : SR K ι H h) {p : Addr} {o : HO} {c : Cell} (hp : H p = none) (hc : CellOk K (ι ++ [p]) (upd H p o) p c) : SR K (ι ++ [p]) (upd H p o) (h ++ [c]) := by
  have sm := same_upd (o := o) hp
  refine ⟨by simp [s.len], List.nodup_append.mpr ⟨s.nd, by simp, fun a ha b hb e => ?_⟩, fun a ha => ?_, fun n d a h1 h2 => ?_⟩
  · simp at hb; subst hb e; exact s.trk _ ha hp
  · rcases List.mem_append.mp ha with ha | ha
    · cases q : H a with
      | none => exact absurd q (s.trk a ha)
      | some u => rw [sm a u q]; simp
    · simp at ha; subst ha; rw [upd_same]; simp
  · by_cases hn : n < h.length
    · rw [List.getElem?_append_left hn] at h1
      rw [List.getElem?_append_left (by rw [s.len]; exact hn)] at h2
      exact (s.cell n d a h1 h2).ext (List.prefix_append _ _) (Fx.of_same sm) (sm a)
    · have hn' : n = h.length := by
        have := (List.getElem?_eq_some_iff.mp h1).1
        simp at this; omega
      subst hn'
      rw [List.getElem?_append_right (Nat.le_refl _), Nat.sub_self] at h1
      rw [List.getElem?_append_right (by rw [s.len]; exact Nat.le_refl _), s.len, Nat.sub_self] at h2
      simp at h1 h2
      subst h1 h2
      exact hc
/-- the n-th cell is written -/
theorem SR.write (s : SR K ι H h) {n : Nat} {a : Addr} {o : HO} {c : Cell} (ha : ι[n]? = some a) (hc : CellOk K ι (upd H a o) a c) (hx : Fx H (upd H a o)) : SR K ι (upd H a o) (h.set n c) := by
  refine ⟨by simp [s.len], s.nd, fun b hb => ?_, fun m d b h1 h2 => ?_⟩
  · by_cases hab : b = a
    · subst hab; rw [upd_same]; simp
    · rw [upd_ne hab]; exact s.trk b hb
  · by_cases hm : m = n
    · subst hm
      rw [ha] at h2; cases h2
      have hlt : m < h.length := by rw [← s.len]; exact (List.getElem?_eq_some_iff.mp ha).1
      rw [List.getElem?_set_self hlt] at h1
      cases h1; exact hc
    · rw [List.getElem?_set_ne (Ne.symm hm)] at h1
      have hne : b ≠ a := nodup_get_ne s.nd h2 ha hm
      exact (s.cell m d b h1 h2).ext (List.prefix_refl _) hx fun o q => by rw [upd_ne hne]; exact q
theorem fx_write {a : Addr} {o u : HO} (hu : H a = some u) (n1 : ∀ xs, u ≠ .tup xs) (n2 : ∀ o w, u ≠ .frz o w) : Fx H (upd H a o) :=
  ⟨fun b xs q => by rw [upd_ne (fun z => by subst z; rw [hu] at q; cases q; exact n1 _ rfl)]; exact q,
   fun b x y q => by rw [upd_ne (fun z => by subst z; rw [hu] at q; cases q; exact n2 _ _ rfl)]; exact q⟩
/-- writing a cell is within Ext -/
theorem ext_write {a : Addr} {o u : HO} (ha : a ∈ ι) (hu : H a = some u) (n1 : ∀ xs, u ≠ .tup xs) (n2 : ∀ o w, u ≠ .frz o w) : Ext ι H (upd H a o) :=
  ⟨fx_write hu n1 n2, fun b x n q => by rw [upd_ne (fun z => by subst z; exact n ha)]; exact q⟩
/-- a thing that stands and is no cell becomes one -/
theorem SR.take (s : SR K ι H h) {p : Addr} {c : Cell} (hn : p ∉ ι) (ht : H p ≠ none) (hc : CellOk K (ι ++ [p]) H p c) : SR K (ι ++ [p]) H (h ++ [c]) := by
  refine ⟨by simp [s.len], List.nodup_append.mpr ⟨s.nd, by simp, fun a ha b hb e => ?_⟩, fun a ha => ?_, fun n d a h1 h2 => ?_⟩
  · simp at hb; subst hb e; exact hn ha
  · rcases List.mem_append.mp ha with ha | ha
    · exact s.trk a ha
    · simp at ha; subst ha; exact ht
  · by_cases hn : n < h.length
    · rw [List.getElem?_append_left hn] at h1
      rw [List.getElem?_append_left (by rw [s.len]; exact hn)] at h2
      exact (s.cell n d a h1 h2).ext (List.prefix_append _ _) .refl (fun _ q => q)
    · have hn' : n = h.length := by
        have := (List.getElem?_eq_some_iff.mp h1).1
        simp at this; omega
      subst hn'
      rw [List.getElem?_append_right (Nat.le_refl _), Nat.sub_self] at h1
      rw [List.getElem?_append_right (by rw [s.len]; exact Nat.le_refl _), s.len, Nat.sub_self] at h2
      simp at h1 h2
      subst h1 h2
      exact hc
/-- what is no cell is written -/
theorem SR.off (s : SR K ι H h) {p : Addr} {o u : HO} (hn : p ∉ ι) (hu : H p = some u) (n1 : ∀ xs, u ≠ .tup xs) (n2 : ∀ o w, u ≠ .frz o w) : SR K ι (upd H p o) h :=
  ⟨s.len, s.nd, fun a ha => by
    rw [upd_ne (show a ≠ p from fun z => hn (by rw [← z]; exact ha))]; exact s.trk a ha, fun n c a h1 h2 => (s.cell n c a h1 h2).ext (List.prefix_refl _) (fx_write hu n1 n2) fun x q => by
      rw [upd_ne (show a ≠ p from fun z => hn (by rw [← z]; exact List.mem_of_getElem? h2))]; exact q⟩

/-- the cells grow, by what was not there; the rest stays -/
structure Stp (ι : List Addr) (H : Hp) (ι' : List Addr) (H' : Hp) : Prop where
  pre : ι <+: ι'
  ext : Ext ι H H'
  new : ∀ a ∈ ι', a ∈ ι ∨ H a = none
theorem Stp.refl : Stp ι H ι H := ⟨List.prefix_refl _, .refl, fun _ h => .inl h⟩
theorem Stp.trans {ι2 : List Addr} {H2 : Hp} (a : Stp ι H ι' H') (b : Stp ι' H' ι2 H2) : Stp ι H ι2 H2 :=
  ⟨a.pre.trans b.pre, a.ext.trans b.ext a.new, fun c hc => by
    rcases b.new c hc with z | z
    · exact a.new c z
    · by_cases hi : c ∈ ι
      · exact .inl hi
      · cases q : H c with
        | none => exact .inr rfl
        | some o => rw [a.ext.oth c o hi q] at z; cases z⟩
theorem Stp.same (e : Same H H') : Stp ι H ι H' := ⟨List.prefix_refl _, .of_same e, fun _ h => .inl h⟩
theorem Stp.fx (a : Stp ι H ι' H') : Fx H H' := a.ext.fx
theorem RepW.stp {d : W} {v : V} (r : RepW K ι H d v) (a : Stp ι H ι' H') : RepW K ι' H' d v := r.ext a.pre a.fx
theorem RepWL.stp {d : List W} {v : List V} (r : RepWL K ι H d v) (a : Stp ι H ι' H') : RepWL K ι' H' d v := r.ext a.pre a.fx
theorem EnvOk.stp (s : EnvOk K ι H env σ) (a : Stp ι H ι' H') : EnvOk K ι' H' env σ := s.ext a.pre a.fx
/-- what is wanted behind an expression's value -/
def Post (K : PySem.W.Frag) (ι : List Addr) (H : Hp) (w : W) (h' : DH) (Q : VK) : Prop :=
  ∀ ι' H' v, Stp ι H ι' H' → SR K ι' H' h' → RepW K ι' H' w v → Q v H'
theorem Post.stp {w : W} {Q : VK} (p : Post K ι H w h Q) (a : Stp ι H ι' H') : Post K ι' H' w h Q := fun ι2 H2 v b => p ι2 H2 v (a.trans b)
theorem Post.now {w : W} {Q : VK} {v : V} (p : Post K ι H w h Q) (s : SR K ι H h) (r : RepW K ι H w v) : Q v H := p ι H v .refl s r
theorem Post.fresh {w : W} {Q : VK} {p : Addr} {o : HO} (q : Post K ι H w h Q) (s : SR K ι H h) (hp : H p = none) {v : V} (r : RepW K ι (upd H p o) w v) : Q v (upd H p o) :=
  q ι _ v (.same (same_upd hp)) (s.same (same_upd hp)) r
theorem Post.tup {ds : List D} {vs : List V} {Q : VK} {p : Addr} (q : Post K ι H (.d (.tup ds)) h Q) (s : SR K ι H h) (hp : H p = none) (r : RepL K H ds vs) : Q (.ref p) (upd H p (.tup vs)) :=
  q.fresh s hp (.d (.tup (.inl (.inl upd_same)) (r.ext (.of_same (same_upd hp)))))
/-- what is wanted behind a list's making: it stands at p, not yet a cell, not frozen -/
def PostC (K : PySem.W.Frag) (ι : List Addr) (H : Hp) (ws : List W) (h' : DH) (Q : VK) : Prop :=
  ∀ ι' H' p vs, Stp ι H ι' H' → SR K ι' H' h' → H' p = some (.lst vs) → p ∉ ι' → H p = none → RepWL K ι' H' ws vs → Q (.ref p) H'
theorem PostC.stp {ws : List W} {Q : VK} (p : PostC K ι H ws h Q) (a : Stp ι H ι' H') : PostC K ι' H' ws h Q := fun ι2 H2 q vs b s hp hn hq r =>
  p ι2 H2 q vs (a.trans b) s hp hn (by
    cases e : H q with
    | none => rfl
    | some o =>
      by_cases hi : q ∈ ι
      · exact absurd (b.pre.subset (a.pre.subset hi)) hn
      · rw [a.ext.oth q o hi e] at hq; cases hq) r
theorem SR.notin (s : SR K ι H h) {p : Addr} (hp : H p = none) : p ∉ ι := fun z => s.trk p z hp
theorem PostC.fresh {ws : List W} {Q : VK} {p : Addr} {vs : List V} (q : PostC K ι H ws h Q) (s : SR K ι H h) (hp : H p = none) (r : RepWL K ι H ws vs) : Q (.ref p) (upd H p (.lst vs)) :=
  q ι _ p vs (.same (same_upd hp)) (s.same (same_upd hp)) upd_same (s.notin hp) hp (r.ext (List.prefix_refl _) (.of_same (same_upd hp)))
end

/-! ### a list is frozen -/
theorem Inv.freeze {X : Cx} {pins : List (Addr × Obj)} {σ : L2.St} {H : Hp} {s : Shared} {p : Addr} {u : HO} (I : Inv X pins σ H s) (hp : H p = some u) (n1 : ∀ xs, u ≠ .tup xs) (n2 : ∀ o w, u ≠ .frz o w) (n3 : ∀ x, u ≠ .own x) (n4 : ∀ ps, u ≠ .tbl ps) (ex : ∃ o, s.heap.get? p = some o) :
    ∃ o, Inv X pins σ (upd H p (.frz o u)) s := by
  have ok : ObjOk X.prog X.w H s.heap p u := I.hok p u hp
  obtain ⟨o, ho⟩ := ex
  have nb : ∀ {b v}, H b = some v → v ≠ u → b ≠ p := fun {b v} q ne z => by subst z; rw [hp] at q; cases q; exact ne rfl
  refine ⟨o, ?_⟩
  have un : Un X.fs [] H (upd H p (.frz o u)) s.heap s.heap := by
    refine ⟨fun b ob q _ _ _ => q, fun b ob q _ _ _ => ⟨ob.slots, q⟩, fun b ob q n _ => ?_, fun b ob q _ => ⟨ob, q⟩, fun b xs q => ?_, fun b ob w q => ?_, fun b ps q => ⟨#[], ?_⟩⟩
    · rw [upd_ne (fun z => by subst z; rw [hp] at n; cases n)]; exact n
    · rw [upd_ne (nb q (Ne.symm (n1 xs)))]; exact q
    · rw [upd_ne (nb q (Ne.symm (n2 ob w)))]; exact q
    · rw [upd_ne (nb q (Ne.symm (n4 ps))), q]; simp
  have hok : HOk X.prog X.w (upd H p (.frz o u)) s.heap := fun b v q => by
    have ho' : ∀ b c, H b = some (.own c) → upd H p (.frz o u) b = some (.own c) := fun b c q => by rw [upd_ne (nb q (Ne.symm (n3 c)))]; exact q
    have ht' : ∀ b xs, H b = some (.tup xs) → upd H p (.frz o u) b = some (.tup xs) := fun b xs q => by rw [upd_ne (nb q (Ne.symm (n1 xs)))]; exact q
    by_cases hb : b = p
    · subst hb
      rw [upd_same] at q; cases q
      exact ⟨ho, ok.stay (fun _ _ _ z => z) (fun c q => ho' c b q) ht'⟩
    · rw [upd_ne hb] at q
      exact (I.hok b v q).stay (fun _ _ _ z => z) (fun c q => ho' c b q) ht'
  exact I.un (h' := s.heap) (t' := s.toks) un hok
end Sh

/-! a small language of plain data, and its evaluator -/
namespace Sh
open PySem PySem.Spec PyProof.Rows L2

mutual
def py : D → PyData
  | .non => .none
  | .bl b => .bool b
  | .int i => .int i
  | .str s => .str ⟨s.toArray⟩
  | .tup xs => .tuple (pyL xs)
  | .lst xs => .list (pyL xs)
  | .dct _ _ => .none
  | .scr _ => .none
def pyL : List D → List PyData
  | [] => []
  | x :: r => py x :: pyL r
end
mutual
/-- no dict inside -/
def flat : D → Bool
  | .tup xs => flatL xs
  | .lst xs => flatL xs
  | .dct _ _ => false
  | .scr _ => false
  | _ => true
def flatL : List D → Bool
  | [] => true
  | x :: r => flat x && flatL r
end
mutual
def dep : D → Nat
  | .tup xs => depL xs + 1
  | .lst xs => depL xs + 1
  | _ => 0
def depL : List D → Nat
  | [] => 0
  | x :: r => max (dep x) (depL r)
end
mutual
/-- == -/
def eqD : D → D → Bool
  | .non, .non => true
  | .bl a, .bl b => a == b
  | .bl a, .int j => (if a then 1 else 0) == j
  | .int i, .bl b => i == (if b then 1 else 0)
  | .int i, .int j => i == j
  | .str x, .str y => x == y
  | .tup xs, .tup ys => eqDL xs ys
  | .lst xs, .lst ys => eqDL xs ys
  | _, _ => false
def eqDL : List D → List D → Bool
  | [], [] => true
  | x :: xs, y :: ys => eqD x y && eqDL xs ys
  | _, _ => false
end
/-- can be compared by == -/
def shp (x : D) : Bool := flat x && decide (dep x ≤ 64)
/-- can be compared by <, place by place -/
def alk (x y : D) : Bool := PySem.W.alike (py x) (py y)
def ltD (x y : D) : Bool := PySem.W.dataLt (py x) (py y)

inductive Bop where
  | add | sub | mul | fdiv | mod | pow
  | eq | ne | lt | le | gt | ge | is | isnot | mem | nmem
  deriving DecidableEq
def line : Nat := 16777216
/-- bounds, told so that nothing of a great number is unfolded -/
def loI (k : Nat) (i : Int) : Bool := Nat.ble (-i).toNat k
def hiI (i : Int) (k : Nat) : Bool := Nat.blt i.toNat k
theorem loI_iff {k : Nat} {i : Int} : loI k i = true ↔ -(k : Int) ≤ i := by unfold loI; rw [Nat.ble_eq]; omega
theorem hiI_iff {k : Nat} {i : Int} (h : 0 < k) : hiI i k = true ↔ i < (k : Int) := by unfold hiI; rw [Nat.blt_eq]; omega
def lo62 (i : Int) : Bool := loI 4611686018427387904 i
def hi62 (i : Int) : Bool := hiI i 4611686018427387904
def lo63 (i : Int) : Bool := loI 9223372036854775808 i
def hi63 (i : Int) : Bool := hiI i 9223372036854775808
def hi30 (i : Int) : Bool := hiI i 1073741824
def hiP (i : Int) : Bool := hiI i 1000001
def hi24 (i : Int) : Bool := hiI i 16777217
def b64 (i : Int) : Bool := loI 18446744073709551615 i && hiI i 18446744073709551616
theorem lo62_iff {i : Int} : lo62 i = true ↔ -(2 ^ 62) ≤ i := by unfold lo62; rw [loI_iff]; omega
theorem hi62_iff {i : Int} : hi62 i = true ↔ i < 2 ^ 62 := by unfold hi62; rw [hiI_iff (by decide)]; omega
theorem lo63_iff {i : Int} : lo63 i = true ↔ -(2 ^ 63) ≤ i := by unfold lo63; rw [loI_iff]; omega
theorem hi63_iff {i : Int} : hi63 i = true ↔ i < 2 ^ 63 := by unfold hi63; rw [hiI_iff (by decide)]; omega
theorem hi30_iff {i : Int} : hi30 i = true ↔ i < 1073741824 := by unfold hi30; rw [hiI_iff (by decide)]; omega
theorem hiP_iff {i : Int} : hiP i = true ↔ i ≤ 1000000 := by unfold hiP; rw [hiI_iff (by decide)]; omega
theorem hi24_iff {i : Int} : hi24 i = true ↔ i ≤ 16777216 := by unfold hi24; rw [hiI_iff (by decide)]; omega
theorem b64_iff {i : Int} : b64 i = true ↔ -(2 ^ 64) < i ∧ i < 2 ^ 64 := by unfold b64; rw [Bool.and_eq_true, loI_iff, hiI_iff (by decide)]; omega
/-- one string in another -/
def inS (x y : List Nat) : Bool := !(Builtin.Str.occurrences ⟨y.toArray⟩ ⟨x.toArray⟩ 0 y.length 1).isEmpty
def cmpOk (x y : D) : Bool := alk x y && shp x && shp y && (match x with | .non => false | _ => true)
def isNon : D → Bool
  | .non => true
  | _ => false
def binD : Bop → D → D → Option D
  | .add, .int i, .int j => some (.int (i + j))
  | .add, .str x, .str y => if x.length + y.length ≤ line then some (.str (x ++ y)) else none
  | .add, .tup x, .tup y => if x.length + y.length ≤ line then some (.tup (x ++ y)) else none
  | .add, .lst x, .lst y => if x.length + y.length ≤ line then some (.lst (x ++ y)) else none
  | .sub, .int i, .int j => some (.int (i - j))
  | .mul, .int i, .int j => if b64 i || b64 j then some (.int (i * j)) else none
  | .mul, .str x, .int k => if lo63 k && hi63 k && decide (x.length * k.toNat ≤ line) then some (.str (List.replicate k.toNat x).flatten) else none
  | .fdiv, .int i, .int j => if decide (0 < j) && hi30 j then some (.int (i / j)) else none
  | .mod, .int i, .int j => if 0 < j then some (.int (i % j)) else none
  | .pow, .int i, .int j => if decide (0 ≤ j) && hiP j && b64 i then some (.int (i ^ j.toNat)) else none
  | .eq, x, y => if shp x && shp y then some (.bl (eqD x y)) else none
  | .ne, x, y => if shp x && shp y then some (.bl (!eqD x y)) else none
  | .lt, x, y => if cmpOk x y then some (.bl (ltD x y)) else none
  | .gt, x, y => if cmpOk x y then some (.bl (ltD y x)) else none
  | .le, x, y => if cmpOk x y then some (.bl (!ltD y x)) else none
  | .ge, x, y => if cmpOk x y then some (.bl (!ltD x y)) else none
  | .is, .bl x, .bl y => some (.bl (decide (x = y)))
  | .isnot, .bl x, .bl y => some (.bl (!decide (x = y)))
  | .is, x, .non => some (.bl (isNon x))
  | .isnot, x, .non => some (.bl (!isNon x))
  | .mem, .str x, .str y => some (.bl (inS x y))
  | .nmem, .str x, .str y => some (.bl (!inS x y))
  | .mem, x, .tup ys => if shp x && shp (.tup ys) then some (.bl (ys.any fun y => eqD y x)) else none
  | .nmem, x, .tup ys => if shp x && shp (.tup ys) then some (.bl (!ys.any fun y => eqD y x)) else none
  | .mem, x, .lst ys => if shp x && shp (.lst ys) then some (.bl (ys.any fun y => eqD y x)) else none
  | .nmem, x, .lst ys => if shp x && shp (.lst ys) then some (.bl (!ys.any fun y => eqD y x)) else none
  | _, _, _ => none

/-- x[i] -/
def ixD : D → D → Option D
  | .lst xs, .int i => atI xs i
  | .tup xs, .int i => atI xs i
  | .str xs, .int i => if xs.length ≤ line then (atI xs i).map fun c => .str [c] else none
  | _, _ => none
def cutL {α : Type} (xs : List α) (lo hi : Option Int) : List α := (xs.drop (HT.sIx xs.length 0 lo)).take (HT.sIx xs.length xs.length hi - HT.sIx xs.length 0 lo)
/-- x[lo:hi] -/
def slD : D → Option Int → Option Int → Option D
  | .lst xs, lo, hi => some (.lst (cutL xs lo hi))
  | .tup xs, lo, hi => some (.tup (cutL xs lo hi))
  | _, _, _ => none
def revD : D → Option D
  | .lst xs => some (.lst xs.reverse)
  | _ => none
/-- what a for walks -/
def itemsD : D → Option (List D)
  | .lst xs => some xs
  | .tup xs => some xs
  | .str cs => if cs.length ≤ line then some (cs.map fun c => .str [c]) else none
  | _ => none
inductive Ty where
  | int | bool | str | tuple | list
  deriving DecidableEq
def isD : D → Ty → Bool
  | .int _, .int => true
  | .bl _, .int => true
  | .bl _, .bool => true
  | .str _, .str => true
  | .tup _, .tuple => true
  | .lst _, .list => true
  | _, _ => false
def dTy : D → Option String
  | .non => some "NoneType" | .bl _ => some "bool" | .int _ => some "int" | .str _ => some "str" | .tup _ => some "tuple" | .lst _ => some "list"
  | .dct _ _ => none | .scr _ => none
inductive Bif where
  | len | abs | int1 | tuple | all | any | sum | min2 | max2 | gcd | str1
  deriving DecidableEq
def blsD : List D → Option (List Bool)
  | [] => some []
  | .bl b :: r => (blsD r).map (b :: ·)
  | _ => none
def intsD : List D → Option (List Int)
  | [] => some []
  | .int b :: r => (intsD r).map (b :: ·)
  | _ => none
def bifD : Bif → List D → Option D
  | .len, [.lst xs] => some (.int xs.length)
  | .len, [.tup xs] => some (.int xs.length)
  | .len, [.str xs] => if xs.length ≤ line then some (.int xs.length) else none
  | .abs, [.int i] => some (.int (if i < 0 then -i else i))
  | .int1, [.int i] => some (.int i)
  | .int1, [.bl b] => some (.int (if b then 1 else 0))
  | .tuple, [.tup xs] => some (.tup xs)
  | .tuple, [.lst xs] => some (.tup xs)
  | .all, [.lst xs] => (blsD xs).map fun bs => .bl (bs.all id)
  | .any, [.lst xs] => (blsD xs).map fun bs => .bl (bs.any id)
  | .sum, [.lst xs] => (intsD xs).map fun ns => .int ns.sum
  | .min2, [.int i, .int j] => some (.int (if j < i then j else i))
  | .max2, [.int i, .int j] => some (.int (if j > i then j else i))
  | .str1, [.str s] => some (.str s)
  | .gcd, [.int i, .int j] => some (.int ((Nat.gcd i.natAbs j.natAbs : Nat) : Int))
  | _, _ => none

inductive Pat where
  | nm (i : Nat)
  | tup (ps : List Nat)
  | two (i : Nat) (ps : List Nat)

/-- what a cell in the shadow heap, or plain data, is as plain data -/
def valD (h : DH) : W → Option D
  | .d x => some x
  | .ref n => match h[n]? with
    | some (.lst ws) => (pureL ws).map D.lst
    | _ => none
def zeroW : W → W
  | .ref _ => .ref 0
  | w => w
/-- the one cell among arguments -/
def cellArg : List W → Option Nat
  | [] => none
  | .ref n :: r => if (pureL r).isSome then some n else none
  | .d _ :: r => cellArg r
def valsD (h : DH) : List W → Option (List D)
  | [] => some []
  | w :: r => do let x ← valD h w; let xs ← valsD h r; some (x :: xs)
/-- x[i] -/
def ixW (h : DH) : W → W → Option W
  | .d x, .d y => (ixD x y).map W.d
  | .ref n, .d (.int i) => match h[n]? with
    | some (.lst ws) => atI ws i
    | _ => none
  | _, _ => none
def wipeE (env : Env) : List Nat → Env
  | [] => env
  | v :: vs => (wipeE env vs).set v none
def bindL : List Nat → List D → Env → Option Env
  | [], [], env => some env
  | i :: is, x :: xs, env => bindL is xs (env.set i (some (.d x)))
  | _, _, _ => none
def Pat.bind : Pat → D → Env → Option Env
  | .nm i, x, env => some (env.set i (some (.d x)))
  | .tup is, .tup xs, env => bindL is xs env
  | .two i is, .tup [x, .tup xs], env => bindL is xs (env.set i (some (.d x)))
  | _, _, _ => none
def Pat.vars : Pat → List Nat
  | .nm i => [i]
  | .tup is => is
  | .two i is => i :: is

mutual
inductive E where
  | var (i : Nat)
  | lit (d : D)
  | con (g : Nat)
  | bin (o : Bop) (a b : E)
  | neg (a : E) | not (a : E)
  | and (a b : E) | or (a b : E)
  | chain (o p : Bop) (a b c : E)
  | ite (c a b : E)
  | tup (es : Es)
  | ix (a b : E)
  | sl (a : E) (lo hi : Es)
  | rev (a : E)
  | isi (a : E) (t : Ty)
  | bif (b : Bif) (es : Es)
  | call (f : Nat) (es : Es)
  | mkl (m : Bool) (c : C)
  | rng (es : Es)
  | enum (a : E)
  | zip (a b : E)
inductive Es where
  | nil
  | cons (e : E) (r : Es)
inductive C where
  | disp (es : Es)
  | ofl (e : E)
  | comp (own : List Nat) (p : Pat) (it : E) (c : Es) (elt : E)
  | comp2 (own vs1 : List Nat) (p : Pat) (it : E) (c : Es) (p1 : Pat) (it1 : E) (c1 : Es) (elt : E)
  | rep (a b : E)
end

/-- an own function: of plain data; of one cell and plain data; one that makes a new list -/
inductive FSpec where
  | pure (f : List D → Option D)
  | cell (f : List W → List D → Option (D × List D))
  | new (f : List D → Option (List D))
  | none

def rngD : List D → Option (List D)
  | [.int j] => if lo62 j && hi24 j then some ((List.range j.toNat).map fun (k : Nat) => D.int k) else .none
  | [.int i, .int j] => if lo62 i && hi62 i && lo62 j && hi62 j && decide ((j - i).toNat ≤ line) then some ((List.range (j - i).toNat).map fun (k : Nat) => D.int (i + k)) else .none
  | [.int i, .int j, .int (-1)] => if lo62 i && hi62 i && lo62 j && hi62 j && decide ((i - j).toNat ≤ line) then some ((List.range (i - j).toNat).map fun (k : Nat) => D.int (i - k)) else .none
  | _ => .none
def enumL : Nat → List D → List D
  | _, [] => []
  | n, x :: xs => .tup [.int n, x] :: enumL (n + 1) xs
def zipL : List D → List D → List D
  | x :: xs, y :: ys => .tup [x, y] :: zipL xs ys
  | _, _ => []
/-- the turns of a list comprehension over plain items -/
def compD (turn : D → DH → Option (List W × DH)) : List D → DH → Option (List W × DH)
  | [], h => some ([], h)
  | x :: r, h => do
    let (o, h1) ← turn x h
    let (ws, h2) ← compD turn r h1
    some (o ++ ws, h2)
/-- .. over the list that stands in the n-th cell -/
def compR (turn : D → DH → Option (List W × DH)) (n : Nat) : Nat → Nat → DH → Option (List W × DH)
  | 0, i, h => match h[n]? with
    | some (.lst ws) => if ws.length = i then some ([], h) else .none
    | _ => .none
  | k + 1, i, h => match h[n]? with
    | some (.lst ws) => match ws[i]? with
      | some (.d x) => do
        let (o, h1) ← turn x h
        let (ws, h2) ← compR turn n k (i + 1) h1
        some (o ++ ws, h2)
      | _ => .none
    | _ => .none
def compW (turn : D → DH → Option (List W × DH)) (w : W) (h : DH) : Option (List W × DH) :=
  match w with
  | .d x => (itemsD x).bind fun ds => compD turn ds h
  | .ref n => match h[n]? with
    | some (.lst ws) => compR turn n ws.length 0 h
    | _ => .none
def mkL (m : Bool) (ws : List W) (h : DH) : Option (W × DH) :=
  if m = true then some (.ref h.length, h ++ [.lst ws]) else (pureL ws).map fun ds => (.d (.lst ds), h)

mutual
def evE (Φ : Nat → FSpec) (G : Nat → D) : E → Env → DH → Option (W × DH)
  | .var i, env, h => match env[i]? with
    | some (some w) => some (w, h)
    | _ => .none
  | .lit d, _, h => some (.d d, h)
  | .con g, _, h => some (.d (G g), h)
  | .bin o a b, env, h => do
    let (x, h1) ← evE Φ G a env h
    let (y, h2) ← evE Φ G b env h1
    let dx ← valD h2 x
    let dy ← valD h2 y
    let r ← binD o dx dy
    some (.d r, h2)
  | .neg a, env, h => do
    let (x, h1) ← evE Φ G a env h
    match x with
    | .d (.int i) => some (.d (.int (-i)), h1)
    | _ => .none
  | .not a, env, h => do
    let (x, h1) ← evE Φ G a env h
    match x with
    | .d (.bl b) => some (.d (.bl (!b)), h1)
    | _ => .none
  | .and a b, env, h => do
    let (x, h1) ← evE Φ G a env h
    match x with
    | .d (.bl true) => evE Φ G b env h1
    | .d (.bl false) => some (.d (.bl false), h1)
    | _ => .none
  | .or a b, env, h => do
    let (x, h1) ← evE Φ G a env h
    match x with
    | .d (.bl false) => evE Φ G b env h1
    | .d (.bl true) => some (.d (.bl true), h1)
    | _ => .none
  | .chain o p a b c, env, h => do
    let (x, h1) ← evE Φ G a env h
    let (y, h2) ← evE Φ G b env h1
    let dx ← valD h2 x
    let dy ← valD h2 y
    let r ← binD o dx dy
    match r with
    | .bl true => do
      let (z, h3) ← evE Φ G c env h2
      let dy ← valD h3 y
      let dz ← valD h3 z
      let r ← binD p dy dz
      some (.d r, h3)
    | .bl false => some (.d (.bl false), h2)
    | _ => .none
  | .ite c a b, env, h => do
    let (x, h1) ← evE Φ G c env h
    match x with
    | .d (.bl true) => evE Φ G a env h1
    | .d (.bl false) => evE Φ G b env h1
    | _ => .none
  | .tup es, env, h => do
    let (ws, h1) ← evEs Φ G es env h
    let ds ← pureL ws
    if ds.length ≤ line then some (.d (.tup ds), h1) else .none
  | .ix a b, env, h => do
    let (x, h1) ← evE Φ G a env h
    let (y, h2) ← evE Φ G b env h1
    let w ← ixW h2 x y
    some (w, h2)
  | .sl a lo hi, env, h => do
    let (x, h1) ← evE Φ G a env h
    let (l, h2) ← evPart Φ G lo env h1
    let (u, h3) ← evPart Φ G hi env h2
    let dx ← valD h3 x
    let r ← slD dx l u
    some (.d r, h3)
  | .rev a, env, h => do
    let (x, h1) ← evE Φ G a env h
    let dx ← valD h1 x
    let r ← revD dx
    some (.d r, h1)
  | .isi a t, env, h => do
    let (x, h1) ← evE Φ G a env h
    match x with
    | .d x => match dTy x with
      | some _ => some (.d (.bl (isD x t)), h1)
      | .none => .none
    | _ => .none
  | .bif b es, env, h => do
    let (ws, h1) ← evEs Φ G es env h
    let ds ← valsD h1 ws
    let r ← bifD b ds
    some (.d r, h1)
  | .call f es, env, h => do
    let (ws, h1) ← evEs Φ G es env h
    match Φ f with
    | .pure g => do
      let ds ← pureL ws
      let r ← g ds
      some (.d r, h1)
    | .new g => do
      let ds ← pureL ws
      let r ← g ds
      some (.ref h1.length, h1 ++ [.lst (r.map W.d)])
    | .cell g => do
      let n ← cellArg ws
      match h1[n]? with
      | some (.lst l) => do
        let c ← pureL l
        let (r, c') ← g (ws.map zeroW) c
        some (.d r, h1.set n (.lst (c'.map W.d)))
      | _ => .none
    | .none => .none
  | .mkl m c, env, h => do
    let (ws, h1) ← evC Φ G c env h
    mkL m ws h1
  | .rng es, env, h => do
    let (ws, h1) ← evEs Φ G es env h
    let ds ← pureL ws
    let r ← rngD ds
    some (.d (.lst r), h1)
  | .enum a, env, h => do
    let (x, h1) ← evE Φ G a env h
    match x with
    | .d x => (itemsD x).map fun ds => (.d (.lst (enumL 0 ds)), h1)
    | _ => .none
  | .zip a b, env, h => do
    let (x, h1) ← evE Φ G a env h
    let (y, h2) ← evE Φ G b env h1
    match x, y with
    | .d x, .d y => do
      let xs ← itemsD x
      let ys ← itemsD y
      some (.d (.lst (zipL xs ys)), h2)
    | _, _ => .none
def evEs (Φ : Nat → FSpec) (G : Nat → D) : Es → Env → DH → Option (List W × DH)
  | .nil, _, h => some ([], h)
  | .cons e r, env, h => do
    let (w, h1) ← evE Φ G e env h
    let (ws, h2) ← evEs Φ G r env h1
    some (w :: ws, h2)
/-- a part of a slice -/
def evPart (Φ : Nat → FSpec) (G : Nat → D) : Es → Env → DH → Option (Option Int × DH)
  | .nil, _, h => some (.none, h)
  | .cons e _, env, h => do
    let (x, h1) ← evE Φ G e env h
    match x with
    | .d (.int i) => some (some i, h1)
    | _ => .none
/-- the test of a clause -/
def evIf (Φ : Nat → FSpec) (G : Nat → D) : Es → Env → DH → Option (Bool × DH)
  | .nil, _, h => some (true, h)
  | .cons e _, env, h => do
    let (x, h1) ← evE Φ G e env h
    match x with
    | .d (.bl i) => some (i, h1)
    | _ => .none
def evC (Φ : Nat → FSpec) (G : Nat → D) : C → Env → DH → Option (List W × DH)
  | .disp es, env, h => do
    let (ws, h1) ← evEs Φ G es env h
    if ws.length ≤ line then some (ws, h1) else .none
  | .ofl e, env, h => do
    let (x, h1) ← evE Φ G e env h
    let dx ← valD h1 x
    let ds ← (match dx with | .lst xs => some xs | .tup xs => some xs | .scr ns => some (ns.map D.int) | _ => .none)
    some (ds.map W.d, h1)
  | .comp own p it c elt, env, h => do
    let (x, h1) ← evE Φ G it env h
    let (ws, h2) ← compW (fun x h => do
      let env1 ← p.bind x (wipeE env own)
      let (b, h1) ← evIf Φ G c env1 h
      if b = true then do
        let (w, h2) ← evE Φ G elt env1 h1
        some ([w], h2)
      else some ([], h1)) x h1
    if ws.length ≤ line then some (ws, h2) else .none
  | .comp2 own vs1 p it c p1 it1 c1 elt, env, h => do
    let (x, h1) ← evE Φ G it env h
    let (ws, h2) ← compW (fun x h => do
      let env1 ← p.bind x (wipeE env own)
      let (b, h1) ← evIf Φ G c env1 h
      if b = true then do
        let (y, h2) ← evE Φ G it1 env1 h1
        compW (fun y h => do
          let env2 ← p1.bind y (wipeE env1 vs1)
          let (b, h1) ← evIf Φ G c1 env2 h
          if b = true then do
            let (w, h2) ← evE Φ G elt env2 h1
            some ([w], h2)
          else some ([], h1)) y h2
      else some ([], h1)) x h1
    if ws.length ≤ line then some (ws, h2) else .none
  | .rep a b, env, h => do
    let (x, h1) ← evE Φ G a env h
    let (y, h2) ← evE Φ G b env h1
    match x, y with
    | .d (.lst xs), .d (.int k) => if lo63 k && hi63 k && decide (xs.length * k.toNat ≤ line) then some ((List.replicate k.toNat xs).flatten.map W.d, h2) else .none
    | _, _ => .none
end

/-! ### statements -/
inductive Tgt where
  | pat (p : Pat)
  | sub (a b : E)
  | two (a b a' b' : E)
mutual
inductive S where
  | asg (t : Tgt) (e : E)
  | par (is : List Nat) (es : Es)
  | ext (i : Nat) (e : E)
  | app (i : Nat) (e : E)
  | expr (e : E)
  | ite (c : E) (a b : Ss)
  | for (p : Pat) (it : E) (body : Ss)
  | while (c : E) (body : Ss)
  | ret (e : E)
  | brk | cont | pass | nev
  | fgt (vs : List Nat)
  | frz (i : Nat)
inductive Ss where
  | nil
  | cons (s : S) (r : Ss)
end
inductive Out where
  | nx (env : Env) (h : DH)
  | rt (w : W) (h : DH)
  | bk (env : Env) (h : DH)
  | ct (env : Env) (h : DH)
def setsE : List Nat → List W → Env → Option Env
  | [], [], env => some env
  | i :: is, w :: ws, env => setsE is ws (env.set i (some w))
  | _, _, _ => .none
/-- o[i] = v -/
def storeW (o i v : W) (h : DH) : Option DH :=
  match o, i with
  | .ref n, .d (.int k) => match h[n]? with
    | some (.lst ws) => (ixN ws.length k).map fun j => h.set n (.lst (ws.set j v))
    | _ => .none
  | _, _ => .none
def forD (turn : D → Env → DH → Option Out) : List D → Env → DH → Option Out
  | [], env, h => some (.nx env h)
  | x :: r, env, h => do
    match ← turn x env h with
    | .nx env1 h1 => forD turn r env1 h1
    | .ct env1 h1 => forD turn r env1 h1
    | .bk env1 h1 => some (.nx env1 h1)
    | .rt w h1 => some (.rt w h1)
def whileD (test : Env → DH → Option (Bool × DH)) (body : Env → DH → Option Out) : Nat → Env → DH → Option Out
  | 0, _, _ => .none
  | k + 1, env, h => do
    let (b, h1) ← test env h
    if b = true then
      match ← body env h1 with
      | .nx env1 h2 => whileD test body k env1 h2
      | .ct env1 h2 => whileD test body k env1 h2
      | .bk env1 h2 => some (.nx env1 h2)
      | .rt w h2 => some (.rt w h2)
    else some (.nx env h1)
def unsetE (env : Env) : List Nat → Env
  | [] => env
  | v :: vs => unsetE (env.set v none) vs
mutual
def evS (Φ : Nat → FSpec) (G : Nat → D) (N : Nat) : S → Env → DH → Option Out
  | .asg (.pat (.nm i)) e, env, h => do
    let (w, h1) ← evE Φ G e env h
    some (.nx (env.set i (some w)) h1)
  | .asg (.pat p) e, env, h => do
    let (w, h1) ← evE Φ G e env h
    match w with
    | .d x => do
      let env1 ← p.bind x env
      some (.nx env1 h1)
    | _ => .none
  | .asg (.sub a b) e, env, h => do
    let (v, h1) ← evE Φ G e env h
    let (o, h2) ← evE Φ G a env h1
    let (i, h3) ← evE Φ G b env h2
    let h4 ← storeW o i v h3
    some (.nx env h4)
  | .asg (.two a b a' b') e, env, h => do
    let (v, h1) ← evE Φ G e env h
    match v with
    | .d (.tup [x, y]) => do
      let (o, h2) ← evE Φ G a env h1
      let (i, h3) ← evE Φ G b env h2
      let h4 ← storeW o i (.d x) h3
      let (o, h5) ← evE Φ G a' env h4
      let (i, h6) ← evE Φ G b' env h5
      let h7 ← storeW o i (.d y) h6
      some (.nx env h7)
    | _ => .none
  | .par is es, env, h => do
    let (ws, h1) ← evEs Φ G es env h
    let env1 ← setsE is ws env
    some (.nx env1 h1)
  | .ext i e, env, h => do
    match env[i]? with
    | some (some (.ref n)) => do
      let (w, h1) ← evE Φ G e env h
      match w, h1[n]? with
      | .d (.lst xs), some (.lst ws) => if ws.length + xs.length ≤ line then some (.nx env (h1.set n (.lst (ws ++ xs.map W.d)))) else .none
      | _, _ => .none
    | _ => .none
  | .app i e, env, h => do
    match env[i]? with
    | some (some (.ref n)) => do
      match h[n]? with
      | some (.lst _) => do
        let (w, h1) ← evE Φ G e env h
        match h1[n]? with
        | some (.lst ws) => if ws.length < line then some (.nx env (h1.set n (.lst (ws ++ [w])))) else .none
        | _ => .none
      | _ => .none
    | _ => .none
  | .expr e, env, h => do
    let (_, h1) ← evE Φ G e env h
    some (.nx env h1)
  | .ite c a b, env, h => do
    let (x, h1) ← evE Φ G c env h
    match x with
    | .d (.bl true) => evSs Φ G N a env h1
    | .d (.bl false) => evSs Φ G N b env h1
    | _ => .none
  | .for p it body, env, h => do
    let (x, h1) ← evE Φ G it env h
    match x with
    | .d x => do
      let ds ← itemsD x
      forD (fun x env h => do
        let env1 ← p.bind x env
        evSs Φ G N body env1 h) ds env h1
    | _ => .none
  | .while c body, env, h => whileD (fun env h => do
      let (x, h1) ← evE Φ G c env h
      match x with
      | .d (.bl b) => some (b, h1)
      | _ => .none) (evSs Φ G N body) N env h
  | .ret e, env, h => do
    let (w, h1) ← evE Φ G e env h
    some (.rt w h1)
  | .brk, env, h => some (.bk env h)
  | .cont, env, h => some (.ct env h)
  | .pass, env, h => some (.nx env h)
  | .nev, _, _ => .none
  | .fgt vs, env, h => some (.nx (unsetE env vs) h)
  | .frz i, env, h => do
    match env[i]? with
    | some (some (.ref n)) => do
      match h[n]? with
      | some (.lst ws) => do
        let ds ← pureL ws
        some (.nx (env.set i (some (.d (.lst ds)))) (h.set n .dead))
      | _ => .none
    | _ => .none
def evSs (Φ : Nat → FSpec) (G : Nat → D) (N : Nat) : Ss → Env → DH → Option Out
  | .nil, env, h => some (.nx env h)
  | .cons s r, env, h => do
    match ← evS Φ G N s env h with
    | .nx env1 h1 => evSs Φ G N r env1 h1
    | o => some o
end
end Sh

/-! the evaluator's operations are the model's -/
namespace Sh
open PySem PySem.Spec PyProof.Rows L2

section
variable {K : PySem.W.Frag} {H H' : Hp} {ι ι' : List Addr} {h : DH}
theorem line_eq : line = sizeLine := by rw [sizeLine_eq]; rfl
mutual
theorem py_depth : ∀ d : D, (py d).depth = dep d
  | .non => by simp only [py, PyData.depth, dep]
  | .bl _ => by simp only [py, PyData.depth, dep]
  | .int _ => by simp only [py, PyData.depth, dep]
  | .str _ => by simp only [py, PyData.depth, dep]
  | .tup xs => by simp only [py, PyData.depth, dep, pyL_depth xs]
  | .lst xs => by simp only [py, PyData.depth, dep, pyL_depth xs]
  | .dct _ _ => by simp only [py, PyData.depth, dep]
  | .scr _ => by simp only [py, PyData.depth, dep]
theorem pyL_depth : ∀ ds : List D, PyData.depthAll (pyL ds) = depL ds
  | [] => by simp only [pyL, PyData.depthAll, depL]
  | x :: r => by simp only [pyL, PyData.depthAll, depL, py_depth x, pyL_depth r]
end
mutual
theorem py_eqv : ∀ a b : D, flat a = true → flat b = true → PyData.eqv (py a) (py b) = eqD a b
  | .tup xs, b, ha, hb => by
    cases b with
    | tup ys => simp only [py, PyData.eqv, eqD]; exact pyL_eqv xs ys (by simpa [flat] using ha) (by simpa [flat] using hb)
    | dct _ _ => simp [flat] at hb
    | scr _ => simp [flat] at hb
    | _ => simp only [py, PyData.eqv, eqD]
  | .lst xs, b, ha, hb => by
    cases b with
    | lst ys => simp only [py, PyData.eqv, eqD]; exact pyL_eqv xs ys (by simpa [flat] using ha) (by simpa [flat] using hb)
    | dct _ _ => simp [flat] at hb
    | scr _ => simp [flat] at hb
    | _ => simp only [py, PyData.eqv, eqD]
  | .non, b, _, hb => by cases b <;> simp_all [py, PyData.eqv, eqD, flat]
  | .bl _, b, _, hb => by cases b <;> simp_all [py, PyData.eqv, eqD, flat]
  | .int _, b, _, hb => by cases b <;> simp_all [py, PyData.eqv, eqD, flat]
  | .str s, b, _, hb => by
    cases b with
    | str t =>
      simp only [py, PyData.eqv, eqD]
      by_cases e : s = t
      · subst e; rw [beq_self_eq_true, beq_self_eq_true]
      · have h1 : ¬ (⟨s.toArray⟩ : Str) = ⟨t.toArray⟩ := fun z => e (by simpa using z)
        rw [beq_eq_false_iff_ne.mpr e, beq_eq_false_iff_ne.mpr h1]
    | _ => simp_all [py, PyData.eqv, eqD, flat]
  | .dct _ _, _, ha, _ => by simp [flat] at ha
  | .scr _, _, ha, _ => by simp [flat] at ha
theorem pyL_eqv : ∀ a b : List D, flatL a = true → flatL b = true → PyData.eqvAll (pyL a) (pyL b) = eqDL a b
  | [], [], _, _ => by simp only [pyL, PyData.eqvAll, eqDL]
  | [], _ :: _, _, _ => by simp only [pyL, PyData.eqvAll, eqDL]
  | _ :: _, [], _, _ => by simp only [pyL, PyData.eqvAll, eqDL]
  | x :: xs, y :: ys, ha, hb => by
    simp only [flatL, Bool.and_eq_true] at ha hb
    simp only [pyL, PyData.eqvAll, eqDL, py_eqv x y ha.1 hb.1, pyL_eqv xs ys ha.2 hb.2]
end
theorem okCp_strOk {s : List Nat} (h : okCp s = true) : PyData.strOk ⟨s.toArray⟩ = true := by
  unfold okCp at h
  unfold PyData.strOk
  simp only [List.all_toArray, List.all_eq_true, decide_eq_true_eq] at h ⊢
  intro x hx
  have := h x (by simpa using hx)
  omega
mutual
theorem Rep.lay : ∀ {d : D} {v : V}, Rep K H d v → flat d = true → (py d).canLay0 = true
  | _, _, .non, _ => by simp only [py, PyData.canLay0]
  | _, _, .bl _, _ => by simp only [py, PyData.canLay0]
  | _, _, .int _, _ => by simp only [py, PyData.canLay0]
  | _, _, .str s h, _ => by simp only [py, PyData.canLay0]; exact okCp_strOk h
  | _, _, .tup _ r, hf => by simp only [py, PyData.canLay0]; exact RepL.lay r (by simpa [flat] using hf)
  | _, _, .lst _ r, hf => by simp only [py, PyData.canLay0]; exact RepL.lay r (by simpa [flat] using hf)
  | _, _, .scr _, hf => by simp [flat] at hf
theorem RepL.lay : ∀ {ds : List D} {vs : List V}, RepL K H ds vs → flatL ds = true → PyData.canLayAll0 (pyL ds) = true
  | _, _, .nil, _ => by simp only [pyL, PyData.canLayAll0]
  | _, _, .cons a b, hf => by
    simp only [flatL, Bool.and_eq_true] at hf
    simp only [pyL, PyData.canLayAll0, Rep.lay a hf.1, RepL.lay b hf.2, Bool.and_self]
end
mutual
theorem Rep.dp : ∀ {d : D} {v : V}, Rep K H d v → flat d = true → Dp K H v (py d)
  | _, _, .non, _ => by simp only [py]; exact .non
  | _, _, .bl b, _ => by simp only [py]; exact .bl b
  | _, _, .int i, _ => by simp only [py]; exact .int i
  | _, _, .str s h, _ => by simp only [py]; exact .str _
  | _, _, .tup q r, hf => by simp only [py]; exact .tup q (RepL.dp r (by simpa [flat] using hf))
  | _, _, .lst q r, hf => by simp only [py]; exact .lst q.sql (RepL.dp r (by simpa [flat] using hf))
  | _, _, .scr _, hf => by simp [flat] at hf
theorem RepL.dp : ∀ {ds : List D} {vs : List V}, RepL K H ds vs → flatL ds = true → DpAll K H vs (pyL ds)
  | _, _, .nil, _ => by simp only [pyL]; exact .nil
  | _, _, .cons a b, hf => by
    simp only [flatL, Bool.and_eq_true] at hf
    simp only [pyL]
    exact .cons (Rep.dp a hf.1) (RepL.dp b hf.2)
end
/-- a value as plain data: what it is in the heap -/
inductive Is (K : PySem.W.Frag) (H : Hp) : D → V → Prop
  | rep {d : D} {v : V} : Rep K H d v → Is K H d v
  | lst {a : Addr} {vs : List V} {ds : List D} : H a = some (.lst vs) → RepL K H ds vs → Is K H (.lst ds) (.ref a)
theorem Is.dp {d : D} {v : V} (r : Is K H d v) (hf : flat d = true) : Dp K H v (py d) := by
  cases r with
  | rep r => exact r.dp hf
  | lst q r => simp only [py]; exact .lst (.inl (.inl q)) (r.dp (by simpa [flat] using hf))
theorem Is.lay {d : D} {v : V} (r : Is K H d v) (hf : flat d = true) : (py d).canLay0 = true := by
  cases r with
  | rep r => exact r.lay hf
  | lst q r => simp only [py, PyData.canLay0]; exact r.lay (by simpa [flat] using hf)
theorem Is.shaped {d : D} {v : V} (r : Is K H d v) (hs : shp d = true) : SeqAt.shaped (py d) = true := by
  simp only [shp, Bool.and_eq_true, decide_eq_true_eq] at hs
  unfold SeqAt.shaped
  simp only [r.lay hs.1, py_depth, Bool.true_and, decide_eq_true_eq]
  exact hs.2
theorem Is.sq {ds : List D} {v : V} (r : Is K H (.lst ds) v) : ∃ a vs, v = .ref a ∧ Rd H a (.lst vs) ∧ RepL K H ds vs := by
  cases r with
  | rep r =>
    cases r with
    | lst q r => obtain ⟨o, q⟩ := q; exact ⟨_, _, rfl, .inr ⟨o, q⟩, r⟩
  | lst q r => exact ⟨_, _, rfl, .inl q, r⟩
theorem Is.tup {ds : List D} {v : V} (r : Is K H (.tup ds) v) : ∃ a vs, v = .ref a ∧ SqT K H a vs ∧ RepL K H ds vs := by
  cases r with
  | rep r => cases r with | tup q r => exact ⟨_, _, rfl, q, r⟩
theorem Is.int {i : Int} {v : V} (r : Is K H (.int i) v) : v = .int i := by cases r with | rep r => cases r; rfl
theorem Is.bl {i : Bool} {v : V} (r : Is K H (.bl i) v) : v = .bl i := by cases r with | rep r => cases r; rfl
theorem Is.non {v : V} (r : Is K H .non v) : v = .non := by cases r with | rep r => cases r; rfl
theorem Is.str {s : List Nat} {v : V} (r : Is K H (.str s) v) : v = .str ⟨s.toArray⟩ ∧ okCp s = true := by
  cases r with | rep r => cases r with | str _ h => exact ⟨rfl, h⟩
theorem Is.none_iff {d : D} {v : V} (r : Is K H d v) : decide (v = .non) = isNon d := by
  cases r with
  | rep r => cases r <;> simp [isNon]
  | lst _ _ => simp [isNon]
/-- what a name holds, as plain data -/
theorem RepW.is (s : SR K ι H h) {w : W} {v : V} {d : D} (r : RepW K ι H w v) (e : valD h w = some d) : Is K H d v := by
  cases r with
  | d r =>
    simp only [valD] at e
    cases e
    exact .rep r
  | @ref n a hn =>
    simp only [valD] at e
    split at e
    · rename_i ws hc
      simp only [Option.map_eq_some_iff] at e
      obtain ⟨ds, hp, rfl⟩ := e
      obtain ⟨vs, hv, rw'⟩ := s.cell n _ a hc hn
      exact .lst hv (rw'.pure hp)
    · cases e
theorem RepW.pure {x : D} {v : V} (r : RepW K ι H (.d x) v) : Rep K H x v := by cases r with | d r => exact r
theorem RepW.cell {n : Nat} {v : V} (r : RepW K ι H (.ref n) v) : ∃ a, v = .ref a ∧ ι[n]? = some a := by cases r with | ref h => exact ⟨_, rfl, h⟩
end

theorem okCp_append {x y : List Nat} (hx : okCp x = true) (hy : okCp y = true) : okCp (x ++ y) = true := by
  unfold okCp at *; rw [List.all_append, hx, hy]; rfl
theorem str_append (x y : List Nat) : (⟨x.toArray⟩ ++ ⟨y.toArray⟩ : Str) = ⟨(x ++ y).toArray⟩ := by
  show Str.mk _ = _
  simp
theorem str_length (x : List Nat) : Str.length ⟨x.toArray⟩ = x.length := by
  simp [Str.length]

/-- an operation by data -/
def rBin (K : PySem.W.Frag) (o : Bop) : R2 := fun x y H Q => ∃ da db d, Is K H da x ∧ Is K H db y ∧ binD o da db = some d ∧ ∀ H' v, Same H H' → Rep K H' d v → Q v H'
section
variable {X : Cx}
theorem Inv.rdl {pins : List (Addr × Obj)} {σ : L2.St} {H : Hp} {s : Shared} {a : Addr} {vs : List V} (I : Inv X pins σ H s) (h : Rd H a (.lst vs)) :
    vs.length ≤ sizeLine ∧ ∃ (its : List Value) (n : Nat), Vals vs its ∧ vs.length = its.length ∧ s.heap.get? a = some { cls := .type "list", data := .seq its.toArray n } := by
  obtain ⟨z, its, n, r, e⟩ := h.ok I.hok
  exact ⟨z, its, n, r, r.length, e⟩
/-- a new list, frozen at once -/
theorem ep_frz {pins : List (Addr × Obj)} {σ : L2.St} {H : Hp} {s : Shared} {vs : List V} {its : List Value} {Q : VK} (I : Inv X pins σ H s) (rv : Vals vs its) (hz : vs.length ≤ sizeLine)
    (q : ∀ p o, H p = none → Q (.ref p) (upd H p (.frz o (.lst vs)))) : EP X pins σ Q (.ref s.heap.objs.size) { s with heap := s.heap.push { cls := .type "list", data := .seq its.toArray } } := by
  have hp : H s.heap.objs.size = none := I.hok.fresh (Nat.le_refl _)
  have I1 := I.lnew (t' := s.toks) rv hz
  obtain ⟨o, I2⟩ := Inv.freeze I1 (p := s.heap.objs.size) upd_same (fun _ z => by cases z) (fun _ _ z => by cases z) (fun _ z => by cases z) (fun _ z => by cases z) ⟨_, Heap.get?_push_size _ rfl⟩
  rw [upd_upd] at I2
  exact ⟨.ref _, _, I2, rfl, q _ o hp⟩
theorem same_of_frz {H : Hp} {p : Addr} {o : HO} (hp : H p = none) : Same H (upd H p o) := same_upd hp
theorem Rep.mkl {K : PySem.W.Frag} {H : Hp} {p : Addr} {o : Obj} {ds : List D} {vs : List V} (hp : H p = none) (r : RepL K H ds vs) : Rep K (upd H p (.frz o (.lst vs))) (.lst ds) (.ref p) :=
  .lst ⟨o, upd_same⟩ (r.ext (.of_same (same_upd hp)))
theorem Rep.mkt {K : PySem.W.Frag} {H : Hp} {p : Addr} {ds : List D} {vs : List V} (hp : H p = none) (r : RepL K H ds vs) : Rep K (upd H p (.tup vs)) (.tup ds) (.ref p) :=
  .tup (.inl (.inl upd_same)) (r.ext (.of_same (same_upd hp)))

/-- a list just made is frozen -/
theorem EP.frz {pins : List (Addr × Obj)} {σ : L2.St} {s : Shared} {Q : VK} {u : Value} (h : EP X pins σ (fun v H' => ∃ p vs, v = .ref p ∧ H' p = some (.lst vs) ∧ ∀ o, Q v (upd H' p (.frz o (.lst vs)))) u s) : EP X pins σ Q u s := by
  obtain ⟨v, H', I, r, p, vs, rfl, hp, q⟩ := h
  have ok := I.hok p _ hp
  obtain ⟨_, its, n, _, e⟩ := ok
  obtain ⟨o, I2⟩ := Inv.freeze I hp (fun _ z => by cases z) (fun _ _ z => by cases z) (fun _ z => by cases z) (fun _ z => by cases z) ⟨_, e⟩
  exact ⟨_, _, I2, r, q o⟩
theorem flat_cat {α : Type} (x y : List α) (h : x = []) : x ++ y = y := by rw [h]; rfl

theorem ob_add : OpR X (binaryOp .Add) (rBin X.K .add) := by
  intro pins s σ H x y v u Q I rx ry hq
  obtain ⟨da, db, d, ia, ib, e, q⟩ := hq
  cases da <;> cases db <;> simp only [binD, reduceCtorEq] at e
  · rename_i i j
    cases e
    obtain rfl := ia.int
    obtain rfl := ib.int
    exact op_add pins s σ H _ _ v u Q I rx ry ⟨i, j, rfl, rfl, q H _ (Same.refl H) (.int _)⟩
  · rename_i i j
    split at e
    · rename_i hl
      cases e
      obtain ⟨rfl, o1⟩ := ia.str
      obtain ⟨rfl, o2⟩ := ib.str
      refine op_add_str pins s σ H _ _ v u Q I rx ry ⟨_, _, rfl, rfl, ?_, ?_⟩
      · rw [str_length, str_length, ← line_eq]; exact hl
      · rw [str_append]; exact q H _ (Same.refl H) (.str _ (okCp_append o1 o2))
    · cases e
  · rename_i i j
    split at e
    · rename_i hl
      cases e
      obtain ⟨a, vs, rfl, h1, r1⟩ := ia.tup
      obtain ⟨b, us, rfl, h2, r2⟩ := ib.tup
      have n1 := r1.length
      have n2 := r2.length
      refine op_catA pins s σ H _ _ v u Q I rx ry ⟨a, b, vs, us, rfl, rfl, h1, h2, ?_, fun z => ?_, fun _ z => ?_, fun _ _ p hp => ?_⟩
      · rw [← n1, ← n2, ← line_eq]; exact hl
      · subst z
        have : i = [] := List.length_eq_zero_iff.mp n1
        subst this
        exact q H _ (Same.refl H) (.tup h2 r2)
      · subst z
        have : j = [] := List.length_eq_zero_iff.mp n2
        subst this
        rw [List.append_nil] at q
        exact q H _ (Same.refl H) (.tup h1 r1)
      · exact q _ _ (same_upd hp) (.mkt hp (r1.append r2))
    · cases e
  · rename_i i j
    split at e
    · rename_i hl
      cases e
      obtain ⟨a, vs, rfl, h1, r1⟩ := ia.sq
      obtain ⟨b, us, rfl, h2, r2⟩ := ib.sq
      cases rx
      cases ry
      obtain ⟨z, its, n, r, hl1, e1⟩ := Inv.rdl I h1
      obtain ⟨z2, its2, n2, r', hl2, e2⟩ := Inv.rdl I h2
      have hz : vs.length + us.length ≤ sizeLine := by rw [← r1.length, ← r2.length, ← line_eq]; exact hl
      refine PySem.P.add_list e1 e2 ?_ (by rw [List.size_toArray, List.size_toArray]; omega)
      have ea : its.toArray ++ its2.toArray = (its ++ its2).toArray := by simp
      rw [ea]
      exact ep_frz I (r.append r') (by rw [List.length_append]; exact hz) fun p o hp => q _ _ (same_upd hp) (.mkl hp (r1.append r2))
    · cases e
theorem ob_sub : OpR X (binaryOp .Sub) (rBin X.K .sub) := by
  intro pins s σ H x y v u Q I rx ry hq
  obtain ⟨da, db, d, ia, ib, e, q⟩ := hq
  cases da <;> cases db <;> simp only [binD, reduceCtorEq] at e
  rename_i i j
  cases e
  obtain rfl := ia.int
  obtain rfl := ib.int
  exact op_sub pins s σ H _ _ v u Q I rx ry ⟨i, j, rfl, rfl, q H _ (Same.refl H) (.int _)⟩
theorem b64_ok {i j : Int} (h : (b64 i || b64 j) = true) : CMul i j := by
  simp only [b64_iff, Bool.or_eq_true] at h
  exact h
theorem flatten_rep_length {α : Type} (x : List α) (k : Nat) : (List.replicate k x).flatten.length = x.length * k := by
  induction k with
  | zero => simp
  | succ k ih => simp [List.replicate_succ, ih, Nat.mul_succ, Nat.add_comm]
theorem okCp_rep {x : List Nat} (h : okCp x = true) : ∀ k : Nat, okCp (List.replicate k x).flatten = true
  | 0 => rfl
  | k + 1 => by rw [List.replicate_succ, List.flatten_cons]; exact okCp_append h (okCp_rep h k)
theorem foldl_repN (its : List Nat) : ∀ (k : Nat) (acc : List Nat),
    List.foldl (fun x1 x2 => x1 ++ x2) acc.toArray (List.replicate k its.toArray) = (acc ++ (List.replicate k its).flatten).toArray
  | 0, acc => by simp
  | k + 1, acc => by
    have e : acc.toArray ++ its.toArray = (acc ++ its).toArray := by simp
    have e2 : (acc ++ its) ++ (List.replicate k its).flatten = acc ++ (List.replicate (k + 1) its).flatten := by
      rw [List.replicate_succ, List.flatten_cons, List.append_assoc]
    rw [← e2, ← foldl_repN its k (acc ++ its), ← e, List.replicate_succ, List.foldl_cons]
theorem txt_mul (x : List Nat) (k : Int) : Txt.mul ⟨x.toArray⟩ k = ⟨(List.replicate k.toNat x).flatten.toArray⟩ := by
  unfold Txt.mul
  by_cases h1 : k < 1
  · have : k.toNat = 0 := by omega
    rw [if_pos h1, this]
    rfl
  · rw [if_neg h1]
    by_cases h2 : (k == 1 || Str.length ⟨x.toArray⟩ == 0) = true
    · rw [if_pos h2]
      simp only [Bool.or_eq_true, beq_iff_eq, str_length] at h2
      rcases h2 with h2 | h2
      · subst h2; simp
      · have : x = [] := List.length_eq_zero_iff.mp h2
        subst this
        have : ∀ n : Nat, (List.replicate n ([] : List Nat)).flatten = [] := fun n => by induction n with
          | zero => rfl
          | succ n ih => rw [List.replicate_succ, List.flatten_cons, ih]; rfl
        rw [this]
    · rw [if_neg h2]
      have := foldl_repN x k.toNat []
      simp only [List.nil_append] at this
      exact congrArg Str.mk this
theorem ob_mul : OpR X (binaryOp .Mult) (rBin X.K .mul) := by
  intro pins s σ H x y v u Q I rx ry hq
  obtain ⟨da, db, d, ia, ib, e, q⟩ := hq
  cases da <;> cases db <;> simp only [binD, reduceCtorEq] at e
  · rename_i i j
    split at e
    · rename_i hl
      cases e
      obtain rfl := ia.int
      obtain rfl := ib.int
      exact op_mul pins s σ H _ _ v u Q I rx ry ⟨i, j, rfl, rfl, b64_ok hl, q H _ (Same.refl H) (.int _)⟩
    · cases e
  · rename_i x k
    split at e
    · rename_i hl
      cases e
      simp only [Bool.and_eq_true, decide_eq_true_eq, lo62_iff, hi62_iff, lo63_iff, hi63_iff, hi30_iff, hiP_iff, hi24_iff, b64_iff] at hl
      obtain ⟨⟨k1, k2⟩, k3⟩ := hl
      obtain ⟨rfl, o1⟩ := ia.str
      obtain rfl := ib.int
      obtain ⟨t, rfl⟩ := rx
      obtain ⟨t', rfl⟩ := ry
      refine SB.mul ⟨?_, fun h1 h2 => ?_, fun h1 h2 => ?_⟩ fun t' k' => ?_
      · rw [decide_eq_false (by omega), decide_eq_false (by omega)]; rfl
      · rw [str_length]
        have hk : (x.length : Int) * k ≤ 16777216 := by
          have : ((x.length * k.toNat : Nat) : Int) ≤ (line : Int) := by exact_mod_cast k3
          rw [Int.natCast_mul, Int.toNat_of_nonneg (by omega)] at this
          exact this
        intro hgt
        have h3 : (2 ^ 63 - 1) / k ≤ (x.length : Int) - 1 := by omega
        have h4 : (2 ^ 63 - 1 : Int) < k * ((2 ^ 63 - 1) / k + 1) := by
          have := Int.lt_mul_ediv_self_add (x := (2 ^ 63 - 1 : Int)) (k := k) (by omega)
          rw [Int.mul_add, Int.mul_one]
          exact this
        have h5 : k * ((2 ^ 63 - 1) / k + 1) ≤ k * (x.length : Int) := Int.mul_le_mul_of_nonneg_left (by omega) (by omega)
        rw [Int.mul_comm] at hk
        omega
      · rw [str_length]
        show decide (_ > sizeLine) = false
        exact decide_eq_false (by rw [← line_eq]; omega)
      · rw [txt_mul]
        exact ⟨.str _, H, I.tok _, ⟨_, rfl⟩, q H _ (Same.refl H) (.str _ (okCp_rep o1 _))⟩
    · cases e
theorem ob_fdiv : OpR X (binaryOp .FloorDiv) (rBin X.K .fdiv) := by
  intro pins s σ H x y v u Q I rx ry hq
  obtain ⟨da, db, d, ia, ib, e, q⟩ := hq
  cases da <;> cases db <;> simp only [binD, reduceCtorEq] at e
  rename_i i j
  split at e
  · rename_i hl
    cases e
    simp only [Bool.and_eq_true, decide_eq_true_eq, lo62_iff, hi62_iff, lo63_iff, hi63_iff, hi30_iff, hiP_iff, hi24_iff, b64_iff] at hl
    obtain rfl := ia.int
    obtain rfl := ib.int
    exact op_fdiv pins s σ H _ _ v u Q I rx ry ⟨i, j, rfl, rfl, hl, q H _ (Same.refl H) (.int _)⟩
  · cases e
theorem ob_mod : OpR X (binaryOp .Mod) (rBin X.K .mod) := by
  intro pins s σ H x y v u Q I rx ry hq
  obtain ⟨da, db, d, ia, ib, e, q⟩ := hq
  cases da <;> cases db <;> simp only [binD, reduceCtorEq] at e
  rename_i i j
  split at e
  · rename_i hl
    cases e
    obtain rfl := ia.int
    obtain rfl := ib.int
    exact op_mod pins s σ H _ _ v u Q I rx ry ⟨i, j, rfl, rfl, hl, q H _ (Same.refl H) (.int _)⟩
  · cases e
theorem ob_pow : OpR X (binaryOp .Pow) (rBin X.K .pow) := by
  intro pins s σ H x y v u Q I rx ry hq
  obtain ⟨da, db, d, ia, ib, e, q⟩ := hq
  cases da <;> cases db <;> simp only [binD, reduceCtorEq] at e
  rename_i i j
  split at e
  · rename_i hl
    cases e
    simp only [Bool.and_eq_true, decide_eq_true_eq, lo62_iff, hi62_iff, lo63_iff, hi63_iff, hi30_iff, hiP_iff, hi24_iff, b64_iff] at hl
    obtain rfl := ia.int
    obtain rfl := ib.int
    exact op_pow pins s σ H _ _ v u Q I rx ry ⟨i, j, rfl, rfl, ⟨hl.1.1, hl.1.2, by have := hl.2; omega⟩, q H _ (Same.refl H) (.int _)⟩
  · cases e
theorem is_reads {pins : List (Addr × Obj)} {σ : L2.St} {H : Hp} {s : Shared} {d : D} {x : V} {v : Value} (I : Inv X pins σ H s) (i : Is X.K H d x) (hf : flat d = true) (rx : RelV x v) : ∃ as, Reads s.heap v (py d) as :=
  Dp.reads I (py d) x v (i.dp hf) rx
theorem shp_flat {d : D} (h : shp d = true) : flat d = true := by simp only [shp, Bool.and_eq_true] at h; exact h.1
theorem shp_dep {d : D} (h : shp d = true) : dep d ≤ 64 := by simp only [shp, Bool.and_eq_true, decide_eq_true_eq] at h; exact h.2
theorem oc_eq (hu : X.A.units + 65 < cLine) : OpR X (compareOp .Eq) (rBin X.K .eq) := by
  intro pins s σ H x y v u Q I rx ry hq
  obtain ⟨da, db, d, ia, ib, e, q⟩ := hq
  simp only [binD] at e
  split at e
  · rename_i hs
    cases e
    simp only [Bool.and_eq_true] at hs
    exact op_eqD (by omega) pins s σ H x y v u Q I rx ry ⟨py da, py db, ia.dp (shp_flat hs.1), ib.dp (shp_flat hs.2), ia.shaped hs.1, ib.shaped hs.2, by rw [py_eqv _ _ (shp_flat hs.1) (shp_flat hs.2)]; exact q H _ (Same.refl H) (.bl _)⟩
  · cases e
theorem oc_ne (hu : X.A.units + 65 < cLine) : OpR X (compareOp .NotEq) (rBin X.K .ne) := by
  intro pins s σ H x y v u Q I rx ry hq
  obtain ⟨da, db, d, ia, ib, e, q⟩ := hq
  simp only [binD] at e
  split at e
  · rename_i hs
    cases e
    simp only [Bool.and_eq_true] at hs
    exact op_neD (by omega) pins s σ H x y v u Q I rx ry ⟨py da, py db, ia.dp (shp_flat hs.1), ib.dp (shp_flat hs.2), ia.shaped hs.1, ib.shaped hs.2, by rw [py_eqv _ _ (shp_flat hs.1) (shp_flat hs.2)]; exact q H _ (Same.refl H) (.bl _)⟩
  · cases e
theorem cmp_of {da db : D} (h : cmpOk da db = true) : PySem.W.alike (py da) (py db) = true ∧ shp da = true ∧ shp db = true ∧ py da ≠ .none := by
  unfold cmpOk alk at h
  simp only [Bool.and_eq_true] at h
  refine ⟨h.1.1.1, h.1.1.2, h.1.2, ?_⟩
  have hf := shp_flat h.1.1.2
  cases da <;> simp_all [py, flat]
theorem oc_lt (hu : X.A.units + 65 < cLine) : OpR X (compareOp .Lt) (rBin X.K .lt) := by
  intro pins s σ H x y v u Q I rx ry hq
  obtain ⟨da, db, d, ia, ib, e, q⟩ := hq
  simp only [binD] at e
  split at e
  · rename_i hs
    cases e
    obtain ⟨h1, h2, h3, h4⟩ := cmp_of hs
    obtain ⟨as, r1⟩ := is_reads I ia (shp_flat h2) rx
    obtain ⟨bs, r2⟩ := is_reads I ib (shp_flat h3) ry
    have := shp_dep h2
    exact PySem.W.lt_data r1 r2 h1 h4 (by rw [py_depth, py_depth]; omega) ⟨.bl _, H, I, rfl, q H _ (Same.refl H) (.bl _)⟩
  · cases e
theorem oc_gt (hu : X.A.units + 65 < cLine) : OpR X (compareOp .Gt) (rBin X.K .gt) := by
  intro pins s σ H x y v u Q I rx ry hq
  obtain ⟨da, db, d, ia, ib, e, q⟩ := hq
  simp only [binD] at e
  split at e
  · rename_i hs
    cases e
    obtain ⟨h1, h2, h3, h4⟩ := cmp_of hs
    obtain ⟨as, r1⟩ := is_reads I ia (shp_flat h2) rx
    obtain ⟨bs, r2⟩ := is_reads I ib (shp_flat h3) ry
    have := shp_dep h2
    exact PySem.W.gt_data r1 r2 h1 h4 (by rw [py_depth, py_depth]; omega) ⟨.bl _, H, I, rfl, q H _ (Same.refl H) (.bl _)⟩
  · cases e
theorem oc_le (hu : X.A.units + 65 < cLine) : OpR X (compareOp .LtE) (rBin X.K .le) := by
  intro pins s σ H x y v u Q I rx ry hq
  obtain ⟨da, db, d, ia, ib, e, q⟩ := hq
  simp only [binD] at e
  split at e
  · rename_i hs
    cases e
    obtain ⟨h1, h2, h3, h4⟩ := cmp_of hs
    obtain ⟨as, r1⟩ := is_reads I ia (shp_flat h2) rx
    obtain ⟨bs, r2⟩ := is_reads I ib (shp_flat h3) ry
    have := shp_dep h2
    exact PySem.W.le_data r1 r2 h1 h4 (by rw [py_depth, py_depth]; omega) ⟨.bl _, H, I, rfl, q H _ (Same.refl H) (.bl _)⟩
  · cases e
theorem oc_ge (hu : X.A.units + 65 < cLine) : OpR X (compareOp .GtE) (rBin X.K .ge) := by
  intro pins s σ H x y v u Q I rx ry hq
  obtain ⟨da, db, d, ia, ib, e, q⟩ := hq
  simp only [binD] at e
  split at e
  · rename_i hs
    cases e
    obtain ⟨h1, h2, h3, h4⟩ := cmp_of hs
    obtain ⟨as, r1⟩ := is_reads I ia (shp_flat h2) rx
    obtain ⟨bs, r2⟩ := is_reads I ib (shp_flat h3) ry
    have := shp_dep h2
    exact PySem.W.ge_data r1 r2 h1 h4 (by rw [py_depth, py_depth]; omega) ⟨.bl _, H, I, rfl, q H _ (Same.refl H) (.bl _)⟩
  · cases e
theorem oc_is : OpR X (compareOp .Is) (rBin X.K .is) := by
  intro pins s σ H x y v u Q I rx ry hq
  obtain ⟨da, db, d, ia, ib, e, q⟩ := hq
  cases db with
  | non =>
    have e' : d = .bl (isNon da) := by cases da <;> (simp only [binD, isNon, Option.some.injEq] at e ⊢; exact e.symm)
    subst e'
    obtain rfl := ib.non
    exact op_isN pins s σ H _ _ v u Q I rx ry ⟨rfl, by rw [ia.none_iff]; exact q H _ (Same.refl H) (.bl _)⟩
  | bl b =>
    cases da <;> simp only [binD, reduceCtorEq] at e
    rename_i a
    cases e
    obtain rfl := ia.bl
    obtain rfl := ib.bl
    exact op_isBl pins s σ H _ _ v u Q I rx ry ⟨a, b, rfl, rfl, q H _ (Same.refl H) (.bl _)⟩
  | _ => cases da <;> simp [binD] at e
theorem oc_isnot : OpR X (compareOp .IsNot) (rBin X.K .isnot) := by
  intro pins s σ H x y v u Q I rx ry hq
  obtain ⟨da, db, d, ia, ib, e, q⟩ := hq
  cases db with
  | non =>
    have e' : d = .bl (!isNon da) := by cases da <;> (simp only [binD, isNon, Option.some.injEq, Bool.not_true, Bool.not_false] at e ⊢; exact e.symm)
    subst e'
    obtain rfl := ib.non
    exact op_notN pins s σ H _ _ v u Q I rx ry ⟨rfl, by rw [ia.none_iff]; exact q H _ (Same.refl H) (.bl _)⟩
  | bl b =>
    cases da <;> simp only [binD, reduceCtorEq] at e
    rename_i a
    cases e
    obtain rfl := ia.bl
    obtain rfl := ib.bl
    exact op_notBl pins s σ H _ _ v u Q I rx ry ⟨a, b, rfl, rfl, q H _ (Same.refl H) (.bl _)⟩
  | _ => cases da <;> simp [binD] at e
theorem any_py (x : D) (hx : flat x = true) : ∀ ys : List D, flatL ys = true → ((pyL ys).any fun z => PyData.eqv z (py x)) = ys.any fun y => eqD y x
  | [], _ => by simp [pyL]
  | y :: ys, hf => by
    simp only [flatL, Bool.and_eq_true] at hf
    simp only [pyL, List.any_cons, py_eqv y x hf.1 hx, any_py x hx ys hf.2]
theorem in_len (x y : List Nat) : (!(Builtin.Str.occurrences ⟨y.toArray⟩ ⟨x.toArray⟩ 0 (Str.length ⟨y.toArray⟩) 1).isEmpty) = inS x y := by
  unfold inS; rw [str_length]
theorem oc_mem (hu : X.A.units + 65 < cLine) : OpR X (compareOp .In) (rBin X.K .mem) := by
  intro pins s σ H x y v u Q I rx ry hq
  obtain ⟨da, db, d, ia, ib, e, q⟩ := hq
  cases db with
  | str t =>
    cases da <;> simp only [binD, reduceCtorEq] at e
    cases e
    obtain ⟨rfl, o1⟩ := ia.str
    obtain ⟨rfl, o2⟩ := ib.str
    exact op_in_str pins s σ H _ _ v u Q I rx ry ⟨_, _, rfl, rfl, by rw [in_len]; exact q H _ (Same.refl H) (.bl _)⟩
  | lst ys =>
    have e' : (shp da && shp (.lst ys)) = true ∧ d = .bl (ys.any fun y => eqD y da) := by
      cases da <;> simp only [binD] at e <;> (split at e <;> simp_all)
    obtain ⟨hs, rfl⟩ := e'
    simp only [Bool.and_eq_true] at hs
    obtain ⟨a, vs, rfl, h1, r1⟩ := ib.sq
    have hfl : flatL ys = true := by have := shp_flat hs.2; simpa [flat] using this
    exact op_inD hu pins s σ H _ _ v u Q I rx ry ⟨py da, pyL ys, ia.dp (shp_flat hs.1), .lst (.inl h1) (r1.dp hfl), ia.shaped hs.1, by have := ib.shaped hs.2; simpa only [py] using this, by rw [any_py da (shp_flat hs.1) ys hfl]; exact q H _ (Same.refl H) (.bl _)⟩
  | tup ys =>
    have e' : (shp da && shp (.tup ys)) = true ∧ d = .bl (ys.any fun y => eqD y da) := by
      cases da <;> simp only [binD] at e <;> (split at e <;> simp_all)
    obtain ⟨hs, rfl⟩ := e'
    simp only [Bool.and_eq_true] at hs
    have hfl : flatL ys = true := by have := shp_flat hs.2; simpa [flat] using this
    obtain ⟨as, r1⟩ := is_reads I ia (shp_flat hs.1) rx
    obtain ⟨bs, r2⟩ := is_reads I ib (shp_flat hs.2) ry
    have hsh := ib.shaped hs.2
    simp only [py] at r2 hsh
    refine SeqAt.in_tuple_reads r2 r1 ?_ (ia.lay (shp_flat hs.1)) (room_in_shaped (ia.shaped hs.1) hu) ?_
    · have := ib.lay (shp_flat hs.2); simpa only [py, PyData.canLay0] using this
    · rw [any_py da (shp_flat hs.1) ys hfl]; exact ⟨.bl _, H, I, rfl, q H _ (Same.refl H) (.bl _)⟩
  | _ => cases da <;> simp [binD] at e
theorem oc_nmem (hu : X.A.units + 65 < cLine) : OpR X (compareOp .NotIn) (rBin X.K .nmem) := by
  intro pins s σ H x y v u Q I rx ry hq
  obtain ⟨da, db, d, ia, ib, e, q⟩ := hq
  cases db with
  | str t =>
    cases da <;> simp only [binD, reduceCtorEq] at e
    cases e
    obtain ⟨rfl, o1⟩ := ia.str
    obtain ⟨rfl, o2⟩ := ib.str
    exact op_notin_str pins s σ H _ _ v u Q I rx ry ⟨_, _, rfl, rfl, by rw [in_len]; exact q H _ (Same.refl H) (.bl _)⟩
  | lst ys =>
    have e' : (shp da && shp (.lst ys)) = true ∧ d = .bl (!ys.any fun y => eqD y da) := by
      cases da <;> simp only [binD] at e <;> (split at e <;> simp_all)
    obtain ⟨hs, rfl⟩ := e'
    simp only [Bool.and_eq_true] at hs
    obtain ⟨a, vs, rfl, h1, r1⟩ := ib.sq
    have hfl : flatL ys = true := by have := shp_flat hs.2; simpa [flat] using this
    exact op_notInD hu pins s σ H _ _ v u Q I rx ry ⟨py da, pyL ys, ia.dp (shp_flat hs.1), .lst (.inl h1) (r1.dp hfl), ia.shaped hs.1, by have := ib.shaped hs.2; simpa only [py] using this, by rw [any_py da (shp_flat hs.1) ys hfl]; exact q H _ (Same.refl H) (.bl _)⟩
  | tup ys =>
    have e' : (shp da && shp (.tup ys)) = true ∧ d = .bl (!ys.any fun y => eqD y da) := by
      cases da <;> simp only [binD] at e <;> (split at e <;> simp_all)
    obtain ⟨hs, rfl⟩ := e'
    simp only [Bool.and_eq_true] at hs
    have hfl : flatL ys = true := by have := shp_flat hs.2; simpa [flat] using this
    obtain ⟨as, r1⟩ := is_reads I ia (shp_flat hs.1) rx
    obtain ⟨bs, r2⟩ := is_reads I ib (shp_flat hs.2) ry
    have hsh := ib.shaped hs.2
    simp only [py] at r2 hsh
    refine SeqAt.notIn_tuple_reads r2 r1 ?_ (ia.lay (shp_flat hs.1)) (room_in_shaped (ia.shaped hs.1) hu) ?_
    · have := ib.lay (shp_flat hs.2); simpa only [py, PyData.canLay0] using this
    · rw [any_py da (shp_flat hs.1) ys hfl]; exact ⟨.bl _, H, I, rfl, q H _ (Same.refl H) (.bl _)⟩
  | _ => cases da <;> simp [binD] at e
end
end Sh

/-! subscripts, slices, built-in functions, isinstance -/
namespace Sh
open PySem PySem.Spec PyProof.Rows L2

section
variable {K : PySem.W.Frag} {H H' : Hp} {ι ι' : List Addr} {h : DH}
theorem atI_rep {ds : List D} {vs : List V} {i : Int} {d : D} (r : RepL K H ds vs) (e : atI ds i = some d) : ∃ v, atI vs i = some v ∧ Rep K H d v := by
  unfold atI at *
  simp only [Option.bind_eq_some_iff] at e
  obtain ⟨j, h1, h2⟩ := e
  obtain ⟨v, h3, h4⟩ := r.get h2
  exact ⟨v, by rw [← r.length, h1]; exact h3, h4⟩
theorem atI_repW {ds : List W} {vs : List V} {i : Int} {d : W} (r : RepWL K ι H ds vs) (e : atI ds i = some d) : ∃ v, atI vs i = some v ∧ RepW K ι H d v := by
  unfold atI at *
  simp only [Option.bind_eq_some_iff] at e
  obtain ⟨j, h1, h2⟩ := e
  obtain ⟨v, h3, h4⟩ := r.get h2
  exact ⟨v, by rw [← r.length, h1]; exact h3, h4⟩
theorem atI_mem {α : Type} {xs : List α} {i : Int} {x : α} (e : atI xs i = some x) : x ∈ xs := by
  unfold atI at e
  simp only [Option.bind_eq_some_iff] at e
  obtain ⟨j, _, h2⟩ := e
  exact List.mem_of_getElem? h2
theorem RepL.cut {ds : List D} {vs : List V} (r : RepL K H ds vs) (lo hi : Option Int) : RepL K H (cutL ds lo hi) (cutV vs lo hi) := by
  unfold cutL cutV
  rw [r.length]
  exact (r.drop _).take _
end

/-- x[i] by data -/
def rIxW (K : PySem.W.Frag) : R2 := fun x y H Q => ∃ ι h a b w, SR K ι H h ∧ RepW K ι H a x ∧ RepW K ι H b y ∧ ixW h a b = some w ∧ Post K ι H w h Q
section
variable {X : Cx}
theorem ixr : IxR X (rIxW X.K) := by
  intro value slice pins s σ H x y v u Q I rx ry hq hs
  obtain ⟨ι, h, a, b, w, sr, ra, rb, e, q⟩ := hq
  cases ra with
  | @d dx _ ra =>
    cases rb with
    | @ref n c hn => simp [ixW] at e
    | @d dy _ rb =>
      simp only [ixW, Option.map_eq_some_iff] at e
      obtain ⟨d, e, rfl⟩ := e
      cases rb <;> cases ra <;> simp only [ixD, reduceCtorEq] at e
      · rename_i i s' ho
        split at e
        · rename_i hl
          simp only [Option.map_eq_some_iff] at e
          obtain ⟨c, e, rfl⟩ := e
          refine ix_str value slice pins s σ H _ _ v u Q I rx ry ⟨_, i, c, rfl, rfl, by rw [str_length, ← line_eq]; exact hl, by simpa using e, ?_⟩ hs
          refine q.now sr (.d (.str [c] ?_))
          have hm := atI_mem e
          unfold okCp at ho ⊢
          simp only [List.all_eq_true] at ho
          simp only [List.all_cons, List.all_nil, Bool.and_true]
          exact ho c hm
        · cases e
      · rename_i i a vs ds hq' r
        obtain ⟨v', h1, h2⟩ := atI_rep r e
        exact ix_tup value slice pins s σ H _ _ v u Q I rx ry ⟨a, vs, i, v', rfl, rfl, hq', h1, q.now sr (.d h2)⟩ hs
      · rename_i i a vs ds hq' r
        obtain ⟨v', h1, h2⟩ := atI_rep r e
        exact ix_list value slice pins s σ H _ _ v u Q I rx ry ⟨a, vs, i, v', rfl, rfl, hq'.sql, h1, q.now sr (.d h2)⟩ hs
  | @ref n a hn =>
    cases rb with
    | @ref n c hn => simp [ixW] at e
    | @d dy _ rb =>
      cases rb <;> simp only [ixW, reduceCtorEq] at e
      rename_i i
      split at e
      · rename_i ws hc
        obtain ⟨vs, hv, r⟩ := sr.cell n _ a hc hn
        obtain ⟨v', h1, h2⟩ := atI_repW r e
        exact ix_list value slice pins s σ H _ _ v u Q I rx ry ⟨a, vs, i, v', rfl, rfl, .inl (.inl hv), h1, q.now sr h2⟩ hs
      · cases e

/-- x[lo:hi] by data -/
def rSlD (K : PySem.W.Frag) : V → Option Int → Option Int → Hp → VK → Prop := fun x lo hi H Q => ∃ da d, Is K H da x ∧ slD da lo hi = some d ∧ ∀ H' v, Same H H' → Rep K H' d v → Q v H'
theorem slr : SlR X (rSlD X.K) := by
  intro pins s σ H x v vl vu lo hi sl Q I rx hs pl pu hq
  obtain ⟨da, d, ia, e, q⟩ := hq
  cases da <;> simp only [slD, reduceCtorEq, Option.some.injEq] at e
  · rename_i xs
    subst e
    obtain ⟨a, vs, rfl, h1, r1⟩ := ia.tup
    refine sl_tupA pins s σ H _ v vl vu lo hi sl Q I rx hs pl pu ⟨a, vs, rfl, h1, fun hw => ?_, fun _ p hp => ?_⟩
    · refine q H _ (Same.refl H) (.tup h1 ?_)
      have e : cutV vs lo hi = vs := by unfold cutV; rw [hw.1, hw.2]; simp
      have := r1.cut lo hi
      rw [e] at this
      exact this
    · exact q _ _ (same_upd hp) (.mkt hp (r1.cut lo hi))
  · rename_i xs
    subst e
    obtain ⟨a, vs, rfl, h1, r1⟩ := ia.sq
    obtain ⟨T, id, t1, t2, t3⟩ := sl_list pins s σ H _ v vl vu lo hi sl (fun v H' => ∃ p vs, v = .ref p ∧ H' p = some (.lst vs) ∧ ∀ o, Q v (upd H' p (.frz o (.lst vs)))) I rx hs pl pu
      ⟨a, vs, rfl, .inl h1, fun p hp => ⟨p, _, rfl, upd_same, fun o => by rw [upd_upd]; exact q _ _ (same_upd hp) (.mkl hp (r1.cut lo hi))⟩⟩
    exact ⟨T, id, t1, t2, thn t3 fun _ _ => EP.frz⟩

/-- a list of data -/
inductive IsL (K : PySem.W.Frag) (H : Hp) : List D → List V → Prop
  | nil : IsL K H [] []
  | cons {d : D} {v : V} {ds : List D} {vs : List V} : Is K H d v → IsL K H ds vs → IsL K H (d :: ds) (v :: vs)
/-- a built-in function by data -/
def rBif (K : PySem.W.Frag) (b : Bif) : List V → Hp → VK → Prop := fun xs H Q => ∃ ds d, IsL K H ds xs ∧ bifD b ds = some d ∧ ∀ H' v, Same H H' → Rep K H' d v → Q v H'
theorem blsD_eq : ∀ {ds : List D} {bs : List Bool}, blsD ds = some bs → ds = bs.map D.bl
  | [], _, e => by simp [blsD] at e; subst e; rfl
  | .bl b :: r, _, e => by
    simp only [blsD, Option.map_eq_some_iff] at e
    obtain ⟨bs, h, rfl⟩ := e
    rw [blsD_eq h]; rfl
  | .non :: _, _, e => by simp [blsD] at e
  | .int _ :: _, _, e => by simp [blsD] at e
  | .str _ :: _, _, e => by simp [blsD] at e
  | .tup _ :: _, _, e => by simp [blsD] at e
  | .lst _ :: _, _, e => by simp [blsD] at e
  | .dct _ _ :: _, _, e => by simp [blsD] at e
  | .scr _ :: _, _, e => by simp [blsD] at e
theorem intsD_eq : ∀ {ds : List D} {bs : List Int}, intsD ds = some bs → ds = bs.map D.int
  | [], _, e => by simp [intsD] at e; subst e; rfl
  | .int b :: r, _, e => by
    simp only [intsD, Option.map_eq_some_iff] at e
    obtain ⟨bs, h, rfl⟩ := e
    rw [intsD_eq h]; rfl
  | .non :: _, _, e => by simp [intsD] at e
  | .bl _ :: _, _, e => by simp [intsD] at e
  | .str _ :: _, _, e => by simp [intsD] at e
  | .tup _ :: _, _, e => by simp [intsD] at e
  | .lst _ :: _, _, e => by simp [intsD] at e
  | .dct _ _ :: _, _, e => by simp [intsD] at e
  | .scr _ :: _, _, e => by simp [intsD] at e
def bifV : Bif → Value
  | .len => .builtin "len"
  | .abs => .builtin "abs"
  | .int1 => .type "int"
  | .tuple => .type "tuple"
  | .all => .builtin "all"
  | .any => .builtin "any"
  | .sum => .builtin "sum"
  | .min2 => .builtin "min"
  | .max2 => .builtin "max"
  | .gcd => .builtin "math.gcd"
  | .str1 => .type "str"
theorem isl1 {K : PySem.W.Frag} {H : Hp} {d : D} {xs : List V} (r : IsL K H [d] xs) : ∃ v, xs = [v] ∧ Is K H d v := by
  cases r with | cons a b => cases b; exact ⟨_, rfl, a⟩
theorem isl2 {K : PySem.W.Frag} {H : Hp} {d e : D} {xs : List V} (r : IsL K H [d, e] xs) : ∃ v u, xs = [v, u] ∧ Is K H d v ∧ Is K H e u := by
  cases r with | cons a b => cases b with | cons b c => cases c; exact ⟨_, _, rfl, a, b⟩
theorem bifR (hc : X.calm = true) (b : Bif) : CallR X (bifV b) (rBif X.K b) := by
  intro pins s σ H xs us Q I rs hq
  obtain ⟨ds, d, il, e, q⟩ := hq
  unfold bifD at e
  split at e <;> (try simp only [Option.some.injEq, Option.map_eq_some_iff, reduceCtorEq] at e)
  · subst e
    obtain ⟨v, rfl, i⟩ := isl1 il
    obtain ⟨a, vs, rfl, h1, r1⟩ := i.sq
    exact call_len_seq pins s σ H _ us Q I rs ⟨a, vs, rfl, .inl (.inl h1), by rw [← r1.length]; exact q H _ (Same.refl H) (.int _)⟩
  · subst e
    obtain ⟨v, rfl, i⟩ := isl1 il
    obtain ⟨a, vs, rfl, h1, r1⟩ := i.tup
    exact call_len_seq pins s σ H _ us Q I rs ⟨a, vs, rfl, .inr h1, by rw [← r1.length]; exact q H _ (Same.refl H) (.int _)⟩
  · split at e
    · rename_i hl
      cases e
      obtain ⟨v, rfl, i⟩ := isl1 il
      obtain ⟨rfl, o1⟩ := i.str
      exact call_len_str pins s σ H _ us Q I rs ⟨_, rfl, by rw [str_length, ← line_eq]; exact hl, by rw [str_length]; exact q H _ (Same.refl H) (.int _)⟩
    · cases e
  · subst e
    obtain ⟨v, rfl, i⟩ := isl1 il
    obtain rfl := i.int
    exact call_abs pins s σ H _ us Q I rs ⟨_, rfl, q H _ (Same.refl H) (.int _)⟩
  · subst e
    obtain ⟨v, rfl, i⟩ := isl1 il
    obtain rfl := i.int
    exact call_int1 pins s σ H _ us Q I rs (.inl ⟨_, rfl, q H _ (Same.refl H) (.int _)⟩)
  · subst e
    obtain ⟨v, rfl, i⟩ := isl1 il
    obtain rfl := i.bl
    exact call_int1 pins s σ H _ us Q I rs (.inr ⟨_, rfl, q H _ (Same.refl H) (.int _)⟩)
  · subst e
    obtain ⟨v, rfl, i⟩ := isl1 il
    obtain ⟨a, vs, rfl, h1, r1⟩ := i.tup
    exact call_tuple_of pins s σ H _ us Q I rs ⟨a, vs, rfl, .inr ⟨h1, q H _ (Same.refl H) (.tup h1 r1)⟩⟩
  · subst e
    obtain ⟨v, rfl, i⟩ := isl1 il
    obtain ⟨a, vs, rfl, h1, r1⟩ := i.sq
    exact call_tuple_of pins s σ H _ us Q I rs ⟨a, vs, rfl, .inl ⟨.inl h1, fun l hl => q _ _ (same_upd hl) (.mkt hl r1)⟩⟩
  · obtain ⟨bs, hb, rfl⟩ := e
    obtain ⟨v, rfl, i⟩ := isl1 il
    obtain ⟨a, vs, rfl, h1, r1⟩ := i.sq
    rw [blsD_eq hb] at r1
    rw [r1.bls] at h1
    exact cr_all hc pins s σ H _ us Q I rs ⟨a, bs, rfl, .inl h1, q H _ (Same.refl H) (.bl _)⟩
  · obtain ⟨bs, hb, rfl⟩ := e
    obtain ⟨v, rfl, i⟩ := isl1 il
    obtain ⟨a, vs, rfl, h1, r1⟩ := i.sq
    rw [blsD_eq hb] at r1
    rw [r1.bls] at h1
    exact cr_any hc pins s σ H _ us Q I rs ⟨a, bs, rfl, .inl h1, q H _ (Same.refl H) (.bl _)⟩
  · obtain ⟨bs, hb, rfl⟩ := e
    obtain ⟨v, rfl, i⟩ := isl1 il
    obtain ⟨a, vs, rfl, h1, r1⟩ := i.sq
    rw [intsD_eq hb] at r1
    rw [r1.ints] at h1
    exact cr_sum hc pins s σ H _ us Q I rs ⟨a, bs, rfl, .inl h1, q H _ (Same.refl H) (.int _)⟩
  · subst e
    obtain ⟨v, u, rfl, i1, i2⟩ := isl2 il
    obtain rfl := i1.int
    obtain rfl := i2.int
    exact call_min2 hc pins s σ H _ us Q I rs ⟨_, _, rfl, q H _ (Same.refl H) (.int _)⟩
  · subst e
    obtain ⟨v, u, rfl, i1, i2⟩ := isl2 il
    obtain rfl := i1.int
    obtain rfl := i2.int
    exact call_max2 hc pins s σ H _ us Q I rs ⟨_, _, rfl, q H _ (Same.refl H) (.int _)⟩
  · subst e
    obtain ⟨v, rfl, i⟩ := isl1 il
    obtain ⟨rfl, o1⟩ := i.str
    exact SkE.call_str_str pins s σ H _ us Q I rs ⟨_, rfl, q H _ (Same.refl H) (.str _ o1)⟩
  · subst e
    obtain ⟨v, u, rfl, i1, i2⟩ := isl2 il
    obtain rfl := i1.int
    obtain rfl := i2.int
    exact cr_gcd pins s σ H _ us Q I rs ⟨_, _, rfl, q H _ (Same.refl H) (.int _)⟩

/-- isinstance -/
def tyS : Ty → String
  | .int => "int" | .bool => "bool" | .str => "str" | .tuple => "tuple" | .list => "list"
theorem kit_all (d : D) (t : Ty) (n : String) (h : dTy d = some n) : kitB n (tyS t) = some (isD d t) := by
  cases d <;> cases t <;> simp only [dTy, Option.some.injEq, reduceCtorEq] at h <;> subst h <;> simp only [isD, tyS] <;> decide +kernel
theorem rep_ty {K : PySem.W.Frag} {H : Hp} {d : D} {v : V} {n : String} (r : Is K H d v) (h : dTy d = some n) : TyX K H v (.type n) := by
  cases r with
  | rep r =>
    cases r <;> simp only [dTy, Option.some.injEq, reduceCtorEq] at h <;> subst h
    · exact .base .non
    · exact .base (.bl _)
    · exact .base (.int _)
    · exact .base (.str _)
    · rename_i q r
      rcases q with (q | ⟨o, q⟩) | ⟨o, its, m, h1, h2, _⟩
      · exact .base (.tup q)
      · exact .fTuple q
      · exact .kTuple h1 h2
    · rename_i q r
      obtain ⟨o, q⟩ := q
      exact .base (.frz q)
  | lst q r =>
    simp only [dTy, Option.some.injEq] at h
    subst h
    exact .base (.lst q)
def rIsD (K : PySem.W.Frag) (t : Ty) : List V → Hp → VK → Prop := fun xs H Q => ∃ x d n, xs = [x, .ty (tyS t)] ∧ Is K H d x ∧ dTy d = some n ∧ Q (.bl (isD d t)) H
theorem isiR (t : Ty) : CallR X (.builtin "isinstance") (rIsD X.K t) := by
  intro pins s σ H xs us Q I rs hq
  obtain ⟨x, d, n, rfl, i, h, q⟩ := hq
  exact call_isi pins s σ H _ us Q I rs ⟨x, _, _, _, _, rfl, .ty _, rep_ty i h, kit_ty (kit_all d t n h), q⟩
end
end Sh

/-! which Python text is which term of the small language -/
namespace Sh
open PySem PySem.Spec PyProof.Rows L2

structure Cf where
  N : List Str
  fns : List Str
  cons : List Str
  /-- gcd is math's -/
  gcd : Bool := false
def visB (sc : Scope) (x : Str) : Bool := decide (sc.names.lookup x = some .local) || decide (sc.names.lookup x = some .cell) || decide (sc.names.lookup x = some .free)
def locB (sc : Scope) (x : Str) : Bool := decide (sc.names.lookup x = some .local) || decide (sc.names.lookup x = some .cell)
def glB (sc : Scope) (x : Str) : Bool := decide (sc.names.lookup x = some .globalImplicit)
def okN (x : Str) : Bool := !(x == ("__debug__" : Str)) && !(x == ("__classdict__" : Str)) && decide (x ≠ "__name__")
def bopO : Operator → Option Bop
  | .Add => some .add | .Sub => some .sub | .Mult => some .mul | .FloorDiv => some .fdiv | .Mod => some .mod | .Pow => some .pow
  | _ => none
def bopC : CmpOp → Option Bop
  | .Eq => some .eq | .NotEq => some .ne | .Lt => some .lt | .LtE => some .le | .Gt => some .gt | .GtE => some .ge
  | .Is => some .is | .IsNot => some .isnot | .In => some .mem | .NotIn => some .nmem
def notSet : Expr → Bool
  | .Set .. => false
  | _ => true
def notSlice : Expr → Bool
  | .Slice .. => false
  | _ => true
def notStar : Expr → Bool
  | .Starred .. => false
  | _ => true
def noStar : List Expr → Bool
  | [] => true
  | e :: r => notStar e && noStar r
def litB : Const → D → Bool
  | .none, .non => true
  | .bool a, .bl b => a == b
  | .int i, .int j => decide (i = j)
  | .str x, .str s => decide (x = ⟨s.toArray⟩) && okCp s
  | _, _ => false
def bifN : Bif → Str
  | .len => "len" | .abs => "abs" | .int1 => "int" | .tuple => "tuple" | .all => "all" | .any => "any" | .sum => "sum" | .min2 => "min" | .max2 => "max" | .gcd => "gcd" | .str1 => "str"
def tyN : Ty → Str
  | .int => "int" | .bool => "bool" | .str => "str" | .tuple => "tuple" | .list => "list"
/-- the names of the built-in things that the small language uses -/
def bltNames : List Str := ["len", "abs", "int", "tuple", "all", "any", "sum", "min", "max", "str", "bool", "list", "isinstance", "range", "enumerate", "zip"]
def patB (cf : Cf) (sc : Scope) : Pat → Expr → Bool
  | .nm i, .Name x _ => decide (cf.N[i]? = some x) && locB sc x
  | .tup is, .Tuple es _ _ => go is es
  | .two i is, .Tuple [.Name x _, .Tuple es _ _] _ _ => decide (cf.N[i]? = some x) && locB sc x && go is es
  | _, _ => false
where go : List Nat → List Expr → Bool
  | [], [] => true
  | i :: is, .Name x _ :: es => decide (cf.N[i]? = some x) && locB sc x && go is es
  | _, _ => false
/-- what is a value of its own (not only something to walk) -/
def isVal : E → Bool
  | .rng _ => false
  | .enum _ => false
  | .zip _ _ => false
  | _ => true
/-- a test whose truth is its value's -/
def tst : Expr → Bool
  | .IfExp .. => false
  | _ => true
/-- what is walked and a target go together -/
def tgB : E → Expr → Bool
  | .enum _, .Tuple .. => true
  | .enum _, _ => false
  | .zip _ _, .Tuple .. => true
  | .zip _ _, _ => false
  | _, _ => true
/-- the places of a block's own names -/
def ownOf (cf : Cf) (own : List Nat) : List (Str × Nat) := own.filterMap fun i => (cf.N[i]?).map fun x => (x, i)
def ownB (cf : Cf) (sc scope : Scope) (own : List Nat) (vars : List Nat) : Bool :=
  blkC cf.N sc scope (ownOf cf own) && decide ((ownOf cf own).map (·.2) = own) && vars.all fun i => decide (i ∈ own)
mutual
def mE (cf : Cf) : E → Scope → Expr → Bool
  | .var i, sc, e => match e with
    | .Name x _ => decide (cf.N[i]? = some x) && visB sc x && okN x
    | _ => false
  | .lit d, _, e => match e with
    | .Constant c _ _ => litB c d
    | _ => false
  | .con g, sc, e => match e with
    | .Name x _ => decide (cf.cons[g]? = some x) && glB sc x && okN x
    | _ => false
  | .bin o a b, sc, e => match e with
    | .BinOp l op r _ => decide (bopO op = some o) && isVal a && isVal b && mE cf a sc l && mE cf b sc r
    | .Compare l [op] [r] _ => decide (bopC op = some o) && notSet r && isVal a && isVal b && mE cf a sc l && mE cf b sc r
    | _ => false
  | .neg a, sc, e => match e with
    | .UnaryOp .USub x _ => isVal a && mE cf a sc x
    | _ => false
  | .not a, sc, e => match e with
    | .UnaryOp .Not x _ => isVal a && tst x && mE cf a sc x
    | _ => false
  | .and a b, sc, e => match e with
    | .BoolOp .And (x :: y :: r) p => isVal a && isVal b && tst x && mE cf a sc x && (match r with
      | [] => tst y && mE cf b sc y
      | _ => mE cf b sc (.BoolOp .And (y :: r) p))
    | _ => false
  | .or a b, sc, e => match e with
    | .BoolOp .Or (x :: y :: r) p => isVal a && isVal b && tst x && mE cf a sc x && (match r with
      | [] => tst y && mE cf b sc y
      | _ => mE cf b sc (.BoolOp .Or (y :: r) p))
    | _ => false
  | .chain o p a b c, sc, e => match e with
    | .Compare l [op, op'] [m, r] _ => decide (bopC op = some o) && decide (bopC op' = some p) && notSet r && isVal a && isVal b && isVal c && mE cf a sc l && mE cf b sc m && mE cf c sc r
    | _ => false
  | .ite c a b, sc, e => match e with
    | .IfExp t x y _ => isVal c && isVal a && isVal b && tst t && mE cf c sc t && mE cf a sc x && mE cf b sc y
    | _ => false
  | .tup es, sc, e => match e with
    | .Tuple xs _ _ => noStar xs && mEs cf es sc xs
    | _ => false
  | .ix a b, sc, e => match e with
    | .Subscript x y _ => notSlice y && isVal a && isVal b && mE cf a sc x && mE cf b sc y
    | _ => false
  | .sl a lo hi, sc, e => match e with
    | .Subscript x (.Slice l u none _) _ => isVal a && mE cf a sc x && mPart cf lo sc l && mPart cf hi sc u
    | _ => false
  | .rev a, sc, e => match e with
    | .Subscript x (.Slice none none (some (.UnaryOp .USub (.Constant (.int 1) _ _) _)) _) _ => isVal a && mE cf a sc x
    | _ => false
  | .isi a t, sc, e => match e with
    | .Call (.Name f _) [x, .Name n _] [] _ => decide (f = "isinstance") && glB sc f && decide (n = tyN t) && glB sc n && isVal a && notStar x && mE cf a sc x
    | _ => false
  | .bif b es, sc, e => match e with
    | .Call (.Name f _) (x :: xs) [] _ => decide (f = bifN b) && (decide (b ≠ .gcd) || cf.gcd) && glB sc f && noStar (x :: xs) && mEs cf es sc (x :: xs)
    | _ => false
  | .call g es, sc, e => match e with
    | .Call (.Name f _) xs [] _ => decide (cf.fns[g]? = some f) && glB sc f && okN f && noStar xs && mEs cf es sc xs
    | _ => false
  | .mkl m c, sc, e => mC cf c sc e
  | .rng es, sc, e => match e with
    | .Call (.Name f _) xs [] _ => decide (f = "range") && glB sc f && noStar xs && mEs cf es sc xs && decide (1 ≤ xs.length ∧ xs.length ≤ 2)
    | _ => false
  | .enum _, _, _ => false
  | .zip _ _, _, _ => false
def mEs (cf : Cf) : Es → Scope → List Expr → Bool
  | .nil, _, es => es.isEmpty
  | .cons a r, sc, es => match es with
    | x :: xs => isVal a && mE cf a sc x && mEs cf r sc xs
    | [] => false
def mPart (cf : Cf) : Es → Scope → Option Expr → Bool
  | .nil, _, o => o.isNone
  | .cons a _, sc, o => match o with
    | some x => isVal a && mE cf a sc x
    | none => false
def mIf (cf : Cf) : Es → Scope → List Expr → Bool
  | .nil, _, o => o.isEmpty
  | .cons a _, sc, o => match o with
    | [x] => isVal a && tst x && mE cf a sc x
    | _ => false
def mC (cf : Cf) : C → Scope → Expr → Bool
  | .disp es, sc, e => match e with
    | .List xs _ => noStar xs && mEs cf es sc xs
    | _ => false
  | .ofl a, sc, e => match e with
    | .Call (.Name f _) [x] [] _ => decide (f = "list") && glB sc f && notStar x && mE cf a sc x
    | _ => false
  | .comp own p it c elt, sc, e => match e with
    | .ListComp elt' [⟨tg, iter, ifs, 0⟩] scope _ => notSet iter && ownB cf sc scope own p.vars && mE cf it sc iter && patB cf scope p tg && tgB it tg && mIf cf c (relS scope sc) ifs && isVal elt && mE cf elt (relS scope sc) elt'
    | _ => false
  | .comp2 own vs1 p it c p1 it1 c1 elt, sc, e => match e with
    | .ListComp elt' [⟨tg, iter, ifs, 0⟩, ⟨tg1, iter1, ifs1, 0⟩] scope _ => notSet iter && notSet iter1 && ownB cf sc scope own p.vars && (p1.vars.all fun i => decide (i ∈ vs1)) && (vs1.all fun i => decide (i ∈ own)) &&
      mE cf it sc iter && patB cf scope p tg && tgB it tg && mIf cf c (relS scope sc) ifs &&
      mE cf it1 (relS scope sc) iter1 && patB cf scope p1 tg1 && tgB it1 tg1 && mIf cf c1 (relS scope sc) ifs1 && isVal elt && mE cf elt (relS scope sc) elt'
    | _ => false
  | .rep a b, sc, e => match e with
    | .BinOp l .Mult r _ => isVal a && isVal b && mE cf a sc l && mE cf b sc r
    | _ => false
end
end Sh

/-! expressions: the evaluator is sound -/
namespace Sh
open PySem PySem.Spec PyProof.Rows L2

/-- what an own function promises -/
def spOf (K : PySem.W.Frag) : FSpec → Sp
  | .pure f => fun vs H Q _ => ∃ ds d, RepL K H ds vs ∧ f ds = some d ∧ ∀ H' v, Same H H' → Rep K H' d v → Q v H'
  | .new f => fun vs H Q _ => ∃ ds r, RepL K H ds vs ∧ f ds = some r ∧ ∀ H' p us, Same H H' → H p = none → H' p = some (.lst us) → RepL K H' r us → Q (.ref p) H'
  | .cell f => fun vs H Q _ => ∃ a ws c us d c', RepWL K [a] H ws vs ∧ H a = some (.lst us) ∧ RepL K H c us ∧ f ws c = some (d, c') ∧
      ∀ H' v us', Ext [a] H H' → H' a = some (.lst us') → RepL K H' c' us' → Rep K H' d v → Q v H'
  | .none => fun _ _ _ _ => False
structure FnAt (X : Cx) (k : Nat) (x : Str) (sp : FSpec) : Prop where
  ok : ∃ (a : Addr) (fd : FuncData) (ps : List Str) (j : Nat), j ≤ k ∧ X.mg x = some (.ref a) ∧ PySem.W.keepIn X.K (.ref a) = true ∧ Binds X.K fd ps [] ∧ FnOk X.prog X.w X.K X.mg X.base CX0 j a fd ps (spOf X.K sp)
/-- the names that are stored -/
def FOk (fs : Scope) (X : Cx) : Prop := ∀ n, locB fs n = true → Loc X.env.scope n ∧ (X.fn n = true ∨ X.env.scope.names.lookup n = some .local)
structure XOk (cf : Cf) (Φ : Nat → FSpec) (G : Nat → D) (sc : Scope) (k : Nat) (X : Cx) : Prop where
  N : X.N = cf.N
  nd : cf.N.Nodup
  sc : X.env.scope = sc
  calm : X.calm = true
  room : Room k X.A
  fns : ∀ (g : Nat) (x : Str), cf.fns[g]? = some x → FnAt X k x (Φ g)
  cons : ∀ (g : Nat) (x : Str), cf.cons[g]? = some x → ∃ u v, X.mg x = some u ∧ RelV v u ∧ ∀ H, Rep X.K H (G g) v
  blt : ∀ x ∈ bltNames, X.mg x = none
  gcd : cf.gcd = true → X.mg "gcd" = some (.builtin "math.gcd")

/-- an expression's reading by the evaluator -/
def tE (K : PySem.W.Frag) (f : Env → DH → Option (W × DH)) : TE := fun σ H Q => ∃ ι env h w h', SR K ι H h ∧ EnvOk K ι H env σ ∧ f env h = some (w, h') ∧ Post K ι H w h' Q
def tT (K : PySem.W.Frag) (f : Env → DH → Option (Bool × DH)) : TT := fun σ H Q => ∃ ι env h b h', SR K ι H h ∧ EnvOk K ι H env σ ∧ f env h = some (b, h') ∧ ∀ ι' H', Stp ι H ι' H' → SR K ι' H' h' → Q b H'
def tA (K : PySem.W.Frag) (f : Env → DH → Option (List W × DH)) : TA := fun σ H Q => ∃ ι env h ws h', SR K ι H h ∧ EnvOk K ι H env σ ∧ f env h = some (ws, h') ∧ ∀ ι' H' vs, Stp ι H ι' H' → SR K ι' H' h' → RepWL K ι' H' ws vs → Q vs H'
/-- a list's making -/
def tR (K : PySem.W.Frag) (f : Env → DH → Option (List W × DH)) : TE := fun σ H Q => ∃ ι env h ws h', SR K ι H h ∧ EnvOk K ι H env σ ∧ f env h = some (ws, h') ∧ PostC K ι H ws h' Q
def tO (K : PySem.W.Frag) (f : Env → DH → Option (Option Int × DH)) : TO := fun σ H Q => ∃ ι env h o h', SR K ι H h ∧ EnvOk K ι H env σ ∧ f env h = some (o, h') ∧ ∀ ι' H', Stp ι H ι' H' → SR K ι' H' h' → Q o H'
/-- an iterator that walks plain data -/
def WkOk (K : PySem.W.Frag) (J : It) (ds : List D) (H1 : Hp) : Prop := ∀ H, Fx H1 H → ∀ i,
  (∀ d, ds[i]? = some d → J.go i H ∧ ∀ x H', J.yld i H x H' → Same H H' ∧ Rep K H' d x) ∧ (ds.length ≤ i → J.stop i H)
def tI (K : PySem.W.Frag) (f : Env → DH → Option (W × DH)) : TI := fun σ H R => ∃ ι env h x h' ds, SR K ι H h ∧ EnvOk K ι H env σ ∧ f env h = some (.d x, h') ∧ itemsD x = some ds ∧
  ∀ ι' H' J, Stp ι H ι' H' → SR K ι' H' h' → WkOk K J ds H' → R J H'

section
variable {X : Cx} {x y z : Expr} {pos : Pos}
theorem _root_.L2.PE.imp {t t' : TE} (h : PE X x t) (i : ∀ σ H Q, t' σ H Q → t σ H Q) : PE X x t' := ⟨fun pins s σ H Q I q => h.run pins s σ H Q I (i σ H Q q)⟩
theorem _root_.L2.PT.imp {t t' : TT} (h : PT X x t) (i : ∀ σ H Q, t' σ H Q → t σ H Q) : PT X x t' := ⟨fun pins s σ H Q I q => h.run pins s σ H Q I (i σ H Q q)⟩
theorem _root_.L2.PW.imp {t t' : TT} (h : PW X x t) (i : ∀ σ H Q, t' σ H Q → t σ H Q) : PW X x t' := ⟨fun w pins s σ H Q I q => h.run w pins s σ H Q I (i σ H Q q)⟩
theorem _root_.L2.PA.imp {es : List Expr} {t t' : TA} (h : PA X es t) (i : ∀ σ H Q, t' σ H Q → t σ H Q) : PA X es t' := ⟨fun p pins s σ H Q I q => h.run p pins s σ H Q I (i σ H Q q)⟩
theorem _root_.L2.PI.imp {tg : Expr} {t t' : TI} (h : PI X tg x t) (i : ∀ σ H Q, t' σ H Q → t σ H Q) : PI X tg x t' := ⟨fun pins s σ H Q I q => h.run pins s σ H Q I (i σ H Q q)⟩
theorem _root_.L2.PO.imp {o : Option Expr} {t t' : TO} (h : PO X o t) (i : ∀ σ H Q, t' σ H Q → t σ H Q) : PO X o t' := ⟨fun pins s σ H Q I q => h.run pins s σ H Q I (i σ H Q q)⟩

/-- the test of an expression that gives a bool -/
def evB (f : Env → DH → Option (W × DH)) (env : Env) (h : DH) : Option (Bool × DH) := do
  let (w, h1) ← f env h
  match w with
  | .d (.bl b) => some (b, h1)
  | _ => .none
theorem evB_some {f : Env → DH → Option (W × DH)} {env : Env} {h h' : DH} {b : Bool} (e : evB f env h = some (b, h')) : f env h = some (.d (.bl b), h') := by
  unfold evB at e
  cases q : f env h with
  | none => rw [q] at e; cases e
  | some p =>
    obtain ⟨w, h1⟩ := p
    rw [q] at e
    simp only [Option.bind_eq_bind, Option.bind_some] at e
    split at e
    · cases e; rfl
    · cases e
theorem evB_of {f : Env → DH → Option (W × DH)} {env : Env} {h h' : DH} {b : Bool} (e : f env h = some (.d (.bl b), h')) : evB f env h = some (b, h') := by
  unfold evB; rw [e]; rfl
/-- two operands, one after the other -/
theorem tOp_of {K : PySem.W.Frag} {f g : Env → DH → Option (W × DH)} {r : R2} {σ : L2.St} {H : Hp} {Q : VK} {ι : List Addr} {env : Env} {h h1 h2 : DH} {a b : W}
    (sr : SR K ι H h) (eo : EnvOk K ι H env σ) (e1 : f env h = some (a, h1)) (e2 : g env h1 = some (b, h2))
    (q : ∀ ι2 H2 x y, Stp ι H ι2 H2 → SR K ι2 H2 h2 → RepW K ι2 H2 a x → RepW K ι2 H2 b y → r x y H2 Q) : tOp r (tE K f) (tE K g) σ H Q :=
  ⟨ι, env, h, a, h1, sr, eo, e1, fun ι1 H1 x p1 s1 r1 => ⟨ι1, env, h1, b, h2, s1, eo.stp p1, e2, fun ι2 H2 y p2 s2 r2 => q ι2 H2 x y (p1.trans p2) s2 (r1.stp p2) r2⟩⟩
theorem rep_post {K : PySem.W.Frag} {ι : List Addr} {H : Hp} {h : DH} {d : D} {Q : VK} (s : SR K ι H h) (p : Post K ι H (.d d) h Q) : ∀ H' v, Same H H' → Rep K H' d v → Q v H' :=
  fun H' v e r => p ι H' v (.same e) (s.same e) (.d r)


theorem RepW.bl {K : PySem.W.Frag} {ι : List Addr} {H : Hp} {b : Bool} {v : V} (r : RepW K ι H (.d (.bl b)) v) : v = .bl b := by cases r with | d r => cases r; rfl
theorem RepW.int {K : PySem.W.Frag} {ι : List Addr} {H : Hp} {b : Int} {v : V} (r : RepW K ι H (.d (.int b)) v) : v = .int b := by cases r with | d r => cases r; rfl
/-- a test by its value -/
theorem tB_of {K : PySem.W.Frag} {f : Env → DH → Option (W × DH)} {σ : L2.St} {H : Hp} {Q : Bool → Hp → Prop} (h : tT K (evB f) σ H Q) : tE K f σ H fun x H' => ∃ c, x = .bl c ∧ Q c H' := by
  obtain ⟨ι, env, h, b, h', sr, eo, e, q⟩ := h
  exact ⟨ι, env, h, _, h', sr, eo, evB_some e, fun ι' H' v p s r => ⟨b, r.bl, q ι' H' p s⟩⟩
theorem pt_def {f : Env → DH → Option (W × DH)} (h : PE X x (tE X.K f)) (he : ∀ whole, isTrue x X.env whole = (do let v ← whole; standAt x.pos; holding [v] (truthy v))) : PT X x (tT X.K (evB f)) :=
  (pt_val h he).imp fun σ H Q q => tB_of q
/-- what is to be shown of an expression -/
structure Ok1 (X : Cx) (x : Expr) (f : Env → DH → Option (W × DH)) : Prop where
  pe : PE X x (tE X.K f)
  pt : tst x = true → PT X x (tT X.K (evB f))
  pw : ∀ op es p, x = .BoolOp op es p → PW X x (tT X.K (evB f))
theorem Ok1.plain {f : Env → DH → Option (W × DH)} (h : PE X x (tE X.K f)) (he : ∀ whole, isTrue x X.env whole = (do let v ← whole; standAt x.pos; holding [v] (truthy v))) (nb : ∀ op es p, x ≠ .BoolOp op es p) : Ok1 X x f :=
  ⟨h, fun _ => pt_def h he, fun op es p e => absurd e (nb op es p)⟩

variable {cf : Cf} {Φ : Nat → FSpec} {G : Nat → D} {sc : Scope} {k : Nat}
theorem XOk.vis (ok : XOk cf Φ G sc k X) {n : Str} (h : visB sc n = true) : Vis X.env.scope n := by
  rw [ok.sc]
  simp only [visB, Bool.or_eq_true, decide_eq_true_eq] at h
  rcases h with (h | h) | h
  · exact .inl h
  · exact .inr (.inl h)
  · exact .inr (.inr h)
theorem XOk.loc (ok : XOk cf Φ G sc k X) {n : Str} (h : locB sc n = true) : Loc X.env.scope n := by
  rw [ok.sc]
  simp only [locB, Bool.or_eq_true, decide_eq_true_eq] at h
  exact h
theorem XOk.gl (ok : XOk cf Φ G sc k X) {n : Str} (h : glB sc n = true) : Gl X n := by
  simp only [glB, decide_eq_true_eq] at h
  show X.env.scope.names.lookup n = _
  rw [ok.sc]; exact h
theorem okN_dbg {n : Str} (h : okN n = true) : (n == ("__debug__" : Str)) = false ∧ (n == ("__classdict__" : Str)) = false ∧ n ≠ "__name__" := by
  simp only [okN, Bool.and_eq_true, Bool.not_eq_true', decide_eq_true_eq] at h
  exact ⟨h.1.1, h.1.2, h.2⟩
theorem s_var (ok : XOk cf Φ G sc k X) {i : Nat} {n : Str} (h1 : cf.N[i]? = some n) (h2 : visB sc n = true) (h3 : okN n = true) : Ok1 X (.Name n pos) (evE Φ G (.var i)) := by
  have hd := okN_dbg h3
  refine .plain ((pe_var (by rw [ok.N]; exact h1) (ok.vis h2) hd.1 hd.2.1).imp fun σ H Q q => ?_) (fun _ => rfl) (fun _ _ _ z => by cases z)
  obtain ⟨ι, env, h, w, h', sr, eo, e, q⟩ := q
  simp only [evE] at e
  split at e
  · rename_i w' hw
    cases e
    obtain ⟨v, h1, h2⟩ := eo.val i _ hw
    exact ⟨v, h1, q.now sr h2⟩
  · cases e
theorem s_con (ok : XOk cf Φ G sc k X) {g : Nat} {n : Str} (h1 : cf.cons[g]? = some n) (h2 : glB sc n = true) (h3 : okN n = true) : Ok1 X (.Name n pos) (evE Φ G (.con g)) := by
  obtain ⟨u, v, hm, r, hr⟩ := ok.cons g n h1
  refine .plain ((pe_glob (ok.gl h2) hm r (okN_dbg h3).1).imp fun σ H Q q => ?_) (fun _ => rfl) (fun _ _ _ z => by cases z)
  obtain ⟨ι, env, h, w, h', sr, eo, e, q⟩ := q
  simp only [evE] at e
  cases e
  exact q.now sr (.d (hr H))
theorem s_lit {c : Const} {kk : Nat} {d : D} (hl : litB c d = true) : Ok1 X (.Constant c kk pos) (evE Φ G (.lit d)) := by
  have go : ∀ {v : V}, PE X (.Constant c kk pos) (tC v) → (∀ H, Rep X.K H d v) → Ok1 X (.Constant c kk pos) (evE Φ G (.lit d)) := fun {v} pe hr => by
    refine .plain (pe.imp fun σ H Q q => ?_) (fun _ => rfl) (fun _ _ _ z => by cases z)
    obtain ⟨ι, env, h, w, h', sr, eo, e, q⟩ := q
    simp only [evE] at e
    cases e
    exact q.now sr (.d (hr H))
  cases c <;> cases d <;> simp only [litB, Bool.false_eq_true] at hl
  · exact go pe_non fun _ => .non
  · have := eq_of_beq hl; subst this; exact go pe_bl fun _ => .bl _
  · simp only [decide_eq_true_eq] at hl; subst hl; exact go pe_int fun _ => .int _
  · simp only [Bool.and_eq_true, decide_eq_true_eq] at hl; obtain ⟨rfl, h2⟩ := hl; exact go pe_str fun _ => .str _ h2
/-- an operation of two operands -/
def rBinW (K : PySem.W.Frag) (o : Bop) : R2 := fun x y H Q => ∃ ι h a b da db d, SR K ι H h ∧ RepW K ι H a x ∧ RepW K ι H b y ∧ valD h a = some da ∧ valD h b = some db ∧ binD o da db = some d ∧ Post K ι H (.d d) h Q
theorem binW_of {o : Bop} {f : Value → Value → Sem Value} (h : OpR X f (rBin X.K o)) : OpR X f (rBinW X.K o) := by
  intro pins s σ H x y v u Q I rx ry hq
  obtain ⟨ι, h', a, b, da, db, d, sr, ra, rb, ea, eb, e, q⟩ := hq
  exact h pins s σ H x y v u Q I rx ry ⟨da, db, d, ra.is sr ea, rb.is sr eb, e, rep_post sr q⟩
theorem opO (hr : Room k X.A) {o : Bop} {op : Operator} (h : bopO op = some o) : OpR X (binaryOp op) (rBinW X.K o) := by
  refine binW_of ?_
  cases op <;> simp only [bopO, Option.some.injEq, reduceCtorEq] at h <;> subst h
  · exact ob_add
  · exact ob_sub
  · exact ob_mul
  · exact ob_mod
  · exact ob_pow
  · exact ob_fdiv
theorem opC (hr : Room k X.A) {o : Bop} {op : CmpOp} (h : bopC op = some o) : OpR X (compareOp op) (rBinW X.K o) := by
  have hu : X.A.units + 65 < cLine := by have := hr.un; omega
  refine binW_of ?_
  cases op <;> simp only [bopC, Option.some.injEq, reduceCtorEq] at h <;> subst h
  · exact oc_eq hu
  · exact oc_ne hu
  · exact oc_lt hu
  · exact oc_le hu
  · exact oc_gt hu
  · exact oc_ge hu
  · exact oc_is
  · exact oc_isnot
  · exact oc_mem hu
  · exact oc_nmem hu
theorem tOp_bin {o : Bop} {a b : E} {σ : L2.St} {H : Hp} {Q : VK} (h : tE X.K (evE Φ G (.bin o a b)) σ H Q) : tOp (rBinW X.K o) (tE X.K (evE Φ G a)) (tE X.K (evE Φ G b)) σ H Q := by
  obtain ⟨ι, env, h, w, h', sr, eo, e, q⟩ := h
  simp only [evE, Option.bind_eq_bind, Option.bind_eq_some_iff, Prod.exists, Option.some.injEq, Prod.mk.injEq] at e
  obtain ⟨x, h1, e1, y, h2, e2, dx, e3, dy, e4, d, e5, rfl, rfl⟩ := e
  exact tOp_of sr eo e1 e2 fun ι2 H2 vx vy p s2 r1 r2 => ⟨ι2, h2, x, y, dx, dy, d, s2, r1, r2, e3, e4, e5, q.stp p⟩
theorem s_bin (hr : Room k X.A) {o : Bop} {op : Operator} (h : bopO op = some o) {a b : E} (ha : Ok1 X x (evE Φ G a)) (hb : Ok1 X y (evE Φ G b)) : Ok1 X (.BinOp x op y pos) (evE Φ G (.bin o a b)) :=
  .plain ((pe_op (opO hr h) ha.pe hb.pe).imp fun σ H Q q => tOp_bin q) (fun _ => rfl) (fun _ _ _ z => by cases z)
theorem nomarkS {op : CmpOp} (h : notSet y = true) : behindInMarks op y = false := by
  cases y <;> simp_all [notSet, behindInMarks]
theorem s_cmp (hr : Room k X.A) {o : Bop} {op : CmpOp} (h : bopC op = some o) {a b : E} (ha : Ok1 X x (evE Φ G a)) (hb : Ok1 X y (evE Φ G b)) (hn : notSet y = true) : Ok1 X (.Compare x [op] [y] pos) (evE Φ G (.bin o a b)) := by
  refine ⟨(pe_cmpR (opC hr h) ha.pe hb.pe (nomarkS hn)).imp fun σ H Q q => tOp_bin q, fun _ => (pt_cmpR (opC hr h) ha.pe hb.pe (nomarkS hn)).imp fun σ H Q q => ?_, fun _ _ _ z => by cases z⟩
  exact tOp_bin (tB_of q)
theorem lastMarks2 {op op' : CmpOp} (h : notSet z = true) : lastMarks [op, op'] [y, z] = false := by
  show behindInMarks op' z = false
  exact nomarkS h
theorem s_chain (hr : Room k X.A) {o o' : Bop} {op op' : CmpOp} (h : bopC op = some o) (h' : bopC op' = some o') {a b c : E} (ha : Ok1 X x (evE Φ G a)) (hb : Ok1 X y (evE Φ G b)) (hc : Ok1 X z (evE Φ G c)) (hn : notSet z = true) :
    Ok1 X (.Compare x [op, op'] [y, z] pos) (evE Φ G (.chain o o' a b c)) := by
  have key : ∀ {σ : L2.St} {H : Hp} {Q : VK}, tE X.K (evE Φ G (.chain o o' a b c)) σ H Q → tChain (rBinW X.K o) (rBinW X.K o') (tE X.K (evE Φ G a)) (tE X.K (evE Φ G b)) (tE X.K (evE Φ G c)) σ H Q := by
    intro σ H Q hq
    obtain ⟨ι, env, h, w, h', sr, eo, e, q⟩ := hq
    simp only [evE, Option.bind_eq_bind, Option.bind_eq_some_iff, Prod.exists] at e
    obtain ⟨x, h1, e1, y, h2, e2, dx, e3, dy, e4, d, e5, e⟩ := e
    refine ⟨ι, env, h, x, h1, sr, eo, e1, fun ι1 H1 vx p1 s1 r1 => ⟨ι1, env, h1, y, h2, s1, eo.stp p1, e2, fun ι2 H2 vy p2 s2 r2 => ?_⟩⟩
    refine ⟨ι2, h2, x, y, dx, dy, d, s2, r1.stp p2, r2, e3, e4, e5, fun ι3 H3 v3 p3 s3 r3 => ?_⟩
    split at e
    · simp only [Option.bind_eq_some_iff, Prod.exists, Option.some.injEq, Prod.mk.injEq] at e
      obtain ⟨z, h3, e6, dy', e7, dz, e8, d', e9, rfl, rfl⟩ := e
      refine ⟨true, r3.bl, iteT ⟨ι3, env, h2, z, h3, s3, (eo.stp (p1.trans p2)).stp p3, e6, fun ι4 H4 vz p4 s4 r4 => ?_⟩⟩
      exact ⟨ι4, h3, y, z, dy', dz, d', s4, (r2.stp p3).stp p4, r4, e7, e8, e9, q.stp (((p1.trans p2).trans p3).trans p4)⟩
    · cases e
      exact ⟨false, r3.bl, iteF (q ι3 H3 _ ((p1.trans p2).trans p3) s3 (.d (.bl false)))⟩
    · cases e
  refine ⟨(pe_chain (opC hr h) (opC hr h') ha.pe hb.pe hc.pe (lastMarks2 hn)).imp fun σ H Q q => key q, fun _ => (pt_chain (opC hr h) (opC hr h') ha.pe hb.pe hc.pe (lastMarks2 hn)).imp fun σ H Q q => ?_, fun _ _ _ z => by cases z⟩
  exact key (tB_of q)
theorem s_neg {a : E} (ha : Ok1 X x (evE Φ G a)) : Ok1 X (.UnaryOp .USub x pos) (evE Φ G (.neg a)) := by
  refine .plain ((pe_un un_neg ha.pe).imp fun σ H Q q => ?_) (fun _ => rfl) (fun _ _ _ z => by cases z)
  obtain ⟨ι, env, h, w, h', sr, eo, e, q⟩ := q
  simp only [evE, Option.bind_eq_bind, Option.bind_eq_some_iff, Prod.exists] at e
  obtain ⟨x, h1, e1, e⟩ := e
  split at e
  · cases e
    exact ⟨ι, env, h, _, h', sr, eo, e1, fun ι1 H1 vx p1 s1 r1 => ⟨_, r1.int, q ι1 H1 _ p1 s1 (.d (.int _))⟩⟩
  · cases e
theorem s_not {a : E} (ha : Ok1 X x (evE Φ G a)) (ht : tst x = true) : Ok1 X (.UnaryOp .Not x pos) (evE Φ G (.not a)) := by
  refine ⟨(pe_not ha.pe).imp fun σ H Q q => ?_, fun _ => (pt_not (ha.pt ht)).imp fun σ H Q q => ?_, fun _ _ _ z => by cases z⟩
  · obtain ⟨ι, env, h, w, h', sr, eo, e, q⟩ := q
    simp only [evE, Option.bind_eq_bind, Option.bind_eq_some_iff, Prod.exists] at e
    obtain ⟨x, h1, e1, e⟩ := e
    split at e
    · cases e
      exact ⟨ι, env, h, _, h', sr, eo, e1, fun ι1 H1 vx p1 s1 r1 => ⟨_, r1.bl, q ι1 H1 _ p1 s1 (.d (.bl _))⟩⟩
    · cases e
  · obtain ⟨ι, env, h, b, h', sr, eo, e, q⟩ := q
    have e := evB_some e
    simp only [evE, Option.bind_eq_bind, Option.bind_eq_some_iff, Prod.exists] at e
    obtain ⟨x, h1, e1, e⟩ := e
    split at e
    · rename_i b'
      cases e
      exact ⟨ι, env, h, _, h', sr, eo, evB_of e1, fun ι1 H1 p1 s1 => q ι1 H1 p1 s1⟩
    · cases e
/-- and, or: the steps -/
theorem and_step {a b : E} {env : Env} {h h' : DH} {w : W} (e : evE Φ G (.and a b) env h = some (w, h')) : ∃ h1, (evE Φ G a env h = some (.d (.bl true), h1) ∧ evE Φ G b env h1 = some (w, h')) ∨ (evE Φ G a env h = some (.d (.bl false), h') ∧ w = .d (.bl false)) := by
  simp only [evE, Option.bind_eq_bind, Option.bind_eq_some_iff, Prod.exists] at e
  obtain ⟨x, h1, e1, e⟩ := e
  split at e
  · exact ⟨h1, .inl ⟨e1, e⟩⟩
  · cases e; exact ⟨h', .inr ⟨e1, rfl⟩⟩
  · cases e
theorem or_step {a b : E} {env : Env} {h h' : DH} {w : W} (e : evE Φ G (.or a b) env h = some (w, h')) : ∃ h1, (evE Φ G a env h = some (.d (.bl false), h1) ∧ evE Φ G b env h1 = some (w, h')) ∨ (evE Φ G a env h = some (.d (.bl true), h') ∧ w = .d (.bl true)) := by
  simp only [evE, Option.bind_eq_bind, Option.bind_eq_some_iff, Prod.exists] at e
  obtain ⟨x, h1, e1, e⟩ := e
  split at e
  · exact ⟨h1, .inl ⟨e1, e⟩⟩
  · cases e; exact ⟨h', .inr ⟨e1, rfl⟩⟩
  · cases e
theorem tAnd_of {a b : E} {σ : L2.St} {H : Hp} {Q : Bool → Hp → Prop} (hq : tT X.K (evB (evE Φ G (.and a b))) σ H Q) : tAnd (tT X.K (evB (evE Φ G a))) (tT X.K (evB (evE Φ G b))) σ H Q := by
  obtain ⟨ι, env, h, c, h', sr, eo, e, q⟩ := hq
  obtain ⟨h1, (⟨e1, e2⟩ | ⟨e1, e2⟩)⟩ := and_step (evB_some e)
  · exact ⟨ι, env, h, _, h1, sr, eo, evB_of e1, fun ι1 H1 p1 s1 => iteT ⟨ι1, env, h1, c, h', s1, eo.stp p1, evB_of e2, fun ι2 H2 p2 s2 => q ι2 H2 (p1.trans p2) s2⟩⟩
  · cases e2
    exact ⟨ι, env, h, _, h', sr, eo, evB_of e1, fun ι1 H1 p1 s1 => iteF (q ι1 H1 p1 s1)⟩
theorem tOr_of {a b : E} {σ : L2.St} {H : Hp} {Q : Bool → Hp → Prop} (hq : tT X.K (evB (evE Φ G (.or a b))) σ H Q) : tOr (tT X.K (evB (evE Φ G a))) (tT X.K (evB (evE Φ G b))) σ H Q := by
  obtain ⟨ι, env, h, c, h', sr, eo, e, q⟩ := hq
  obtain ⟨h1, (⟨e1, e2⟩ | ⟨e1, e2⟩)⟩ := or_step (evB_some e)
  · exact ⟨ι, env, h, _, h1, sr, eo, evB_of e1, fun ι1 H1 p1 s1 => iteF ⟨ι1, env, h1, c, h', s1, eo.stp p1, evB_of e2, fun ι2 H2 p2 s2 => q ι2 H2 (p1.trans p2) s2⟩⟩
  · cases e2
    exact ⟨ι, env, h, _, h', sr, eo, evB_of e1, fun ι1 H1 p1 s1 => iteT (q ι1 H1 p1 s1)⟩
theorem s_and {a b : E} {r : List Expr} (ha : Ok1 X x (evE Φ G a)) (ht : tst x = true)
    (hb : (r = [] ∧ tst y = true ∧ Ok1 X y (evE Φ G b)) ∨ Ok1 X (.BoolOp .And (y :: r) pos) (evE Φ G b)) : Ok1 X (.BoolOp .And (x :: y :: r) pos) (evE Φ G (.and a b)) := by
  have pb : PE X (.BoolOp .And (y :: r) pos) (tE X.K (evE Φ G b)) := by
    rcases hb with ⟨rfl, _, hb⟩ | hb
    · exact pe_one hb.pe
    · exact hb.pe
  have wb : PW X (.BoolOp .And (y :: r) pos) (tT X.K (evB (evE Φ G b))) := by
    rcases hb with ⟨rfl, ht, hb⟩ | hb
    · exact pw_and1 (hb.pt ht)
    · exact hb.pw _ _ _ rfl
  have w : PW X (.BoolOp .And (x :: y :: r) pos) (tT X.K (evB (evE Φ G (.and a b)))) := (pw_and (ha.pt ht) wb).imp fun σ H Q q => tAnd_of q
  refine ⟨(pe_and ha.pe pb).imp fun σ H Q q => ?_, fun _ => w.pt, fun _ _ _ z => by cases z; exact w⟩
  obtain ⟨ι, env, h, c, h', sr, eo, e, q⟩ := q
  obtain ⟨h1, (⟨e1, e2⟩ | ⟨e1, e2⟩)⟩ := and_step e
  · exact ⟨ι, env, h, _, h1, sr, eo, e1, fun ι1 H1 v1 p1 s1 r1 => ⟨true, r1.bl, iteT ⟨ι1, env, h1, c, h', s1, eo.stp p1, e2, q.stp p1⟩⟩⟩
  · cases e2
    exact ⟨ι, env, h, _, h', sr, eo, e1, fun ι1 H1 v1 p1 s1 r1 => ⟨false, r1.bl, iteF (q ι1 H1 _ p1 s1 (.d (.bl false)))⟩⟩
theorem s_or {a b : E} {r : List Expr} (ha : Ok1 X x (evE Φ G a)) (ht : tst x = true)
    (hb : (r = [] ∧ tst y = true ∧ Ok1 X y (evE Φ G b)) ∨ Ok1 X (.BoolOp .Or (y :: r) pos) (evE Φ G b)) : Ok1 X (.BoolOp .Or (x :: y :: r) pos) (evE Φ G (.or a b)) := by
  have pb : PE X (.BoolOp .Or (y :: r) pos) (tE X.K (evE Φ G b)) := by
    rcases hb with ⟨rfl, _, hb⟩ | hb
    · exact pe_one hb.pe
    · exact hb.pe
  have wb : PW X (.BoolOp .Or (y :: r) pos) (tT X.K (evB (evE Φ G b))) := by
    rcases hb with ⟨rfl, ht, hb⟩ | hb
    · exact pw_or1 (hb.pt ht)
    · exact hb.pw _ _ _ rfl
  have w : PW X (.BoolOp .Or (x :: y :: r) pos) (tT X.K (evB (evE Φ G (.or a b)))) := (pw_or (ha.pt ht) wb).imp fun σ H Q q => tOr_of q
  refine ⟨(pe_or ha.pe pb).imp fun σ H Q q => ?_, fun _ => w.pt, fun _ _ _ z => by cases z; exact w⟩
  obtain ⟨ι, env, h, c, h', sr, eo, e, q⟩ := q
  obtain ⟨h1, (⟨e1, e2⟩ | ⟨e1, e2⟩)⟩ := or_step e
  · exact ⟨ι, env, h, _, h1, sr, eo, e1, fun ι1 H1 v1 p1 s1 r1 => ⟨false, r1.bl, iteF ⟨ι1, env, h1, c, h', s1, eo.stp p1, e2, q.stp p1⟩⟩⟩
  · cases e2
    exact ⟨ι, env, h, _, h', sr, eo, e1, fun ι1 H1 v1 p1 s1 r1 => ⟨true, r1.bl, iteT (q ι1 H1 _ p1 s1 (.d (.bl true)))⟩⟩
theorem s_ite {c a b : E} (hc : Ok1 X x (evE Φ G c)) (ht : tst x = true) (ha : Ok1 X y (evE Φ G a)) (hb : Ok1 X z (evE Φ G b)) : Ok1 X (.IfExp x y z pos) (evE Φ G (.ite c a b)) := by
  refine ⟨(pe_ifExp (hc.pt ht) ha.pe hb.pe).imp fun σ H Q q => ?_, fun z => (by cases z), fun _ _ _ z => by cases z⟩
  obtain ⟨ι, env, h, w, h', sr, eo, e, q⟩ := q
  simp only [evE, Option.bind_eq_bind, Option.bind_eq_some_iff, Prod.exists] at e
  obtain ⟨x, h1, e1, e⟩ := e
  split at e
  · exact ⟨ι, env, h, _, h1, sr, eo, evB_of e1, fun ι1 H1 p1 s1 => iteT ⟨ι1, env, h1, w, h', s1, eo.stp p1, e, q.stp p1⟩⟩
  · exact ⟨ι, env, h, _, h1, sr, eo, evB_of e1, fun ι1 H1 p1 s1 => iteF ⟨ι1, env, h1, w, h', s1, eo.stp p1, e, q.stp p1⟩⟩
  · cases e
theorem s_nil : PA X [] (tA X.K (evEs Φ G .nil)) := pa_nil.imp fun σ H Q q => by
  obtain ⟨ι, env, h, w, h', sr, eo, e, q⟩ := q
  simp only [evEs] at e
  cases e
  exact q ι H [] .refl sr .nil
theorem starEach_cons {env : PySem.Env} {es : List Expr} (h : notStar x = true) : starEach (x :: es) env = (false, eval x env) :: starEach es env := by
  cases x <;> simp_all [notStar, starEach]
theorem s_cons {a : E} {r : Es} {es : List Expr} (ha : Ok1 X x (evE Φ G a)) (hr : PA X es (tA X.K (evEs Φ G r))) (hs : notStar x = true) : PA X (x :: es) (tA X.K (evEs Φ G (.cons a r))) :=
  (pa_cons ha.pe hr (starEach_cons hs)).imp fun σ H Q q => by
    obtain ⟨ι, env, h, w, h', sr, eo, e, q⟩ := q
    simp only [evEs, Option.bind_eq_bind, Option.bind_eq_some_iff, Prod.exists, Option.some.injEq, Prod.mk.injEq] at e
    obtain ⟨x, h1, e1, ws, h2, e2, rfl, rfl⟩ := e
    exact ⟨ι, env, h, x, h1, sr, eo, e1, fun ι1 H1 v p1 s1 r1 => ⟨ι1, env, h1, ws, h2, s1, eo.stp p1, e2, fun ι2 H2 vs p2 s2 r2 => q ι2 H2 _ (p1.trans p2) s2 (.cons (r1.stp p2) r2)⟩⟩
theorem s_tup {es : Es} {xs : List Expr} {kk : Nat} (ha : PA X xs (tA X.K (evEs Φ G es))) : Ok1 X (.Tuple xs kk pos) (evE Φ G (.tup es)) := by
  refine .plain ((pe_tup ha).imp fun σ H Q q => ?_) (fun _ => rfl) (fun _ _ _ z => by cases z)
  obtain ⟨ι, env, h, w, h', sr, eo, e, q⟩ := q
  simp only [evE, Option.bind_eq_bind, Option.bind_eq_some_iff, Prod.exists] at e
  obtain ⟨ws, h1, e1, ds, e2, e⟩ := e
  split at e
  · rename_i hl
    cases e
    exact ⟨ι, env, h, ws, h', sr, eo, e1, fun ι1 H1 vs p1 s1 r1 => ⟨by rw [← (r1.pure e2).length, ← line_eq]; exact hl, fun p hp => (q.stp p1).tup s1 hp (r1.pure e2)⟩⟩
  · cases e
theorem plainIx {y : Expr} (h : notSlice y = true) : PlainIx y := by
  intro o i
  cases y <;> simp_all [notSlice, subscripted]
theorem s_ix {a b : E} (ha : Ok1 X x (evE Φ G a)) (hb : Ok1 X y (evE Φ G b)) (hs : notSlice y = true) : Ok1 X (.Subscript x y pos) (evE Φ G (.ix a b)) := by
  refine .plain ((pe_ix ixr ha.pe hb.pe (plainIx hs)).imp fun σ H Q q => ?_) (fun _ => rfl) (fun _ _ _ z => by cases z)
  obtain ⟨ι, env, h, w, h', sr, eo, e, q⟩ := q
  simp only [evE, Option.bind_eq_bind, Option.bind_eq_some_iff, Prod.exists, Option.some.injEq, Prod.mk.injEq] at e
  obtain ⟨x, h1, e1, y, h2, e2, w', e3, rfl, rfl⟩ := e
  exact tOp_of sr eo e1 e2 fun ι2 H2 vx vy p s2 r1 r2 => ⟨ι2, h2, x, y, w', s2, r1, r2, e3, q.stp p⟩
theorem s_part0 : PO X none (tO X.K (evPart Φ G .nil)) := po_none.imp fun σ H Q q => by
  obtain ⟨ι, env, h, o, h', sr, eo, e, q⟩ := q
  simp only [evPart] at e
  cases e
  exact q ι H .refl sr
theorem s_part1 {a : E} {r : Es} (ha : Ok1 X x (evE Φ G a)) : PO X (some x) (tO X.K (evPart Φ G (.cons a r))) := (po_some ha.pe).imp fun σ H Q q => by
  obtain ⟨ι, env, h, o, h', sr, eo, e, q⟩ := q
  simp only [evPart, Option.bind_eq_bind, Option.bind_eq_some_iff, Prod.exists] at e
  obtain ⟨w, h1, e1, e⟩ := e
  split at e
  · cases e
    exact ⟨ι, env, h, _, h', sr, eo, e1, fun ι1 H1 v p1 s1 r1 => ⟨_, r1.int, q ι1 H1 p1 s1⟩⟩
  · cases e
theorem s_sl {a : E} {lo hi : Es} {l u : Option Expr} {p2 : Pos} (ha : Ok1 X x (evE Φ G a)) (hl : PO X l (tO X.K (evPart Φ G lo))) (hu : PO X u (tO X.K (evPart Φ G hi))) : Ok1 X (.Subscript x (.Slice l u none p2) pos) (evE Φ G (.sl a lo hi)) := by
  refine .plain ((pe_slice slr ha.pe hl hu).imp fun σ H Q q => ?_) (fun _ => rfl) (fun _ _ _ z => by cases z)
  obtain ⟨ι, env, h, w, h', sr, eo, e, q⟩ := q
  simp only [evE, Option.bind_eq_bind, Option.bind_eq_some_iff, Prod.exists, Option.some.injEq, Prod.mk.injEq] at e
  obtain ⟨x, h1, e1, l, h2, e2, u, h3, e3, dx, e4, d, e5, rfl, rfl⟩ := e
  refine ⟨ι, env, h, x, h1, sr, eo, e1, fun ι1 H1 vx p1 s1 r1 => ⟨ι1, env, h1, l, h2, s1, eo.stp p1, e2, fun ι2 H2 p2 s2 => ⟨ι2, env, h2, u, h3, s2, (eo.stp p1).stp p2, e3, fun ι3 H3 p3 s3 => ?_⟩⟩⟩
  exact ⟨dx, d, ((r1.stp p2).stp p3).is s3 e4, e5, rep_post s3 (q.stp ((p1.trans p2).trans p3))⟩
theorem s_rev {a : E} {kk : Nat} {p1 p2 p3 : Pos} (ha : Ok1 X x (evE Φ G a)) : Ok1 X (.Subscript x (.Slice none none (some (.UnaryOp .USub (.Constant (.int 1) kk p1) p2)) p3) pos) (evE Φ G (.rev a)) := by
  refine .plain ⟨fun pins s σ H Q I q => thn ((pe_revL ha.pe).run pins s σ H (fun v H' => ∃ p vs, v = .ref p ∧ H' p = some (.lst vs) ∧ ∀ o, Q v (upd H' p (.frz o (.lst vs)))) I ?_) fun _ _ => EP.frz⟩ (fun _ => rfl) (fun _ _ _ z => by cases z)
  obtain ⟨ι, env, h, w, h', sr, eo, e, q⟩ := q
  simp only [evE, Option.bind_eq_bind, Option.bind_eq_some_iff, Prod.exists, Option.some.injEq, Prod.mk.injEq] at e
  obtain ⟨x, h1, e1, dx, e2, d, e3, rfl, rfl⟩ := e
  refine ⟨ι, env, h, x, h1, sr, eo, e1, fun ι1 H1 vx p1 s1 r1 => ?_⟩
  cases dx <;> simp only [revD, Option.some.injEq, reduceCtorEq] at e3
  subst e3
  obtain ⟨a, vs, rfl, hq, r⟩ := (r1.is s1 e2).sq
  refine ⟨a, vs, rfl, .inl hq, fun p hp => ⟨p, _, rfl, upd_same, fun o => ?_⟩⟩
  rw [upd_upd]
  exact rep_post s1 (q.stp p1) _ _ (same_upd hp) (.mkl hp r.reverse)
end
end Sh

/-! calls, lists made, what is walked -/
namespace Sh
open PySem PySem.Spec PyProof.Rows L2

section
variable {X : Cx} {x y z : Expr} {pos : Pos} {cf : Cf} {Φ : Nat → FSpec} {G : Nat → D} {sc : Scope} {k : Nat}
theorem noStar_any {env : PySem.Env} : ∀ {es : List Expr}, noStar es = true → ∀ p, (backTo p (starEach es env)).any (·.1) = false
  | [], _, p => rfl
  | x :: es, h, p => by
    simp only [noStar, Bool.and_eq_true] at h
    rw [starEach_cons h.1]
    show (false || _) = false
    exact noStar_any h.2 p
theorem valsD_is {K : PySem.W.Frag} {ι : List Addr} {H : Hp} {h : DH} (s : SR K ι H h) : ∀ {ws : List W} {vs : List V} {ds : List D}, RepWL K ι H ws vs → valsD h ws = some ds → IsL K H ds vs
  | _, _, _, .nil, e => by simp only [valsD, Option.some.injEq] at e; subst e; exact .nil
  | _, _, _, .cons r t, e => by
    simp only [valsD, Option.bind_eq_bind, Option.bind_eq_some_iff, Option.some.injEq] at e
    obtain ⟨d, e1, ds, e2, rfl⟩ := e
    exact .cons (r.is s e1) (valsD_is s t e2)
theorem bif_boot {b : Bif} (h : b ≠ .gcd) : bootBuiltins (bifN b) = some (bifV b) := by
  cases b <;> first | exact absurd rfl h | decide +kernel
theorem bif_blt {b : Bif} (h : b ≠ .gcd) : bifN b ∈ bltNames := by
  cases b <;> first | exact absurd rfl h | decide +kernel
theorem bif_dbg (b : Bif) : bifN b ≠ "__name__" ∧ (bifN b == ("__debug__" : Str)) = false := by
  cases b <;> decide +kernel
theorem s_bif (ok : XOk cf Φ G sc k X) {b : Bif} {es : Es} {p : Pos} {xs : List Expr} (hg : glB sc (bifN b) = true) (hgcd : b = .gcd → X.mg "gcd" = some (.builtin "math.gcd")) (hs : noStar (x :: xs) = true) (ha : PA X (x :: xs) (tA X.K (evEs Φ G es))) :
    Ok1 X (.Call (.Name (bifN b) p) (x :: xs) [] pos) (evE Φ G (.bif b es)) := by
  have hs' := hs
  simp only [noStar, Bool.and_eq_true] at hs
  have pe : PE X (.Call (.Name (bifN b) p) (x :: xs) [] pos) (tCB (rBif X.K b) (tA X.K (evEs Φ G es))) := by
    have hg' := ok.gl hg
    have hd := bif_dbg b
    by_cases hb : b = .gcd
    · subst hb
      exact pe_callBfun (bifR ok.calm .gcd) hg' (hgcd rfl) ha hd.2 (starEach_cons hs.1) (noStar_any hs.2 _)
    · have hm := ok.blt _ (bif_blt hb)
      have hv := bif_boot hb
      cases b <;> first
        | exact absurd rfl hb
        | exact pe_callB (bifR ok.calm _) hg' hm hv ha hd.1 hd.2 (starEach_cons hs.1) (noStar_any hs.2 _)
        | exact pe_callTy (bifR ok.calm _) hg' hm hv ha hd.1 hd.2 (starEach_cons hs.1) (noStar_any hs.2 _)
  refine .plain (pe.imp fun σ H Q q => ?_) (fun _ => rfl) (fun _ _ _ z => by cases z)
  obtain ⟨ι, env, h, w, h', sr, eo, e, q⟩ := q
  simp only [evE, Option.bind_eq_bind, Option.bind_eq_some_iff, Prod.exists, Option.some.injEq, Prod.mk.injEq] at e
  obtain ⟨ws, h1, e1, ds, e2, d, e3, rfl, rfl⟩ := e
  exact ⟨ι, env, h, ws, h1, sr, eo, e1, fun ι1 H1 vs p1 s1 r1 => ⟨ds, d, valsD_is s1 r1 e2, e3, rep_post s1 (q.stp p1)⟩⟩
theorem ty_boot (t : Ty) : bootBuiltins (tyN t) = some (.type (tyS t)) := by cases t <;> decide +kernel
theorem ty_blt (t : Ty) : tyN t ∈ bltNames := by cases t <;> decide +kernel
theorem ty_dbg (t : Ty) : tyN t ≠ "__name__" ∧ (tyN t == ("__debug__" : Str)) = false := by cases t <;> decide +kernel
theorem s_isi (ok : XOk cf Φ G sc k X) {a : E} {t : Ty} {p p2 : Pos} (hg : glB sc "isinstance" = true) (hg2 : glB sc (tyN t) = true) (ha : Ok1 X x (evE Φ G a)) (hs : notStar x = true) :
    Ok1 X (.Call (.Name "isinstance" p) [x, .Name (tyN t) p2] [] pos) (evE Φ G (.isi a t)) := by
  have pt : PE X (.Name (tyN t) p2) (tC (.ty (tyS t))) := pe_bltn (ok.gl hg2) (ok.blt _ (ty_blt t)) (ty_boot t) rfl (ty_dbg t).1 (ty_dbg t).2
  have pa : PA X [x, .Name (tyN t) p2] (tCons (tE X.K (evE Φ G a)) (tCons (tC (.ty (tyS t))) tNil)) := pa_cons ha.pe (pa_cons pt pa_nil) (starEach_cons hs)
  have hm : X.mg "isinstance" = none := ok.blt _ (by decide +kernel)
  have pe := pe_callB (isiR (X := X) t) (ok.gl hg) hm (by decide +kernel) pa (by decide) (by decide) (starEach_cons hs) (by rfl) (p := p) (pos := pos)
  refine .plain (pe.imp fun σ H Q q => ?_) (fun _ => rfl) (fun _ _ _ z => by cases z)
  obtain ⟨ι, env, h, w, h', sr, eo, e, q⟩ := q
  simp only [evE, Option.bind_eq_bind, Option.bind_eq_some_iff, Prod.exists] at e
  obtain ⟨w1, h1, e1, e⟩ := e
  split at e
  · rename_i d
    split at e
    · rename_i n hn
      cases e
      exact ⟨ι, env, h, _, h', sr, eo, e1, fun ι1 H1 v p1 s1 r1 => ⟨v, d, n, rfl, .rep r1.pure, hn, q ι1 H1 _ p1 s1 (.d (.bl _))⟩⟩
    · cases e
  · cases e

/-! ### own functions -/
theorem cellArg_spec : ∀ {ws : List W} {n : Nat}, cellArg ws = some n → ∃ (a b : List D), ws = a.map W.d ++ .ref n :: b.map W.d
  | [], _, h => by simp [cellArg] at h
  | .ref m :: r, n, h => by
    simp only [cellArg] at h
    split at h
    · rename_i hp
      cases h
      obtain ⟨b, hb⟩ := Option.isSome_iff_exists.mp hp
      refine ⟨[], b, ?_⟩
      have : ∀ {ws : List W} {b : List D}, pureL ws = some b → ws = b.map W.d := by
        intro ws
        induction ws with
        | nil => intro b h; simp only [pureL, Option.some.injEq] at h; subst h; rfl
        | cons w ws ih =>
          intro b h
          cases w with
          | d x =>
            simp only [pureL, Option.map_eq_some_iff] at h
            obtain ⟨c, h1, rfl⟩ := h
            rw [ih h1]; rfl
          | ref _ => simp [pureL] at h
      rw [this hb]; rfl
    · cases h
  | .d x :: r, n, h => by
    simp only [cellArg] at h
    obtain ⟨a, b, rfl⟩ := cellArg_spec h
    exact ⟨x :: a, b, rfl⟩
theorem pureL_eq : ∀ {ws : List W} {b : List D}, pureL ws = some b → ws = b.map W.d := by
  intro ws
  induction ws with
  | nil => intro b h; simp only [pureL, Option.some.injEq] at h; subst h; rfl
  | cons w ws ih =>
    intro b h
    cases w with
    | d x =>
      simp only [pureL, Option.map_eq_some_iff] at h
      obtain ⟨c, h1, rfl⟩ := h
      rw [ih h1]; rfl
    | ref _ => simp [pureL] at h
theorem zero_map (a : List D) : (a.map W.d).map zeroW = a.map W.d := by
  induction a with
  | nil => rfl
  | cons x a ih => simp only [List.map_cons, ih]; rfl
theorem RepWL.zero {K : PySem.W.Frag} {ι : List Addr} {H : Hp} {n : Nat} {a : Addr} (hn : ι[n]? = some a) : ∀ {as bs : List D} {vs : List V}, RepWL K ι H (as.map W.d ++ .ref n :: bs.map W.d) vs → RepWL K [a] H (as.map W.d ++ .ref 0 :: bs.map W.d) vs
  | [], bs, _, .cons r t => by
    obtain ⟨c, rfl, hc⟩ := r.cell
    rw [hn] at hc; cases hc
    exact .cons (.ref rfl) (RepWL.of (t.pure (pureL_map bs)))
  | x :: as, bs, _, .cons r t => .cons (.d r.pure) (RepWL.zero hn t)
theorem s_call (ok : XOk cf Φ G sc k X) {g : Nat} {es : Es} {n : Str} {p : Pos} {xs : List Expr} (h1 : cf.fns[g]? = some n) (h2 : glB sc n = true) (h3 : okN n = true) (hs : noStar xs = true) (hnil : xs = [] → es = .nil) (ha : PA X xs (tA X.K (evEs Φ G es))) :
    Ok1 X (.Call (.Name n p) xs [] pos) (evE Φ G (.call g es)) := by
  obtain ⟨a, fd, ps, j, hj, hm, hk, hb, F⟩ := (ok.fns g n h1).ok
  have hd := okN_dbg h3
  have pe : PE X (.Call (.Name n p) xs [] pos) (tCall (spOf X.K (Φ g)) [] E0 (tA X.K (evEs Φ G es))) := by
    cases xs with
    | nil =>
      refine (pe_call0 F (ok.room.mono hj) (ok.gl h2) hm hk hb .nil pass0 hd.1).imp fun σ H Q q => ?_
      obtain ⟨ι, env, h, ws, h', sr, eo, e, q⟩ := q
      rw [hnil rfl] at e
      simp only [evEs] at e
      cases e
      exact q ι H [] .refl sr .nil
    | cons x xs =>
      have hs' := hs
      simp only [noStar, Bool.and_eq_true] at hs
      exact pe_call F (ok.room.mono hj) (ok.gl h2) hm hk hb .nil pass0 ha hd.1 (starEach_cons hs.1) (noStar_any hs.2 _)
  refine .plain (pe.imp fun σ H Q q => ?_) (fun _ => rfl) (fun _ _ _ z => by cases z)
  obtain ⟨ι, env, h, w, h', sr, eo, e, q⟩ := q
  simp only [evE, Option.bind_eq_bind, Option.bind_eq_some_iff, Prod.exists] at e
  obtain ⟨ws, h1, e1, e⟩ := e
  refine ⟨ι, env, h, ws, h1, sr, eo, e1, fun ι1 H1 vs p1 s1 r1 => ?_⟩
  have q1 := q.stp p1
  show spOf X.K (Φ g) (vs ++ []) H1 Q E0
  rw [List.append_nil]
  split at e
  · rename_i f hf
    simp only [Option.bind_eq_some_iff, Option.some.injEq, Prod.mk.injEq] at e
    obtain ⟨ds, e2, d, e3, rfl, rfl⟩ := e
    rw [hf]
    exact ⟨ds, d, r1.pure e2, e3, rep_post s1 q1⟩
  · rename_i f hf
    simp only [Option.bind_eq_some_iff, Option.some.injEq, Prod.mk.injEq] at e
    obtain ⟨ds, e2, r, e3, rfl, rfl⟩ := e
    rw [hf]
    refine ⟨ds, r, r1.pure e2, e3, fun H' p us sm hp hp' ru => ?_⟩
    have s2 := s1.same sm
    have hn : p ∉ ι1 := s1.notin hp
    refine q1 (ι1 ++ [p]) H' _ ⟨List.prefix_append _ _, .of_same sm, fun c hc => ?_⟩ (s2.take hn (by rw [hp']; simp) ⟨us, hp', RepWL.of ru⟩) (.ref (by rw [← s1.len]; simp))
    rcases List.mem_append.mp hc with z | z
    · exact .inl z
    · simp at z; subst z; exact .inr hp
  · rename_i f hf
    simp only [Option.bind_eq_some_iff] at e
    obtain ⟨m, e2, e⟩ := e
    split at e
    · rename_i l hl
      simp only [Option.bind_eq_some_iff, Prod.exists, Option.some.injEq, Prod.mk.injEq] at e
      obtain ⟨c, e3, d, c', e4, rfl, rfl⟩ := e
      rw [hf]
      obtain ⟨as, bs, rfl⟩ := cellArg_spec e2
      have hlt : m < h1.length := (List.getElem?_eq_some_iff.mp hl).1
      obtain ⟨adr, hadr⟩ : ∃ adr, ι1[m]? = some adr := ⟨_, List.getElem?_eq_getElem (by rw [s1.len]; exact hlt)⟩
      obtain ⟨us, hu, ru⟩ := s1.cell m _ adr hl hadr
      have hmem : adr ∈ ι1 := List.mem_of_getElem? hadr
      have zz : (as.map W.d ++ W.ref m :: bs.map W.d).map zeroW = as.map W.d ++ W.ref 0 :: bs.map W.d := by
        rw [List.map_append, List.map_cons, zero_map, zero_map]; rfl
      rw [zz] at e4
      refine ⟨adr, _, c, us, d, c', RepWL.zero hadr r1, hu, ru.pure e3, e4, fun H' v us' x hu' ru' rv => ?_⟩
      have x' : Ext ι1 H1 H' := ⟨x.fx, fun b o hb q => x.oth b o (fun z => by simp at z; subst z; exact hb hmem) q⟩
      refine q1 ι1 H' v ⟨List.prefix_refl _, x', fun c hc => .inl hc⟩ ⟨by simp [s1.len], s1.nd, fun b hb => ?_, fun n cl b hn hb => ?_⟩ (.d rv)
      · by_cases hba : b = adr
        · subst hba; rw [hu']; simp
        · cases q : H1 b with
          | none => exact absurd q (s1.trk b hb)
          | some o => rw [x.oth b o (by simpa using hba) q]; simp
      · by_cases hnm : n = m
        · subst hnm
          rw [hadr] at hb; cases hb
          rw [List.getElem?_set_self hlt] at hn
          cases hn
          exact ⟨us', hu', RepWL.of ru'⟩
        · rw [List.getElem?_set_ne (Ne.symm hnm)] at hn
          have hne : b ≠ adr := nodup_get_ne s1.nd hb hadr hnm
          exact (s1.cell n cl b hn hb).ext (List.prefix_refl _) x.fx fun o q => x.oth b o (by simpa using hne) q
    · cases e
  · cases e

/-! ### a list is made -/
theorem Stp.off {ι ι' : List Addr} {H H' : Hp} {p : Addr} {o u : HO} (s : Stp ι H ι' H') (hp : H p = none) (hu : H' p = some u) (n1 : ∀ xs, u ≠ .tup xs) (n2 : ∀ o w, u ≠ .frz o w) : Stp ι H ι' (upd H' p o) :=
  ⟨s.pre, ⟨s.fx.trans (fx_write hu n1 n2), fun b x hb q => by rw [upd_ne (ne_of_none q hp)]; exact s.ext.oth b x hb q⟩, s.new⟩
theorem pe_mkl {m : Bool} {c : C} {f : Env → DH → Option (List W × DH)} (hf : f = evC Φ G c) (hpe : PE X x (tR X.K f)) : PE X x (tE X.K (evE Φ G (.mkl m c))) := by
  cases m with
  | true =>
    refine hpe.imp fun σ H Q q => ?_
    obtain ⟨ι, env, h, w, h', sr, eo, e, q⟩ := q
    simp only [evE, mkL, Option.bind_eq_bind, Option.bind_eq_some_iff, Prod.exists, if_true, Option.some.injEq, Prod.mk.injEq] at e
    obtain ⟨ws, h1, e1, rfl, rfl⟩ := e
    subst hf
    refine ⟨ι, env, h, ws, h1, sr, eo, e1, fun ι1 H1 p vs p1 s1 hp hn hq r => ?_⟩
    refine q (ι1 ++ [p]) H1 _ ⟨p1.pre.trans (List.prefix_append _ _), p1.ext, fun c hc => ?_⟩ (s1.take hn (by rw [hp]; simp) ⟨vs, hp, r.ext (List.prefix_append _ _) .refl⟩) (.ref (by rw [← s1.len]; simp))
    rcases List.mem_append.mp hc with z | z
    · exact p1.new c z
    · simp at z; subst z; exact .inr hq
  | false =>
    refine ⟨fun pins s σ H Q I q => thn (hpe.run pins s σ H (fun v H' => ∃ p vs, v = .ref p ∧ H' p = some (.lst vs) ∧ ∀ o, Q v (upd H' p (.frz o (.lst vs)))) I ?_) fun _ _ => EP.frz⟩
    obtain ⟨ι, env, h, w, h', sr, eo, e, q⟩ := q
    simp only [evE, mkL, Option.bind_eq_bind, Option.bind_eq_some_iff, Prod.exists, Bool.false_eq_true, if_false, Option.map_eq_some_iff, Prod.mk.injEq] at e
    obtain ⟨ws, h1, e1, ds, e2, rfl, rfl⟩ := e
    subst hf
    refine ⟨ι, env, h, ws, h1, sr, eo, e1, fun ι1 H1 p vs p1 s1 hp hn hq r => ⟨p, vs, rfl, hp, fun o => ?_⟩⟩
    have n1 : ∀ xs, HO.lst vs ≠ .tup xs := fun _ z => by cases z
    have n2 : ∀ o w, HO.lst vs ≠ .frz o w := fun _ _ z => by cases z
    exact q ι1 _ _ (p1.off hq hp n1 n2) (s1.off hn hp n1 n2) (.d (.lst ⟨o, upd_same⟩ ((r.pure e2).ext (fx_write hp n1 n2))))
theorem s_disp {es : Es} {xs : List Expr} (ha : PA X xs (tA X.K (evEs Φ G es))) : PE X (.List xs pos) (tR X.K (evC Φ G (.disp es))) := (pe_lst ha).imp fun σ H Q q => by
  obtain ⟨ι, env, h, w, h', sr, eo, e, q⟩ := q
  simp only [evC, Option.bind_eq_bind, Option.bind_eq_some_iff, Prod.exists] at e
  obtain ⟨ws, h1, e1, e⟩ := e
  split at e
  · rename_i hl
    cases e
    exact ⟨ι, env, h, _, h', sr, eo, e1, fun ι1 H1 vs p1 s1 r1 => ⟨by rw [← r1.length, ← line_eq]; exact hl, fun p hp => (q.stp p1).fresh s1 hp r1⟩⟩
  · cases e
/-- list(x) by data -/
def rOfl (K : PySem.W.Frag) : List V → Hp → VK → Prop := fun xs H Q => ∃ ι h w d ds v, xs = [v] ∧ SR K ι H h ∧ RepW K ι H w v ∧ valD h w = some d ∧ (d = .lst ds ∨ d = .tup ds ∨ ∃ ns, d = .scr ns ∧ ds = ns.map D.int) ∧ PostC K ι H (ds.map W.d) h Q
theorem oflR : CallR X (.type "list") (rOfl X.K) := by
  intro pins s σ H xs us Q I rs hq
  obtain ⟨ι, h, w, d, ds, v, rfl, sr, rw', e, hd, q⟩ := hq
  have i := rw'.is sr e
  rcases hd with rfl | rfl | ⟨ns, rfl, rfl⟩
  · obtain ⟨a, vs, rfl, h1, r1⟩ := i.sq
    exact call_list_of pins s σ H _ us Q I rs ⟨a, vs, rfl, .inl (.inl h1), fun l hl => q.fresh sr hl (RepWL.of r1)⟩
  · obtain ⟨a, vs, rfl, h1, r1⟩ := i.tup
    exact call_list_of pins s σ H _ us Q I rs ⟨a, vs, rfl, .inr h1, fun l hl => q.fresh sr hl (RepWL.of r1)⟩
  · cases i with
    | rep r =>
      cases r with
      | scr hs =>
        refine call_list_of pins s σ H _ us Q I rs ⟨_, _, rfl, .inl ?_, fun l hl => q.fresh sr hl (RepWL.of .of_ints)⟩
        rcases hs with ⟨o, h1⟩ | h1
        · exact .inl (.inr ⟨o, h1⟩)
        · exact .inr h1
theorem s_ofl (ok : XOk cf Φ G sc k X) {a : E} {p : Pos} (hg : glB sc "list" = true) (ha : Ok1 X x (evE Φ G a)) (hs : notStar x = true) : PE X (.Call (.Name "list" p) [x] [] pos) (tR X.K (evC Φ G (.ofl a))) := by
  have hm : X.mg "list" = none := ok.blt _ (by decide +kernel)
  refine (pe_callTy (oflR (X := X)) (ok.gl hg) hm (by decide +kernel) (pa_cons ha.pe pa_nil (starEach_cons hs)) (by decide) (by decide) (starEach_cons hs) (by rfl)).imp fun σ H Q q => ?_
  obtain ⟨ι, env, h, w, h', sr, eo, e, q⟩ := q
  simp only [evC, Option.bind_eq_bind, Option.bind_eq_some_iff, Prod.exists, Option.some.injEq, Prod.mk.injEq] at e
  obtain ⟨w, h1, e1, d, e2, ds, e3, rfl, rfl⟩ := e
  refine ⟨ι, env, h, w, h1, sr, eo, e1, fun ι1 H1 v p1 s1 r1 => ⟨ι1, h1, w, d, ds, v, rfl, s1, r1, e2, ?_, q.stp p1⟩⟩
  split at e3 <;> first | cases e3 | skip
  · exact .inl rfl
  · exact .inr (.inl rfl)
  · exact .inr (.inr ⟨_, rfl, rfl⟩)
theorem PO.of {o : Option Expr} : True := trivial
/-- list(range(..)) -/
theorem rg_ints {K : PySem.W.Frag} {H : Hp} (i j : Int) : RepL K H ((List.range (j - i).toNat).map fun (k : Nat) => D.int (i + k)) (rgV i j) := by
  have : ((List.range (j - i).toNat).map fun (k : Nat) => D.int (i + k)) = (((List.range (j - i).toNat).map fun (k : Nat) => (i + (k : Int))).map D.int) := by rw [List.map_map]; rfl
  rw [this]
  have e2 : rgV i j = (((List.range (j - i).toNat).map fun (k : Nat) => (i + (k : Int))).map V.int) := by unfold rgV; rw [List.map_map]; rfl
  rw [e2]
  exact .of_ints
theorem s_oflr1 (ok : XOk cf Φ G sc k X) {a : E} {p p2 pos2 : Pos} (hg : glB sc "list" = true) (hg2 : glB sc "range" = true) (ha : Ok1 X x (evE Φ G a)) (hs : notStar x = true) :
    PE X (.Call (.Name "list" p) [.Call (.Name "range" p2) [x] [] pos2] [] pos) (tR X.K (evC Φ G (.ofl (.rng (.cons a .nil))))) := by
  have hm : X.mg "list" = none := ok.blt _ (by decide +kernel)
  have hm2 : X.mg "range" = none := ok.blt _ (by decide +kernel)
  refine (pe_listRg ok.calm (ok.gl hg) hm (prg_1 (ok.gl hg2) hm2 ha.pe (starEach_cons hs)) rfl).imp fun σ H Q q => ?_
  obtain ⟨ι, env, h, w, h', sr, eo, e, q⟩ := q
  simp only [evC, evE, evEs, Option.bind_eq_bind, Option.bind_eq_some_iff, Prod.exists, Option.some.injEq, Prod.mk.injEq] at e
  obtain ⟨_, _, ⟨_, _, ⟨w, h1, e1, _, _, ⟨rfl, rfl⟩, rfl, rfl⟩, ds, e2, rs, e3, rfl, rfl⟩, d, e4, ds', e5, rfl, rfl⟩ := e
  cases w with
  | ref n => simp [pureL] at e2
  | d w =>
    simp only [pureL, Option.map_some, Option.some.injEq] at e2
    subst e2
    cases w <;> simp only [rngD, reduceCtorEq] at e3
    rename_i j
    split at e3
    · rename_i hl
      cases e3
      simp only [Bool.and_eq_true, decide_eq_true_eq, lo62_iff, hi62_iff, lo63_iff, hi63_iff, hi30_iff, hiP_iff, hi24_iff, b64_iff] at hl
      simp only [valD, Option.some.injEq] at e4
      subst e4
      simp only [Option.some.injEq] at e5
      subst e5
      refine ⟨ι, env, h, _, h1, sr, eo, e1, fun ι1 H1 v p1 s1 r1 => ⟨j, r1.int, ⟨by omega, by omega, by omega, by omega, by omega⟩, fun p hp => (q.stp p1).fresh s1 hp (RepWL.of ?_)⟩⟩
      have := rg_ints (K := X.K) (H := H1) 0 j
      simpa using this
    · cases e3
theorem s_oflr2 (ok : XOk cf Φ G sc k X) {a b : E} {p p2 pos2 : Pos} (hg : glB sc "list" = true) (hg2 : glB sc "range" = true) (ha : Ok1 X x (evE Φ G a)) (hb : Ok1 X y (evE Φ G b)) (hs : notStar x = true) (hs2 : notStar y = true) :
    PE X (.Call (.Name "list" p) [.Call (.Name "range" p2) [x, y] [] pos2] [] pos) (tR X.K (evC Φ G (.ofl (.rng (.cons a (.cons b .nil)))))) := by
  have hm : X.mg "list" = none := ok.blt _ (by decide +kernel)
  have hm2 : X.mg "range" = none := ok.blt _ (by decide +kernel)
  refine (pe_listRg ok.calm (ok.gl hg) hm (prg_2 (ok.gl hg2) hm2 ha.pe hb.pe (starEach_cons hs) (starEach_cons hs2) (noStar_any (es := [y]) (by simp [noStar, hs2]) _)) rfl).imp fun σ H Q q => ?_
  obtain ⟨ι, env, h, w, h', sr, eo, e, q⟩ := q
  simp only [evC, evE, evEs, Option.bind_eq_bind, Option.bind_eq_some_iff, Prod.exists, Option.some.injEq, Prod.mk.injEq] at e
  obtain ⟨_, _, ⟨_, _, ⟨w, h1, e1, _, _, ⟨w2, h2, e1', _, _, ⟨rfl, rfl⟩, rfl, rfl⟩, rfl, rfl⟩, ds, e2, rs, e3, rfl, rfl⟩, d, e4, ds', e5, rfl, rfl⟩ := e
  cases w with
  | ref n => simp [pureL] at e2
  | d w =>
    cases w2 with
    | ref n => simp [pureL] at e2
    | d w2 =>
      simp only [pureL, Option.map_some, Option.some.injEq] at e2
      subst e2
      cases w <;> cases w2 <;> simp only [rngD, reduceCtorEq] at e3
      rename_i i j
      split at e3
      · rename_i hl
        cases e3
        simp only [Bool.and_eq_true, decide_eq_true_eq, lo62_iff, hi62_iff, lo63_iff, hi63_iff, hi30_iff, hiP_iff, hi24_iff, b64_iff] at hl
        simp only [valD, Option.some.injEq] at e4
        subst e4
        simp only [Option.some.injEq] at e5
        subst e5
        refine ⟨ι, env, h, _, h1, sr, eo, e1, fun ι1 H1 v p1 s1 r1 => ⟨ι1, env, h1, _, h2, s1, eo.stp p1, e1', fun ι2 H2 v2 p2 s2 r2 => ⟨i, j, (r1.stp p2).int, r2.int, ⟨by omega, by omega, by omega, by omega, by have := hl.2; simp only [line] at this; omega⟩, fun p hp => (q.stp (p1.trans p2)).fresh s2 hp (RepWL.of (rg_ints i j))⟩⟩⟩
      · cases e3
/-- list * int by data -/
def rRepC (K : PySem.W.Frag) : R2 := fun x y H Q => ∃ ι h xs k, SR K ι H h ∧ RepW K ι H (.d (.lst xs)) x ∧ RepW K ι H (.d (.int k)) y ∧ (-(2 ^ 63) ≤ k ∧ k < 2 ^ 63 ∧ xs.length * k.toNat ≤ line) ∧ PostC K ι H ((List.replicate k.toNat xs).flatten.map W.d) h Q
theorem repR : OpR X (binaryOp .Mult) (rRepC X.K) := by
  intro pins s σ H x y v u Q I rx ry hq
  obtain ⟨ι, h, xs, k, sr, r1, r2, ⟨h1, h2, hz⟩, q⟩ := hq
  obtain ⟨l, vs, rfl, hH, r⟩ := (Is.rep r1.pure).sq
  obtain rfl := r2.int
  cases rx
  obtain ⟨t, rfl⟩ := ry
  obtain ⟨z, its, n, rv, hl, e⟩ := Inv.rdl I hH
  have hxl := r.length
  have hlen : its.toArray.size * k.toNat ≤ sizeLine := by rw [List.size_toArray, ← hl, ← hxl, ← line_eq]; exact hz
  have hcap : ¬ its.toArray.size * k.toNat > (2 ^ 63 - 1) / 8 := by
    have : (sizeLine : Nat) ≤ (2 ^ 63 - 1) / 8 := by decide
    omega
  have hfit : ¬ (!Builtin.List.listFitsIndex k) = true := by
    rw [fitsIndex_both h1 h2]
    exact Bool.false_ne_true
  have hlong : ¬ Builtin.List.listTooLong (its.toArray.size * k.toNat) = true := by
    rw [notLongL hlen]
    exact Bool.false_ne_true
  have hnew : List.foldl (fun x1 x2 => x1 ++ x2) #[] (List.replicate (if its.toArray.isEmpty = true then 0 else k.toNat) its.toArray) = (List.replicate k.toNat its).flatten.toArray := by
    have f0 : ∀ m : Nat, List.foldl (fun x1 x2 => x1 ++ x2) #[] (List.replicate m its.toArray) = (List.replicate m its).flatten.toArray := fun m => by
      have := foldl_rep its m []
      rw [List.nil_append] at this
      exact this
    rw [f0]
    cases its with
    | nil => simp
    | cons a r' => rw [if_neg (by simp)]
  refine wpAny_binaryOp_repeat_ref (T := "list") (U := "int") (by decide) ⟨_, e, rfl⟩ (fun s' => typeIs_int s' k t) noFill_list_mul F.fills_int_mul F.slot_int_rmul repeat_list F.slot_int_index.lookup
    (call_meets F.slot_int_rmul (typeIs_int s k t) F.entry_int_rmul (F.args_int_rmul_2 _ _) (int___rmul___int_list k t l its.toArray n)
      ⟨e, rfl, ⟨_, e, rfl⟩, call_meets F.slot_list_mul ⟨_, e, rfl⟩ F.entry_list_mul (F.args_list_mul_2 _ _) (AutoListH.list___mul___list_int_3 l its.toArray n k t hfit hcap hlong) ⟨e, ?_⟩⟩)
  rw [hnew]
  exact ⟨.ref _, _, I.lnew (t' := s.toks) (rv.rep k.toNat) (by rw [PyProof.Rows.lm_len_rep_flat, Nat.mul_comm, hl]; simpa using hlen), rfl, q.fresh sr (I.hok.fresh (Nat.le_refl _)) (RepWL.of (r.rep k.toNat))⟩
theorem s_rep {a b : E} (ha : Ok1 X x (evE Φ G a)) (hb : Ok1 X y (evE Φ G b)) : PE X (.BinOp x .Mult y pos) (tR X.K (evC Φ G (.rep a b))) := (pe_op repR ha.pe hb.pe).imp fun σ H Q q => by
  obtain ⟨ι, env, h, w, h', sr, eo, e, q⟩ := q
  simp only [evC, Option.bind_eq_bind, Option.bind_eq_some_iff, Prod.exists] at e
  obtain ⟨x, h1, e1, y, h2, e2, e⟩ := e
  split at e
  · split at e
    · rename_i hl
      cases e
      simp only [Bool.and_eq_true, decide_eq_true_eq, lo62_iff, hi62_iff, lo63_iff, hi63_iff, hi30_iff, hiP_iff, hi24_iff, b64_iff] at hl
      exact tOp_of sr eo e1 e2 fun ι2 H2 vx vy p s2 r1 r2 => ⟨ι2, _, _, _, s2, r1, r2, ⟨hl.1.1, hl.1.2, hl.2⟩, q.stp p⟩
    · cases e
  · cases e
end
end Sh

/-! what is walked; list comprehensions -/
namespace Sh
open PySem PySem.Spec PyProof.Rows L2

section
variable {X : Cx} {x y z tg : Expr} {pos : Pos} {cf : Cf} {Φ : Nat → FSpec} {G : Nat → D} {sc : Scope} {k : Nat}
theorem wk_lst {K : PySem.W.Frag} {H : Hp} {a : Addr} {vs : List V} {ds : List D} (h : SqF H a vs) (r : RepL K H ds vs) : WkOk K (Itl K a) ds H := fun H' fx i => by
  have h' := sqf_ext fx h
  have r' := r.ext fx
  refine ⟨fun d hd => ?_, fun hi => ⟨vs, h'.sql, by rw [← r'.length]; exact hi⟩⟩
  obtain ⟨v, h1, h2⟩ := r'.get hd
  refine ⟨⟨vs, v, h'.sql, h1⟩, fun x H2 hy => ?_⟩
  obtain ⟨rfl, hy⟩ := hy
  have := hy vs h'.sql
  rw [h1] at this; cases this
  exact ⟨Same.refl _, h2⟩
theorem wk_tup {K : PySem.W.Frag} {H : Hp} {a : Addr} {vs : List V} {ds : List D} (h : SqT K H a vs) (r : RepL K H ds vs) : WkOk K (Itt K a) ds H := fun H' fx i => by
  have h' := sqt_ext fx h
  have r' := r.ext fx
  refine ⟨fun d hd => ?_, fun hi => ⟨vs, h', by rw [← r'.length]; exact hi⟩⟩
  obtain ⟨v, h1, h2⟩ := r'.get hd
  refine ⟨⟨vs, v, h', h1⟩, fun x H2 hy => ?_⟩
  obtain ⟨rfl, hy⟩ := hy
  have := hy vs h'
  rw [h1] at this; cases this
  exact ⟨Same.refl _, h2⟩
theorem wk_str {K : PySem.W.Frag} {H : Hp} {s : List Nat} (h : okCp s = true) : WkOk K (Its ⟨s.toArray⟩) (s.map fun c => .str [c]) H := fun H' fx i => by
  refine ⟨fun d hd => ?_, fun hi => ?_⟩
  · simp only [List.getElem?_map, Option.map_eq_some_iff] at hd
    obtain ⟨c, hc, rfl⟩ := hd
    have hlt := (List.getElem?_eq_some_iff.mp hc).1
    refine ⟨by show i < s.toArray.size; simpa using hlt, fun x H2 hy => ?_⟩
    obtain ⟨rfl, c', h1, rfl⟩ := hy
    have h1 : s[i]? = some c' := by simpa using h1
    rw [hc] at h1; cases h1
    refine ⟨Same.refl _, .str [c] ?_⟩
    unfold okCp at h ⊢
    simp only [List.all_eq_true] at h
    simp only [List.all_cons, List.all_nil, Bool.and_true]
    exact h c (List.mem_of_getElem? hc)
  · show s.toArray.size ≤ i
    simpa using hi
theorem wk_rng {K : PySem.W.Frag} {H : Hp} (lo : Int) (n : Nat) : WkOk K (Itr lo n) ((List.range n).map fun (k : Nat) => D.int (lo + k)) H := fun H' fx i => by
  refine ⟨fun d hd => ?_, fun hi => ?_⟩
  · simp only [List.getElem?_map, Option.map_eq_some_iff] at hd
    obtain ⟨c, hc, rfl⟩ := hd
    have hlt : i < n := by have := (List.getElem?_eq_some_iff.mp hc).1; simpa using this
    have hci : i = c := by have := (List.getElem?_eq_some_iff.mp hc).2; simpa using this
    subst hci
    refine ⟨hlt, fun x H2 hy => ?_⟩
    obtain ⟨rfl, rfl⟩ := hy
    exact ⟨Same.refl _, .int _⟩
  · show n ≤ i
    simpa using hi
theorem pi_val {a : E} (pe : PE X x (tE X.K (evE Φ G a))) : PI X tg x (tI X.K (evE Φ G a)) := by
  refine ⟨fun pins s σ H R I hq => ?_⟩
  obtain ⟨ι, env, h0, d, h', ds, sr, eo, e, ei, q⟩ := hq
  refine thn (pe.run pins s σ H (fun v H1 => ∃ ι1, Stp ι H ι1 H1 ∧ SR X.K ι1 H1 h' ∧ Rep X.K H1 d v) I ⟨ι, env, h0, .d d, h', sr, eo, e, fun ι' H' v p s r => ⟨ι', p, s, r.pure⟩⟩) fun v s1 ⟨xv, H1, I1, r1, ι1, p1, sr1, rx⟩ => ?_
  cases rx <;> simp only [itemsD, Option.some.injEq, reduceCtorEq] at ei
  · rename_i cs ho _
    split at ei
    · cases ei
      obtain ⟨t, rfl⟩ := r1
      have wk := wk_str (K := X.K) (H := H1) ho
      cases ha : (⟨cs.toArray⟩ : Str).cps.all (· < 128)
      · exact wpAny_pyIter_wide ha (pi_one (tk := s1.toks) I1 _ (turn_str _ _ t "str_iterator" (.inr rfl)) ⟨_, Heap.get?_push_size _ rfl, rfl, rfl⟩ (q ι1 H1 _ p1 sr1 wk))
      · exact wpAny_pyIter_ascii ha (pi_one (tk := s1.toks) I1 _ (turn_str _ _ t "str_ascii_iterator" (.inl rfl)) ⟨_, Heap.get?_push_size _ rfl, rfl, rfl⟩ (q ι1 H1 _ p1 sr1 wk))
    · cases ei
  · rename_i a vs xs hq r _
    subst ei
    cases r1
    obtain ⟨its, rv, p, hz⟩ := I1.tuple hq
    refine wpAny_pyIter_tuple (show s1.heap.IsTuple a its.toArray from p) ?_
    refine ⟨s1.heap.objs.size, [s1.heap.objs.size], _, _, H1, rfl, I1.kept (t' := s1.toks) fun b o e => Heap.get?_push_of_some _ e, turn_tuple a _, ⟨_, Heap.get?_push_size _ rfl, rfl, rfl⟩, fun b hb => ?_, q ι1 H1 _ p1 sr1 (wk_tup hq r)⟩
    have e : b = s1.heap.objs.size := by simpa using hb
    subst e
    exact I1.fpOk (Nat.le_refl _) (I1.hok.fresh (Nat.le_refl _))
  · rename_i a vs xs hq r _
    subst ei
    cases r1
    obtain ⟨its, rv, p, hz⟩ := I1.list hq.sql
    refine wpAny_pyIter_list p.isList ?_
    refine ⟨s1.heap.objs.size, [s1.heap.objs.size], _, _, H1, rfl, I1.kept (t' := s1.toks) fun b o e => Heap.get?_push_of_some _ e, turn_list a _, ⟨_, Heap.get?_push_size _ rfl, rfl, rfl⟩, fun b hb => ?_, q ι1 H1 _ p1 sr1 (wk_lst hq r)⟩
    have e : b = s1.heap.objs.size := by simpa using hb
    subst e
    exact I1.fpOk (Nat.le_refl _) (I1.hok.fresh (Nat.le_refl _))
theorem pi_r1 (ok : XOk cf Φ G sc k X) {a : E} {p : Pos} (hg : glB sc "range" = true) (ha : Ok1 X x (evE Φ G a)) (hs : notStar x = true) : PI X tg (.Call (.Name "range" p) [x] [] pos) (tI X.K (evE Φ G (.rng (.cons a .nil)))) := by
  have hm : X.mg "range" = none := ok.blt _ (by decide +kernel)
  refine (pi_range1 (ok.gl hg) hm (pa_cons ha.pe pa_nil (starEach_cons hs)) (starEach_cons hs)).imp fun σ H Q q => ?_
  obtain ⟨ι, env, h, d, h', ds, sr, eo, e, ei, q⟩ := q
  simp only [evE, evEs, Option.bind_eq_bind, Option.bind_eq_some_iff, Prod.exists, Option.some.injEq, Prod.mk.injEq] at e
  obtain ⟨_, _, ⟨w, h1, e1, _, _, ⟨rfl, rfl⟩, rfl, rfl⟩, ds', e2, rs, e3, e4, rfl⟩ := e
  cases w with
  | ref n => simp [pureL] at e2
  | d w =>
    simp only [pureL, Option.map_some, Option.some.injEq] at e2
    subst e2
    cases w <;> simp only [rngD, reduceCtorEq] at e3
    rename_i j
    split at e3
    · rename_i hl
      cases e3
      cases e4
      simp only [Bool.and_eq_true, decide_eq_true_eq, lo62_iff, hi62_iff, lo63_iff, hi63_iff, hi30_iff, hiP_iff, hi24_iff, b64_iff] at hl
      simp only [itemsD, Option.some.injEq] at ei
      subst ei
      refine ⟨ι, env, h, _, h1, sr, eo, e1, fun ι1 H1 v p1 s1 r1 => ⟨j, by rw [r1.int], by omega, by omega, q ι1 H1 _ p1 s1 ?_⟩⟩
      have := wk_rng (K := X.K) (H := H1) 0 j.toNat
      simpa using this
    · cases e3
theorem pi_r2 (ok : XOk cf Φ G sc k X) {a b : E} {p : Pos} (hg : glB sc "range" = true) (ha : Ok1 X x (evE Φ G a)) (hb : Ok1 X y (evE Φ G b)) (hs : notStar x = true) (hs2 : notStar y = true) :
    PI X tg (.Call (.Name "range" p) [x, y] [] pos) (tI X.K (evE Φ G (.rng (.cons a (.cons b .nil))))) := by
  have hm : X.mg "range" = none := ok.blt _ (by decide +kernel)
  have s2 : starEach [y] X.env = [(false, eval y X.env)] := starEach_cons hs2
  have s1 : starEach [x, y] X.env = [(false, eval x X.env), (false, eval y X.env)] := by rw [starEach_cons hs, s2]
  refine (pi_range2 (ok.gl hg) hm (pa_cons ha.pe (pa_cons hb.pe pa_nil (starEach_cons hs2)) (starEach_cons hs)) s1 s2).imp fun σ H Q q => ?_
  obtain ⟨ι, env, h, d, h', ds, sr, eo, e, ei, q⟩ := q
  simp only [evE, evEs, Option.bind_eq_bind, Option.bind_eq_some_iff, Prod.exists, Option.some.injEq, Prod.mk.injEq] at e
  obtain ⟨_, _, ⟨w, h1, e1, _, _, ⟨w2, h2, e1', _, _, ⟨rfl, rfl⟩, rfl, rfl⟩, rfl, rfl⟩, ds', e2, rs, e3, e4, rfl⟩ := e
  cases w with
  | ref n => simp [pureL] at e2
  | d w =>
    cases w2 with
    | ref n => simp [pureL] at e2
    | d w2 =>
      simp only [pureL, Option.map_some, Option.some.injEq] at e2
      subst e2
      cases w <;> cases w2 <;> simp only [rngD, reduceCtorEq] at e3
      rename_i i j
      split at e3
      · rename_i hl
        cases e3
        cases e4
        simp only [Bool.and_eq_true, decide_eq_true_eq, lo62_iff, hi62_iff, lo63_iff, hi63_iff, hi30_iff, hiP_iff, hi24_iff, b64_iff] at hl
        simp only [itemsD, Option.some.injEq] at ei
        subst ei
        exact ⟨ι, env, h, _, h1, sr, eo, e1, fun ι1 H1 v p1 s1 r1 => ⟨ι1, env, h1, _, h2, s1, eo.stp p1, e1', fun ι2 H2 v2 p2 s2 r2 => ⟨i, j, by rw [(r1.stp p2).int, r2.int], ⟨hl.1.1.1.1, hl.1.1.1.2, hl.1.1.2, hl.1.2⟩, q ι2 H2 _ (p1.trans p2) s2 (wk_rng i _)⟩⟩⟩
      · cases e3
/-! ### targets -/
theorem EnvOk.set {K : PySem.W.Frag} {ι : List Addr} {H : Hp} {env : Env} {σ : L2.St} {w : W} {v : V} (eo : EnvOk K ι H env σ) (r : RepW K ι H w v) (i : Nat) : EnvOk K ι H (env.set i (some w)) (σ.set i (some v)) := by
  refine ⟨by simp [eo.len], fun j w' hj => ?_⟩
  by_cases hij : j = i
  · subst hij
    have hlt : j < env.length := by have := (List.getElem?_eq_some_iff.mp hj).1; simpa using this
    rw [List.getElem?_set_self hlt] at hj
    cases hj
    exact ⟨v, List.getElem?_set_self (by rw [← eo.len]; exact hlt), r⟩
  · rw [List.getElem?_set_ne (Ne.symm hij)] at hj
    obtain ⟨v', h1, h2⟩ := eo.val j w' hj
    exact ⟨v', by rw [List.getElem?_set_ne (Ne.symm hij)]; exact h1, h2⟩
theorem EnvOk.wipe {K : PySem.W.Frag} {ι : List Addr} {H : Hp} {env : Env} {σ : L2.St} (eo : EnvOk K ι H env σ) : ∀ vs : List Nat, EnvOk K ι H (wipeE env vs) (wipe σ vs)
  | [] => eo
  | v :: vs => by
    have ih := EnvOk.wipe eo vs
    refine ⟨by simp [wipeE, L2.wipe, ih.len], fun j w hj => ?_⟩
    unfold wipeE at hj
    unfold L2.wipe
    by_cases hjv : j = v
    · subst hjv
      by_cases hl : j < (wipeE env vs).length
      · rw [List.getElem?_set_self hl] at hj; cases hj
      · rw [List.getElem?_eq_none (by simpa using hl)] at hj; cases hj
    · rw [List.getElem?_set_ne (Ne.symm hjv)] at hj ⊢
      exact ih.val j w hj
/-- a target's reading by data -/
def gP (K : PySem.W.Frag) (p : Pat) : TG := fun v σ H Q => ∃ ι env h x env', SR K ι H h ∧ EnvOk K ι H env σ ∧ Rep K H x v ∧ p.bind x env = some env' ∧ ∀ σ', EnvOk K ι H env' σ' → (∀ vs, (∀ i ∈ p.vars, i ∈ vs) → L2.wipe σ' vs = L2.wipe σ vs) → Q σ' H
theorem wipe_set {σ : L2.St} {i : Nat} {v : Option V} : ∀ {vs : List Nat}, i ∈ vs → L2.wipe (σ.set i v) vs = L2.wipe σ vs
  | [], h => by simp at h
  | j :: vs, h => by
    unfold L2.wipe
    by_cases hv : i ∈ vs
    · rw [wipe_set hv]
    · have hij : i = j := by
        rcases List.mem_cons.mp h with h | h
        · exact h
        · exact absurd h hv
      subst hij
      have key : ∀ (τ : L2.St) (us : List Nat), i ∉ us → L2.wipe (τ.set i v) us = (L2.wipe τ us).set i v := by
        intro τ us
        induction us with
        | nil => intro _; rfl
        | cons u us ih =>
          intro hu
          simp only [List.mem_cons, not_or] at hu
          unfold L2.wipe
          rw [ih hu.2, List.set_comm _ _ hu.1]
      rw [key σ vs hv, List.set_set]
theorem gl_names {fs : Scope} (ok : XOk cf Φ G sc k X) (fo : FOk fs X) : ∀ {is : List Nat} {es : List Expr}, patB.go cf fs is es = true → ∃ t, PGs X es t ∧ (assignEach es X.env).length = es.length ∧ (assignEach es X.env).findIdx? (·.1) = none ∧ is.length = es.length ∧
    ∀ (ι : List Addr) (env env' : Env) (h : DH) (H : Hp) (σ : L2.St) (ds : List D) (vs : List V) (Q : L2.St → Hp → Prop), SR X.K ι H h → EnvOk X.K ι H env σ → RepL X.K H ds vs → bindL is ds env = some env' →
      (∀ σ', EnvOk X.K ι H env' σ' → (∀ us, (∀ i ∈ is, i ∈ us) → L2.wipe σ' us = L2.wipe σ us) → Q σ' H) → t vs σ H Q
  | [], [], _ => ⟨gNil, pgs_nil, rfl, rfl, rfl, fun ι env env' h H σ ds vs Q sr eo r e q => by
      cases r with
      | nil =>
        simp only [bindL, Option.some.injEq] at e
        subst e
        exact ⟨rfl, q σ eo fun _ _ => rfl⟩
      | cons a b => simp [bindL] at e⟩
  | [], _ :: _, h => by simp [patB.go] at h
  | _ :: _, [], h => by simp [patB.go] at h
  | i :: is, x :: es, h => by
    cases x with
    | Name n p =>
      simp only [patB.go, Bool.and_eq_true, decide_eq_true_eq] at h
      obtain ⟨t, ht, hl, hf, hlen, hq⟩ := gl_names ok fo h.2
      have hN : X.N[i]? = some n := by rw [ok.N]; exact h.1.1
      obtain ⟨hloc, hfn⟩ := fo n h.1.2
      refine ⟨gCons (gName i) t, pgs_cons (pg_name (by rw [ok.N]; exact ok.nd) hN hloc hfn) ht (by rfl), by simp only [assignEach, List.length_cons, hl], ?_, by simp [hlen], fun ι env env' h' H σ ds vs Q sr eo r e q => ?_⟩
      · show List.findIdx? (·.1) ((false, assign (.Name n p) X.env) :: assignEach es X.env) = none
        rw [List.findIdx?_cons, hf]; rfl
      · cases r with
        | nil => simp [bindL] at e
        | cons a b =>
          simp only [bindL] at e
          refine ⟨_, _, rfl, ?_⟩
          refine hq ι _ env' h' H _ _ _ Q sr (eo.set (.d a) i) b e fun σ' eo' w' => q σ' eo' fun us hu => ?_
          rw [w' us (fun j hj => hu j (List.mem_cons_of_mem _ hj)), wipe_set (hu i List.mem_cons_self)]
    | _ => simp [patB.go] at h
theorem bindL_len {is : List Nat} {ds : List D} {env env' : Env} (h : bindL is ds env = some env') : is.length = ds.length := by
  induction is generalizing ds env with
  | nil => cases ds with
    | nil => rfl
    | cons _ _ => simp [bindL] at h
  | cons i is ih => cases ds with
    | nil => simp [bindL] at h
    | cons d ds => simp only [bindL] at h; simp [ih h]
theorem pg_pat {fs : Scope} (ok : XOk cf Φ G sc k X) (fo : FOk fs X) : ∀ {p : Pat}, patB cf fs p tg = true → PG X tg (gP X.K p)
  | .nm i, h => by
    cases tg with
    | Name n pp =>
      simp only [patB, Bool.and_eq_true, decide_eq_true_eq] at h
      have hN : X.N[i]? = some n := by rw [ok.N]; exact h.1
      obtain ⟨hloc, hfn⟩ := fo n h.2
      refine ⟨fun pins s σ H v u Q I r hq => (pg_name (by rw [ok.N]; exact ok.nd) hN hloc hfn).run pins s σ H v u Q I r ?_⟩
      obtain ⟨ι, env, h, x, env', sr, eo, rx, e, q⟩ := hq
      simp only [Pat.bind, Option.some.injEq] at e
      subst e
      exact q _ (eo.set (.d rx) i) fun vs hv => wipe_set (hv i (by simp [Pat.vars]))
    | _ => simp [patB] at h
  | .tup is, h => by
    cases tg with
    | Tuple es kk pp =>
      simp only [patB] at h
      obtain ⟨t, ht, hl, hf, hlen, hq'⟩ := gl_names ok fo h
      refine ⟨fun pins s σ H v u Q I r hq => (pg_tup ok.calm ht hl hf).run pins s σ H v u Q I r ?_⟩
      obtain ⟨ι, env, h, x, env', sr, eo, rx, e, q⟩ := hq
      cases rx <;> simp only [Pat.bind, reduceCtorEq] at e
      rename_i a vs ds hs rr
      refine ⟨a, vs, rfl, hs, ?_, hq' ι env env' h H σ ds vs Q sr eo rr e fun σ' eo' w' => q σ' eo' fun vs hv => w' vs fun i hi => hv i (by simpa [Pat.vars] using hi)⟩
      rw [← rr.length, ← bindL_len e, hlen]
    | _ => simp [patB] at h
  | .two i is, h => by
    unfold patB at h
    split at h
    · rename_i hp; cases hp
    · rename_i hp; cases hp
    · rename_i i' is' x px es kk pp k2 p2 hp
      cases hp
      simp only [Bool.and_eq_true, decide_eq_true_eq] at h
      obtain ⟨⟨h1, h2⟩, h3⟩ := h
      have hN : X.N[i]? = some x := by rw [ok.N]; exact h1
      obtain ⟨hloc, hfn⟩ := fo x h2
      obtain ⟨t, ht, hl, hf, hlen, hq'⟩ := gl_names ok fo h3
      have inner : PG X (.Tuple es kk pp) (gTup X.K es.length t) := pg_tup ok.calm ht hl hf
      have outer : PG X (.Tuple [.Name x px, .Tuple es kk pp] k2 p2) (gTup X.K 2 (gCons (gName i) (gCons (gTup X.K es.length t) gNil))) :=
        pg_tup ok.calm (pgs_cons (pg_name (by rw [ok.N]; exact ok.nd) hN hloc hfn) (pgs_cons inner pgs_nil))
      refine ⟨fun pins s σ H v u Q I r hq => outer.run pins s σ H v u Q I r ?_⟩
      obtain ⟨ι, env, h, x', env', sr, eo, rx, e, q⟩ := hq
      have e3 : ∃ a xs, x' = .tup [a, .tup xs] ∧ bindL is xs (env.set i (some (.d a))) = some env' := by
        simp only [Pat.bind] at e
        split at e
        · rename_i heq; cases heq
        · rename_i heq; cases heq
        · rename_i heq; cases heq; exact ⟨_, _, rfl, e⟩
        · cases e
      obtain ⟨a, xs, rfl, e⟩ := e3
      cases rx with
      | tup hs rr =>
        cases rr with
        | cons ra rr =>
          cases rr with
          | cons rb rr =>
            cases rr
            cases rb with
            | tup hs2 rr2 =>
              refine ⟨_, _, rfl, hs, rfl, _, _, rfl, _, _, rfl, ⟨_, _, rfl, hs2, by rw [← rr2.length, ← bindL_len e, hlen], ?_⟩⟩
              refine hq' ι _ env' h H _ _ _ _ sr (eo.set (.d ra) i) rr2 e fun σ' eo' w' => ⟨rfl, q σ' eo' fun us hu => ?_⟩
              rw [w' us fun j hj => hu j (by simp [Pat.vars, hj]), wipe_set (hu i (by simp [Pat.vars]))]
    · cases h
end
end Sh

/-! list comprehensions -/
namespace Sh
open PySem PySem.Spec PyProof.Rows L2

/-- .. over the list in a cell -/
def tIr (K : PySem.W.Frag) (f : Env → DH → Option (W × DH)) : TI := fun σ H R => ∃ ι env h n h' ws, SR K ι H h ∧ EnvOk K ι H env σ ∧ f env h = some (.ref n, h') ∧ h'[n]? = some (.lst ws) ∧
  ∀ ι' H' a, Stp ι H ι' H' → SR K ι' H' h' → ι'[n]? = some a → R (Itl K a) H'
def tIu (K : PySem.W.Frag) (f : Env → DH → Option (W × DH)) : TI := fun σ H R => tI K f σ H R ∨ tIr K f σ H R
section
variable {X : Cx} {x y z tg : Expr} {pos : Pos} {cf : Cf} {Φ : Nat → FSpec} {G : Nat → D} {sc : Scope} {k : Nat}
theorem pi_cell {a : E} (pe : PE X x (tE X.K (evE Φ G a))) : PI X tg x (tIr X.K (evE Φ G a)) := by
  refine ⟨fun pins s σ H R I hq => ?_⟩
  obtain ⟨ι, env, h0, n, h', ws, sr, eo, e, ec, q⟩ := hq
  refine thn (pe.run pins s σ H (fun v H1 => ∃ ι1, Stp ι H ι1 H1 ∧ SR X.K ι1 H1 h' ∧ RepW X.K ι1 H1 (.ref n) v) I ⟨ι, env, h0, _, h', sr, eo, e, fun ι' H' v p s r => ⟨ι', p, s, r⟩⟩) fun v s1 ⟨xv, H1, I1, r1, ι1, p1, sr1, rx⟩ => ?_
  obtain ⟨a, rfl, ha⟩ := rx.cell
  cases r1
  obtain ⟨vs, hv, rv'⟩ := sr1.cell n _ a ec ha
  obtain ⟨its, rv, p, hz⟩ := I1.list (SqL.of hv)
  refine wpAny_pyIter_list p.isList ?_
  refine ⟨s1.heap.objs.size, [s1.heap.objs.size], _, _, H1, rfl, I1.kept (t' := s1.toks) fun b o e => Heap.get?_push_of_some _ e, turn_list a _, ⟨_, Heap.get?_push_size _ rfl, rfl, rfl⟩, fun b hb => ?_, q ι1 H1 _ p1 sr1 ha⟩
  have e : b = s1.heap.objs.size := by simpa using hb
  subst e
  exact I1.fpOk (Nat.le_refl _) (I1.hok.fresh (Nat.le_refl _))
theorem _root_.L2.PI.or {t t' : TI} (h : PI X tg x t) (h' : PI X tg x t') : PI X tg x (fun σ H R => t σ H R ∨ t' σ H R) := ⟨fun pins s σ H R I q => by
  rcases q with q | q
  · exact h.run pins s σ H R I q
  · exact h'.run pins s σ H R I q⟩
end

section
variable {K : PySem.W.Frag}
/-- where a loop may have come: closed under steps, and under writing the list at D0 -/
structure Cl (D0 : Addr) (P : List Addr → Hp → Prop) : Prop where
  stp : ∀ ι H ι' H', P ι H → Stp ι H ι' H' → P ι' H'
  off : ∀ ι H vs vs', P ι H → H D0 = some (.lst vs) → P ι (upd H D0 (.lst vs'))
theorem cl_stp {ι1 : List Addr} {H1 : Hp} {D0 : Addr} (hD : H1 D0 = none) : Cl D0 (Stp ι1 H1) :=
  ⟨fun _ _ _ _ p q => p.trans q, fun _ _ vs vs' p d => p.off hD d (fun _ z => by cases z) (fun _ _ z => by cases z)⟩
theorem cl_in {P : List Addr → Hp → Prop} {D0 : Addr} (c : Cl D0 P) (ι4 : List Addr) (H4 : Hp) : Cl D0 (fun ι H => P ι H ∧ Fx H4 H ∧ ι4 <+: ι) :=
  ⟨fun _ _ _ _ p q => ⟨c.stp _ _ _ _ p.1 q, p.2.1.trans q.fx, p.2.2.trans q.pre⟩, fun _ _ vs vs' p d => ⟨c.off _ _ vs vs' p.1 d, p.2.1.trans (fx_write d (fun _ z => by cases z) (fun _ _ z => by cases z)), p.2.2⟩⟩
/-- the loop of a comprehension: the list at D grows -/
theorem comp_loop {J : It} {P : List Addr → Hp → Prop} {H0 : Hp} {D0 : Addr} {len : Nat} {turn : D → DH → Option (List W × DH)} {h' : DH} {acc0 rest0 : List W} {hh0 : DH} {ι0 : List Addr} {vs0 : List V} {B : V → Hp → (Hp → Prop) → Prop} {Ex : Hp → Prop}
    (Rem : Nat → DH → List W → Prop) (cl : Cl D0 P) (hline : (acc0 ++ rest0).length ≤ line)
    (hstep : ∀ i hh rest ι' H', Rem i hh rest → P ι' H' → SR K ι' H' hh → i ≤ len ∧ ((J.stop i H' ∧ rest = [] ∧ hh = h') ∨
      (J.go i H' ∧ ∃ d o hh1 rest', turn d hh = some (o, hh1) ∧ Rem (i + 1) hh1 rest' ∧ i + 1 ≤ len ∧ rest = o ++ rest' ∧ ∀ x H2, J.yld i H' x H2 → Same H' H2 ∧ Rep K H2 d x)))
    (hB : ∀ d hh o hh1 ι' H' x vs acc (Nx : Hp → Prop), turn d hh = some (o, hh1) → P ι' H' → SR K ι' H' hh → D0 ∉ ι' → H' D0 = some (.lst vs) → RepWL K ι' H' acc vs → Rep K H' d x → (acc ++ o).length ≤ line →
      (∀ ι'' H'' vs', P ι'' H'' → SR K ι'' H'' hh1 → D0 ∉ ι'' → H'' D0 = some (.lst vs') → RepWL K ι'' H'' (acc ++ o) vs' → Nx H'') → B x H' Nx)
    (h0 : Rem 0 hh0 rest0) (p0 : P ι0 H0) (s0 : SR K ι0 H0 hh0) (n0 : D0 ∉ ι0) (d0 : H0 D0 = some (.lst vs0)) (r0 : RepWL K ι0 H0 acc0 vs0)
    (hEx : ∀ ι'' H'' vs', P ι'' H'' → SR K ι'' H'' h' → D0 ∉ ι'' → H'' D0 = some (.lst vs') → RepWL K ι'' H'' (acc0 ++ rest0) vs' → Ex H'') :
    ∃ W : Nat → Nat → Hp → Prop, (∃ m, W 0 m H0) ∧ ∀ i m H, W i m H →
      (J.stop i H ∧ Ex H) ∨ (J.go i H ∧ ∃ Nx : Hp → Prop, (∀ H', Nx H' → ∃ m', m' < m ∧ W (i + 1) m' H') ∧ ∀ x H', J.yld i H x H' → B x H' Nx) := by
  refine ⟨fun i m H => ∃ ι' hh acc vs rest, m = len - i ∧ P ι' H ∧ SR K ι' H hh ∧ D0 ∉ ι' ∧ H D0 = some (.lst vs) ∧ RepWL K ι' H acc vs ∧ Rem i hh rest ∧ acc ++ rest = acc0 ++ rest0,
    ⟨len - 0, ι0, hh0, acc0, vs0, rest0, rfl, p0, s0, n0, d0, r0, h0, rfl⟩, ?_⟩
  rintro i m H ⟨ι', hh, acc, vs, rest, rfl, p, s, n, d, r, hr, e⟩
  obtain ⟨hi, (⟨hs, rfl, rfl⟩ | ⟨hg, dd, o, hh1, rest', ht, hr', hi', rfl, hy⟩)⟩ := hstep i hh rest ι' H hr p s
  · refine .inl ⟨hs, hEx ι' H vs p s n d ?_⟩
    rw [← e, List.append_nil]; exact r
  · refine .inr ⟨hg, fun H'' => ∃ ι'' hh acc vs rest, P ι'' H'' ∧ SR K ι'' H'' hh ∧ D0 ∉ ι'' ∧ H'' D0 = some (.lst vs) ∧ RepWL K ι'' H'' acc vs ∧ Rem (i + 1) hh rest ∧ acc ++ rest = acc0 ++ rest0,
      fun H' hN => ?_, fun x H2 y => ?_⟩
    · obtain ⟨ι'', hh, acc, vs, rest, q⟩ := hN
      exact ⟨len - (i + 1), by omega, ι'', hh, acc, vs, rest, rfl, q⟩
    · obtain ⟨sm, rx⟩ := hy x H2 y
      have p2 : P ι' H2 := cl.stp _ _ _ _ p (.same sm)
      refine hB dd hh o hh1 ι' H2 x vs acc _ ht p2 (s.same sm) n (sm _ _ d) (r.ext (List.prefix_refl _) (.of_same sm)) rx ?_ fun ι'' H'' vs' p'' s'' n'' d'' r'' => ?_
      · have := congrArg List.length e
        simp only [List.length_append] at this hline ⊢
        omega
      · exact ⟨ι'', hh1, acc ++ o, vs', rest', p'', s'', n'', d'', r'', hr', by rw [List.append_assoc]; exact e⟩
/-- what remains of a walk over plain items -/
theorem rem_d {J : It} {H1 : Hp} {ds : List D} {turn : D → DH → Option (List W × DH)} {h' : DH} (wk : WkOk K J ds H1) :
    ∀ i hh rest ι' H', (i ≤ ds.length ∧ compD turn (ds.drop i) hh = some (rest, h')) → Fx H1 H' → SR K ι' H' hh → i ≤ ds.length ∧ ((J.stop i H' ∧ rest = [] ∧ hh = h') ∨
      (J.go i H' ∧ ∃ d o hh1 rest', turn d hh = some (o, hh1) ∧ (i + 1 ≤ ds.length ∧ compD turn (ds.drop (i + 1)) hh1 = some (rest', h')) ∧ i + 1 ≤ ds.length ∧ rest = o ++ rest' ∧ ∀ x H2, J.yld i H' x H2 → Same H' H2 ∧ Rep K H2 d x)) := by
  intro i hh rest ι' H' ⟨hi, e⟩ p s
  refine ⟨hi, ?_⟩
  obtain ⟨w1, w2⟩ := wk H' p i
  by_cases hlt : i < ds.length
  · have hd : ds.drop i = ds[i] :: ds.drop (i + 1) := List.drop_eq_getElem_cons hlt
    rw [hd] at e
    simp only [compD, Option.bind_eq_bind, Option.bind_eq_some_iff, Prod.exists, Option.some.injEq, Prod.mk.injEq] at e
    obtain ⟨o, hh1, e1, ws, h2, e2, rfl, rfl⟩ := e
    obtain ⟨g, y⟩ := w1 ds[i] (List.getElem?_eq_getElem hlt)
    exact .inr ⟨g, ds[i], o, hh1, ws, e1, ⟨hlt, e2⟩, hlt, rfl, y⟩
  · have : ds.drop i = [] := List.drop_eq_nil_of_le (by omega)
    rw [this] at e
    simp only [compD, Option.some.injEq, Prod.mk.injEq] at e
    obtain ⟨rfl, rfl⟩ := e
    exact .inl ⟨w2 (by omega), rfl, rfl⟩
theorem rem_r {ι1 : List Addr} {n len : Nat} {a : Addr} {turn : D → DH → Option (List W × DH)} {h' : DH} (ha : ι1[n]? = some a) :
    ∀ i hh rest ι' H', (i ≤ len ∧ compR turn n (len - i) i hh = some (rest, h')) → ι1 <+: ι' → SR K ι' H' hh → i ≤ len ∧ (((Itl K a).stop i H' ∧ rest = [] ∧ hh = h') ∨
      ((Itl K a).go i H' ∧ ∃ d o hh1 rest', turn d hh = some (o, hh1) ∧ (i + 1 ≤ len ∧ compR turn n (len - (i + 1)) (i + 1) hh1 = some (rest', h')) ∧ i + 1 ≤ len ∧ rest = o ++ rest' ∧ ∀ x H2, (Itl K a).yld i H' x H2 → Same H' H2 ∧ Rep K H2 d x)) := by
  intro i hh rest ι' H' ⟨hi, e⟩ p s
  refine ⟨hi, ?_⟩
  have ha' : ι'[n]? = some a := by
    obtain ⟨t, rfl⟩ := p
    rw [List.getElem?_append_left (List.getElem?_eq_some_iff.mp ha).1]; exact ha
  by_cases hlt : i < len
  · have hd : len - i = (len - (i + 1)) + 1 := by omega
    rw [hd] at e
    simp only [compR] at e
    split at e
    · rename_i ws hc
      split at e
      · rename_i x hx
        simp only [Option.bind_eq_bind, Option.bind_eq_some_iff, Prod.exists, Option.some.injEq, Prod.mk.injEq] at e
        obtain ⟨o, hh1, e1, ws', h2, e2, rfl, rfl⟩ := e
        obtain ⟨vs, hv, r⟩ := s.cell n _ a hc ha'
        obtain ⟨v, h1, h2'⟩ := r.get hx
        refine .inr ⟨⟨vs, v, SqL.of hv, h1⟩, x, o, hh1, ws', e1, ⟨hlt, e2⟩, hlt, rfl, fun y H2 hy => ?_⟩
        obtain ⟨rfl, hy⟩ := hy
        have := hy vs (SqL.of hv)
        rw [h1] at this; cases this
        exact ⟨Same.refl _, h2'.pure⟩
      · cases e
    · cases e
  · have hd : len - i = 0 := by omega
    rw [hd] at e
    simp only [compR] at e
    split at e
    · rename_i ws hc
      split at e
      · rename_i hl
        simp only [Option.some.injEq, Prod.mk.injEq] at e
        obtain ⟨rfl, rfl⟩ := e
        obtain ⟨vs, hv, r⟩ := s.cell n _ a hc ha'
        exact .inl ⟨⟨vs, SqL.of hv, by rw [← r.length, hl]; exact Nat.le_refl _⟩, rfl, rfl⟩
      · cases e
    · cases e
end

section
variable {X : Cx} {x y z tg tg1 : Expr} {pos : Pos} {cf : Cf} {Φ : Nat → FSpec} {G : Nat → D} {sc scope : Scope} {k : Nat}
/-- the context of a block -/
theorem XOk.blk (ok : XOk cf Φ G sc k X) (s : Shared) (H : Hp) (C : Addr) (cl : List (Str × Addr)) (fp : List Addr) : XOk cf Φ G (relS scope sc) k (X.blk s H scope (compEnvC scope cl C X.env) fp) ∧ FOk scope (X.blk s H scope (compEnvC scope cl C X.env) fp) := by
  have hsc : (compEnvC scope cl C X.env).scope = relS scope sc := by
    show relabel scope X.env = _
    unfold relabel relS
    rw [show X.env.scope = sc from ok.sc]
    simp only [Env.kindOf, ok.sc]
  refine ⟨⟨ok.N, ok.nd, hsc, ok.calm, ok.room, fun g n h => ?_, ok.cons, ok.blt, ok.gcd⟩, fun n hn => ?_⟩
  · obtain ⟨a, fd, ps, j, q⟩ := (ok.fns g n h).ok
    exact ⟨a, fd, ps, j, q⟩
  · show Loc (compEnvC scope cl C X.env).scope n ∧ ((scope.names.lookup n == some .cell) = true ∨ (compEnvC scope cl C X.env).scope.names.lookup n = some .local)
    rw [hsc]
    simp only [locB, Bool.or_eq_true, decide_eq_true_eq] at hn
    rcases hn with hn | hn
    · have : (relS scope sc).names.lookup n = some .local := lookup_relS_keep (by decide) hn
      exact ⟨.inl this, .inr this⟩
    · have : (relS scope sc).names.lookup n = some .cell := lookup_relS_keep (by decide) hn
      exact ⟨.inr this, .inl (by simp [hn])⟩
theorem s_if0 : PTs X [] (tT X.K (evIf Φ G .nil)) := ⟨fun pins s σ H Q I hq => pts_nil.run pins s σ H Q I (by
  obtain ⟨ι, env, h, b, h', sr, eo, e, q⟩ := hq
  simp only [evIf, Option.some.injEq, Prod.mk.injEq] at e
  obtain ⟨rfl, rfl⟩ := e
  exact q ι H .refl sr)⟩
theorem s_if1 {a : E} {r : Es} (ha : Ok1 X x (evE Φ G a)) (ht : tst x = true) : PTs X [x] (tT X.K (evIf Φ G (.cons a r))) := ⟨fun pins s σ H Q I hq => (pts_one (ha.pt ht)).run pins s σ H Q I (by
  obtain ⟨ι, env, h, b, h', sr, eo, e, q⟩ := hq
  refine ⟨ι, env, h, b, h', sr, eo, ?_, q⟩
  simp only [evIf] at e
  exact e)⟩
theorem wipe_get (σ : L2.St) (i : Nat) : ∀ vs : List Nat, (L2.wipe σ vs)[i]? = if i ∈ vs then σ[i]?.map (fun _ => none) else σ[i]?
  | [] => by simp [L2.wipe]
  | v :: vs => by
    have ih := wipe_get σ i vs
    unfold L2.wipe
    rw [List.getElem?_set]
    by_cases hv : v = i
    · subst hv
      rw [if_pos rfl, if_pos List.mem_cons_self, L2.wipe_length]
      by_cases hl : v < σ.length
      · rw [if_pos hl, List.getElem?_eq_getElem hl]; rfl
      · rw [if_neg hl, List.getElem?_eq_none (by omega)]; rfl
    · rw [if_neg hv, ih]
      have : i ∈ v :: vs ↔ i ∈ vs := by simp [Ne.symm hv]
      simp only [this]
theorem wipe_idem (σ : L2.St) (vs : List Nat) : L2.wipe (L2.wipe σ vs) vs = L2.wipe σ vs := by
  refine List.ext_getElem? fun i => ?_
  rw [wipe_get, wipe_get]
  by_cases h : i ∈ vs
  · simp only [if_pos h, Option.map_map]; rfl
  · simp only [if_neg h]
/-- the turn of a comprehension -/
def turn1 (Φ : Nat → FSpec) (G : Nat → D) (p : Pat) (c : Es) (elt : E) (env : Env) : D → DH → Option (List W × DH) := fun x h => do
  let env1 ← p.bind x env
  let (b, h1) ← evIf Φ G c env1 h
  if b = true then do
    let (w, h2) ← evE Φ G elt env1 h1
    some ([w], h2)
  else some ([], h1)
theorem body1 {K : PySem.W.Frag} {p : Pat} {c : Es} {elt : E} {env : Env} {τ : L2.St} {vs1 : List Nat} {P : List Addr → Hp → Prop} {D0 : Addr} (cl : Cl D0 P) (hv : ∀ i ∈ p.vars, i ∈ vs1)
    {d : D} {hh hh1 : DH} {o : List W} {ι' : List Addr} {H' : Hp} {x : V} {vs : List V} {acc : List W} {Nx : Hp → Prop} (ht : turn1 Φ G p c elt env d hh = some (o, hh1)) (p' : P ι' H') (s : SR K ι' H' hh)
    (eo : EnvOk K ι' H' env τ) (n : D0 ∉ ι') (hd : H' D0 = some (.lst vs)) (r : RepWL K ι' H' acc vs) (rx : Rep K H' d x) (hl : (acc ++ o).length ≤ line)
    {τ0 : L2.St} (hw0 : L2.wipe τ vs1 = τ0) (q : ∀ ι'' H'' vs', P ι'' H'' → SR K ι'' H'' hh1 → D0 ∉ ι'' → H'' D0 = some (.lst vs') → RepWL K ι'' H'' (acc ++ o) vs' → Nx H'') :
    gP K p x τ H' fun σ2 H2 => L2.wipe σ2 vs1 = τ0 ∧ tT K (evIf Φ G c) σ2 H2 fun b H3 =>
      if b = true then tE K (evE Φ G elt) σ2 H3 fun y H4 => ∃ acc, H4 D0 = some (.lst acc) ∧ acc.length < sizeLine ∧ Nx (upd H4 D0 (.lst (acc ++ [y]))) else Nx H3 := by
  simp only [turn1, Option.bind_eq_bind, Option.bind_eq_some_iff, Prod.exists] at ht
  obtain ⟨env1, e1, b, h1, e2, e3⟩ := ht
  refine ⟨ι', env, hh, d, env1, s, eo, rx, e1, fun σ' eo' hw => ⟨(hw vs1 hv).trans hw0, ι', env1, hh, b, h1, s, eo', e2, fun ι3 H3 p3 s3 => ?_⟩⟩
  have d3 : H3 D0 = some (.lst vs) := p3.ext.oth D0 _ n hd
  have n3 : D0 ∉ ι3 := fun z => by
    rcases p3.new D0 z with z | z
    · exact n z
    · rw [hd] at z; cases z
  cases b with
  | true =>
    simp only [if_true, Option.bind_eq_some_iff, Prod.exists, Option.some.injEq, Prod.mk.injEq] at e3
    obtain ⟨w, h2, e4, rfl, rfl⟩ := e3
    refine iteT ⟨ι3, env1, h1, w, h2, s3, eo'.stp p3, e4, fun ι4 H4 y p4 s4 r4 => ?_⟩
    have d4 : H4 D0 = some (.lst vs) := p4.ext.oth D0 _ n3 d3
    have n4 : D0 ∉ ι4 := fun z => by
      rcases p4.new D0 z with z | z
      · exact n3 z
      · rw [d3] at z; cases z
    have m1 : ∀ xs, HO.lst vs ≠ .tup xs := fun _ z => by cases z
    have m2 : ∀ o w, HO.lst vs ≠ .frz o w := fun _ _ z => by cases z
    have hlen := r.length
    refine ⟨vs, d4, ?_, q ι4 _ (vs ++ [y]) (cl.off _ _ vs _ (cl.stp _ _ _ _ (cl.stp _ _ _ _ p' p3) p4) d4) (s4.off n4 d4 m1 m2) n4 upd_same ?_⟩
    · have : acc.length + 1 ≤ line := by simpa using hl
      rw [← hlen, ← line_eq]; omega
    · exact (((r.stp p3).stp p4).append (.cons r4 .nil)).ext (List.prefix_refl _) (fx_write d4 m1 m2)
  | false =>
    simp only [Bool.false_eq_true, if_false, Option.some.injEq, Prod.mk.injEq] at e3
    obtain ⟨rfl, rfl⟩ := e3
    rw [List.append_nil] at q
    exact iteF (q ι3 H3 vs (cl.stp _ _ _ _ p' p3) s3 n3 d3 (r.stp p3))
/-- the outset of a walk: what remains of it -/
theorem comp_start {K : PySem.W.Frag} {f : Env → DH → Option (W × DH)} {σ : L2.St} {H : Hp} {R : It → Hp → Prop} {ι : List Addr} {env : Env} {h h1 h' : DH} {w : W} {turn : D → DH → Option (List W × DH)} {ws : List W}
    (sr : SR K ι H h) (eo : EnvOk K ι H env σ) (e : f env h = some (w, h1)) (ec : compW turn w h1 = some (ws, h'))
    (q : ∀ ι1 H1 J len (Rem : Nat → DH → List W → Prop), Stp ι H ι1 H1 → SR K ι1 H1 h1 → Rem 0 h1 ws → (∀ i hh rest ι' H', Rem i hh rest → Fx H1 H' → ι1 <+: ι' → SR K ι' H' hh → i ≤ len ∧ ((J.stop i H' ∧ rest = [] ∧ hh = h') ∨
      (J.go i H' ∧ ∃ d o hh1 rest', turn d hh = some (o, hh1) ∧ Rem (i + 1) hh1 rest' ∧ i + 1 ≤ len ∧ rest = o ++ rest' ∧ ∀ x H2, J.yld i H' x H2 → Same H' H2 ∧ Rep K H2 d x))) → R J H1) :
    tIu K f σ H R := by
  cases w with
  | d x =>
    simp only [compW, Option.bind_eq_some_iff] at ec
    obtain ⟨ds, e1, e2⟩ := ec
    refine .inl ⟨ι, env, h, x, h1, ds, sr, eo, e, e1, fun ι1 H1 J p1 s1 wk => ?_⟩
    refine q ι1 H1 J ds.length (fun i hh rest => i ≤ ds.length ∧ compD turn (ds.drop i) hh = some (rest, h')) p1 s1 ⟨Nat.zero_le _, by simpa using e2⟩ fun i hh rest ι' H' hr p _ s => rem_d wk i hh rest ι' H' hr p s
  | ref n =>
    simp only [compW] at ec
    split at ec
    · rename_i l hl
      refine .inr ⟨ι, env, h, n, h1, l, sr, eo, e, hl, fun ι1 H1 a p1 s1 ha => ?_⟩
      refine q ι1 H1 (Itl K a) l.length (fun i hh rest => i ≤ l.length ∧ compR turn n (l.length - i) i hh = some (rest, h')) p1 s1 ⟨Nat.zero_le _, by simpa using ec⟩ fun i hh rest ι' H' hr _ p s => rem_r ha i hh rest ι' H' hr p s
    · cases ec
theorem ownB_ok {own vars : List Nat} (h : ownB cf sc scope own vars = true) : BlkOk cf.N sc scope (ownOf cf own) ∧ (ownOf cf own).map (·.2) = own ∧ ∀ i ∈ vars, i ∈ own := by
  simp only [ownB, Bool.and_eq_true, decide_eq_true_eq, List.all_eq_true] at h
  exact ⟨blkOk_by h.1.1, h.1.2, h.2⟩
theorem foldedSet {i : Expr} (h : notSet i = true) : ∀ env v, foldedSetIterable i env v = pure v := by
  intro env v
  cases i <;> simp_all [notSet, foldedSetIterable] <;> rfl
/-- the reading of a comprehension -/
def tComp (K : PySem.W.Frag) (Φ : Nat → FSpec) (G : Nat → D) (own : List Nat) (p : Pat) (it : E) (c : Es) (elt : E) : TE := tLc (tIu K (evE Φ G it)) (gP K p) (tT K (evIf Φ G c)) (tE K (evE Φ G elt)) own
theorem tComp_of {K : PySem.W.Frag} {own : List Nat} {p : Pat} {it : E} {c : Es} {elt : E} (hv : ∀ i ∈ p.vars, i ∈ own) {σ : L2.St} {H : Hp} {Q : VK} (hq : tR K (evC Φ G (.comp own p it c elt)) σ H Q) : tComp K Φ G own p it c elt σ H Q := by
  obtain ⟨ι, env, h, ws, h', sr, eo, e, q⟩ := hq
  simp only [evC, Option.bind_eq_bind, Option.bind_eq_some_iff, Prod.exists] at e
  obtain ⟨w, h1, e1, ws', h2, e2, e3⟩ := e
  split at e3
  · rename_i hl
    cases e3
    refine comp_start sr eo e1 (turn := turn1 Φ G p c elt (wipeE env own)) e2 fun ι1 H1 J len Rem p1 s1 r0 hstep D0 hD => ?_
    have sm := same_upd (o := HO.lst []) hD
    have n1 : D0 ∉ ι1 := s1.notin hD
    refine comp_loop (len := len) (turn := turn1 Φ G p c elt (wipeE env own)) (h' := h') (acc0 := []) (rest0 := ws) (vs0 := []) Rem (cl_stp (ι1 := ι1) hD) (by simpa using hl) (fun i hh rest ι' H' hr pp ss => hstep i hh rest ι' H' hr pp.fx pp.pre ss)
      (fun d hh o hh1 ι' H' x vs acc Nx ht pp ss nn dd rr rx hll qq => body1 (vs1 := own) (cl_stp (ι1 := ι1) hD) hv ht pp ss (((eo.stp p1).stp pp).wipe own) nn dd rr rx hll (wipe_idem _ _) qq) r0 (.same sm) (s1.same sm) n1 upd_same .nil fun ι'' H'' vs' pp ss nn dd rr => ?_
    exact q.stp p1 ι'' H'' D0 vs' pp ss dd nn hD (by simpa using rr)
  · cases e3

/-- the turn of the first clause of two -/
def turn2 (Φ : Nat → FSpec) (G : Nat → D) (vs1 : List Nat) (p : Pat) (c : Es) (p1 : Pat) (it1 : E) (c1 : Es) (elt : E) (env : Env) : D → DH → Option (List W × DH) := fun x h => do
  let env1 ← p.bind x env
  let (b, h1) ← evIf Φ G c env1 h
  if b = true then do
    let (y, h2) ← evE Φ G it1 env1 h1
    compW (turn1 Φ G p1 c1 elt (wipeE env1 vs1)) y h2
  else some ([], h1)
def tComp2 (K : PySem.W.Frag) (Φ : Nat → FSpec) (G : Nat → D) (own vs1 : List Nat) (p : Pat) (it : E) (c : Es) (p1 : Pat) (it1 : E) (c1 : Es) (elt : E) : TE :=
  tLc2 (tIu K (evE Φ G it)) (gP K p) (tT K (evIf Φ G c)) (tIu K (evE Φ G it1)) (gP K p1) (tT K (evIf Φ G c1)) (tE K (evE Φ G elt)) own vs1
theorem tComp2_of {K : PySem.W.Frag} {own vs1 : List Nat} {p p1 : Pat} {it it1 : E} {c c1 : Es} {elt : E} (hv : ∀ i ∈ p.vars, i ∈ own) (hv1 : ∀ i ∈ p1.vars, i ∈ vs1) {σ : L2.St} {H : Hp} {Q : VK} (hq : tR K (evC Φ G (.comp2 own vs1 p it c p1 it1 c1 elt)) σ H Q) :
    tComp2 K Φ G own vs1 p it c p1 it1 c1 elt σ H Q := by
  obtain ⟨ι, env, h, ws, h', sr, eo, e, q⟩ := hq
  simp only [evC, Option.bind_eq_bind, Option.bind_eq_some_iff, Prod.exists] at e
  obtain ⟨w, h1, e1, ws', h2, e2, e3⟩ := e
  split at e3
  · rename_i hl
    cases e3
    refine comp_start sr eo e1 (turn := turn2 Φ G vs1 p c p1 it1 c1 elt (wipeE env own)) e2 fun ι1 H1 J len Rem q1 s1 r0 hstep D0 hD => ?_
    have sm := same_upd (o := HO.lst []) hD
    have n1 : D0 ∉ ι1 := s1.notin hD
    refine comp_loop (len := len) (turn := turn2 Φ G vs1 p c p1 it1 c1 elt (wipeE env own)) (h' := h') (acc0 := []) (rest0 := ws) (vs0 := []) Rem (cl_stp (ι1 := ι1) hD) (by simpa using hl) (fun i hh rest ι' H' hr pp ss => hstep i hh rest ι' H' hr pp.fx pp.pre ss)
      (fun d hh o hh1 ι' H' x vs acc Nx ht pp ss nn dd rr rx hll qq => ?_) r0 (.same sm) (s1.same sm) n1 upd_same .nil fun ι'' H'' vs' pp ss nn dd rr => ?_
    · -- the first clause's turn
      simp only [turn2, Option.bind_eq_bind, Option.bind_eq_some_iff, Prod.exists] at ht
      obtain ⟨env1, e1, b, h1, e2, e3⟩ := ht
      refine ⟨ι', wipeE env own, hh, d, env1, ss, ((eo.stp q1).stp pp).wipe own, rx, e1, fun σ' eo' hw => ⟨(hw own hv).trans (wipe_idem _ _), ι', env1, hh, b, h1, ss, eo', e2, fun ι3 H3 p3 s3 => ?_⟩⟩
      have d3 : H3 D0 = some (.lst vs) := p3.ext.oth D0 _ nn dd
      have n3 : D0 ∉ ι3 := fun z => by
        rcases p3.new D0 z with z | z
        · exact nn z
        · rw [dd] at z; cases z
      cases b with
      | true =>
        simp only [if_true, Option.bind_eq_some_iff, Prod.exists] at e3
        obtain ⟨y, h2, e4, e5⟩ := e3
        refine iteT (comp_start s3 (eo'.stp p3) e4 (turn := turn1 Φ G p1 c1 elt (wipeE env1 vs1)) e5 fun ι4 H4 J1 len1 Rem1 p4 s4 r4 hstep1 => ?_)
        have d4 : H4 D0 = some (.lst vs) := p4.ext.oth D0 _ n3 d3
        have n4 : D0 ∉ ι4 := fun z => by
          rcases p4.new D0 z with z | z
          · exact n3 z
          · rw [d3] at z; cases z
        have p04 : Stp ι1 H1 ι4 H4 := (pp.trans p3).trans p4
        have cl := cl_in (cl_stp (ι1 := ι1) hD) ι4 H4
        -- the inner loop, told from the outset (ι1, H1), where D0 was not
        refine comp_loop (len := len1) (turn := turn1 Φ G p1 c1 elt (wipeE env1 vs1)) (h' := hh1) (acc0 := acc) (rest0 := o) (vs0 := vs) (fun i hh rest => Rem1 i hh rest) cl hll ?_
          (fun d hh o hh1 ι' H' x vs acc Nx ht pp' ss' nn' dd' rr' rx' hll' qq' => ?_) r4 ⟨p04, .refl, List.prefix_refl _⟩ s4 n4 d4 ((rr.stp p3).stp p4) fun ι'' H'' vs' pp'' ss'' nn'' dd'' rr'' => qq ι'' H'' vs' pp''.1 ss'' nn'' dd'' rr''
        · exact fun i hh rest ι' H' hr pp ss => hstep1 i hh rest ι' H' hr pp.2.1 pp.2.2 ss
        · exact body1 (vs1 := vs1) cl hv1 ht pp' ss' (((eo'.stp p3).ext (p4.pre.trans pp'.2.2) (p4.fx.trans pp'.2.1)).wipe vs1) nn' dd' rr' rx' hll' (wipe_idem _ _) qq'
      | false =>
        simp only [Bool.false_eq_true, if_false, Option.some.injEq, Prod.mk.injEq] at e3
        obtain ⟨rfl, rfl⟩ := e3
        rw [List.append_nil] at qq
        exact iteF (qq ι3 H3 vs (pp.trans p3) s3 n3 d3 (rr.stp p3))
    · exact q.stp q1 ι'' H'' D0 vs' pp ss dd nn hD (by simpa using rr)
  · cases e3
end
end Sh

/-! expressions: what the match says is right -/
namespace Sh
open PySem PySem.Spec PyProof.Rows L2

theorem PI.u {X : Cx} {x tg : Expr} {Φ : Nat → FSpec} {G : Nat → D} {a : E} (h : Ok1 X x (evE Φ G a)) : PI X tg x (tIu X.K (evE Φ G a)) := (pi_val h.pe).or (pi_cell h.pe)
theorem PI.d {X : Cx} {x tg : Expr} {Φ : Nat → FSpec} {G : Nat → D} {a : E} (h : PI X tg x (tI X.K (evE Φ G a))) (hn : ∀ env hh n h', evE Φ G a env hh ≠ some (.ref n, h')) : PI X tg x (tIu X.K (evE Φ G a)) :=
  h.imp fun σ H R q => by
    rcases q with q | ⟨ι, env, h, n, h', ws, sr, eo, e, _⟩
    · exact q
    · exact absurd e (hn _ _ _ _)
theorem rng_noref {Φ : Nat → FSpec} {G : Nat → D} {es : Es} : ∀ env hh n h', evE Φ G (.rng es) env hh ≠ some (.ref n, h') := by
  intro env hh n h' e
  simp only [evE, Option.bind_eq_bind, Option.bind_eq_some_iff, Prod.exists, Option.some.injEq, Prod.mk.injEq] at e
  obtain ⟨_, _, _, _, _, _, _, z, _⟩ := e
  cases z
/-- gcd is the module's own, where it is used -/
def GOk (X : Cx) : Prop := X.mg "gcd" = some (.builtin "math.gcd")
theorem val_all {X : Cx} {x : Expr} {Φ : Nat → FSpec} {G : Nat → D} {a : E} (h : Ok1 X x (evE Φ G a)) : (isVal a = true → Ok1 X x (evE Φ G a)) ∧ (∀ tg, tgB a tg = true → PI X tg x (tIu X.K (evE Φ G a))) := ⟨fun _ => h, fun _ _ => PI.u h⟩
mutual
theorem sE {cf : Cf} {Φ : Nat → FSpec} {G : Nat → D} {k : Nat} : ∀ (e : E) (sc : Scope) (X : Cx) (x : Expr), XOk cf Φ G sc k X → mE cf e sc x = true → (isVal e = true → Ok1 X x (evE Φ G e)) ∧ (∀ tg, tgB e tg = true → PI X tg x (tIu X.K (evE Φ G e)))
  | .var i, sc, X, x, ok, h => by
    unfold mE at h
    split at h
    · simp only [Bool.and_eq_true, decide_eq_true_eq] at h
      exact val_all (s_var ok h.1.1 h.1.2 h.2)
    · cases h
  | .lit d, sc, X, x, ok, h => by
    unfold mE at h
    split at h
    · exact val_all (s_lit h)
    · cases h
  | .con g, sc, X, x, ok, h => by
    unfold mE at h
    split at h
    · simp only [Bool.and_eq_true, decide_eq_true_eq] at h
      exact val_all (s_con ok h.1.1 h.1.2 h.2)
    · cases h
  | .bin o a b, sc, X, x, ok, h => by
    unfold mE at h
    split at h
    · simp only [Bool.and_eq_true, decide_eq_true_eq] at h
      exact val_all (s_bin ok.room h.1.1.1.1 ((sE a sc X _ ok h.1.2).1 h.1.1.1.2) ((sE b sc X _ ok h.2).1 h.1.1.2))
    · simp only [Bool.and_eq_true, decide_eq_true_eq] at h
      exact val_all (s_cmp ok.room h.1.1.1.1.1 ((sE a sc X _ ok h.1.2).1 h.1.1.1.2) ((sE b sc X _ ok h.2).1 h.1.1.2) h.1.1.1.1.2)
    · cases h
  | .neg a, sc, X, x, ok, h => by
    unfold mE at h
    split at h
    · simp only [Bool.and_eq_true] at h
      exact val_all (s_neg ((sE a sc X _ ok h.2).1 h.1))
    · cases h
  | .not a, sc, X, x, ok, h => by
    unfold mE at h
    split at h
    · simp only [Bool.and_eq_true] at h
      exact val_all (s_not ((sE a sc X _ ok h.2).1 h.1.1) h.1.2)
    · cases h
  | .and a b, sc, X, x, ok, h => by
    unfold mE at h
    split at h
    · rename_i x y r p
      simp only [Bool.and_eq_true] at h
      refine val_all (s_and ((sE a sc X _ ok h.1.2).1 h.1.1.1.1) h.1.1.2 ?_)
      have h2 := h.2
      split at h2
      · simp only [Bool.and_eq_true] at h2
        exact .inl ⟨rfl, h2.1, (sE b sc X _ ok h2.2).1 h.1.1.1.2⟩
      · exact .inr ((sE b sc X _ ok h2).1 h.1.1.1.2)
    · cases h
  | .or a b, sc, X, x, ok, h => by
    unfold mE at h
    split at h
    · rename_i x y r p
      simp only [Bool.and_eq_true] at h
      refine val_all (s_or ((sE a sc X _ ok h.1.2).1 h.1.1.1.1) h.1.1.2 ?_)
      have h2 := h.2
      split at h2
      · simp only [Bool.and_eq_true] at h2
        exact .inl ⟨rfl, h2.1, (sE b sc X _ ok h2.2).1 h.1.1.1.2⟩
      · exact .inr ((sE b sc X _ ok h2).1 h.1.1.1.2)
    · cases h
  | .chain o p a b c, sc, X, x, ok, h => by
    unfold mE at h
    split at h
    · simp only [Bool.and_eq_true, decide_eq_true_eq] at h
      obtain ⟨⟨⟨⟨⟨⟨⟨⟨h1, h2⟩, h3⟩, h4⟩, h5⟩, h6⟩, h7⟩, h8⟩, h9⟩ := h
      exact val_all (s_chain ok.room h1 h2 ((sE a sc X _ ok h7).1 h4) ((sE b sc X _ ok h8).1 h5) ((sE c sc X _ ok h9).1 h6) h3)
    · cases h
  | .ite c a b, sc, X, x, ok, h => by
    unfold mE at h
    split at h
    · simp only [Bool.and_eq_true] at h
      obtain ⟨⟨⟨⟨⟨⟨h1, h2⟩, h3⟩, h4⟩, h5⟩, h6⟩, h7⟩ := h
      exact val_all (s_ite ((sE c sc X _ ok h5).1 h1) h4 ((sE a sc X _ ok h6).1 h2) ((sE b sc X _ ok h7).1 h3))
    · cases h
  | .tup es, sc, X, x, ok, h => by
    unfold mE at h
    split at h
    · simp only [Bool.and_eq_true] at h
      exact val_all (s_tup ((sEs es sc X ok).1 _ h.1 h.2))
    · cases h
  | .ix a b, sc, X, x, ok, h => by
    unfold mE at h
    split at h
    · simp only [Bool.and_eq_true] at h
      obtain ⟨⟨⟨⟨h1, h2⟩, h3⟩, h4⟩, h5⟩ := h
      exact val_all (s_ix ((sE a sc X _ ok h4).1 h2) ((sE b sc X _ ok h5).1 h3) h1)
    · cases h
  | .sl a lo hi, sc, X, x, ok, h => by
    unfold mE at h
    split at h
    · simp only [Bool.and_eq_true] at h
      obtain ⟨⟨⟨h1, h2⟩, h3⟩, h4⟩ := h
      exact val_all (s_sl ((sE a sc X _ ok h2).1 h1) ((sEs lo sc X ok).2.1 _ h3) ((sEs hi sc X ok).2.1 _ h4))
    · cases h
  | .rev a, sc, X, x, ok, h => by
    unfold mE at h
    split at h
    · simp only [Bool.and_eq_true] at h
      exact val_all (s_rev ((sE a sc X _ ok h.2).1 h.1))
    · cases h
  | .isi a t, sc, X, x, ok, h => by
    unfold mE at h
    split at h
    · simp only [Bool.and_eq_true, decide_eq_true_eq] at h
      obtain ⟨⟨⟨⟨⟨⟨h1, h2⟩, h3⟩, h4⟩, h5⟩, h6⟩, h7⟩ := h
      subst h1 h3
      exact val_all (s_isi ok h2 h4 ((sE a sc X _ ok h7).1 h5) h6)
    · cases h
  | .bif b es, sc, X, x, ok, h => by
    unfold mE at h
    split at h
    · simp only [Bool.and_eq_true, decide_eq_true_eq] at h
      obtain ⟨⟨⟨⟨h1, h0⟩, h2⟩, h3⟩, h4⟩ := h
      subst h1
      refine val_all (s_bif ok h2 (fun z => ok.gcd ?_) h3 ((sEs es sc X ok).1 _ h3 h4))
      subst z
      simpa using h0
    · cases h
  | .call g es, sc, X, x, ok, h => by
    unfold mE at h
    split at h
    · simp only [Bool.and_eq_true, decide_eq_true_eq] at h
      obtain ⟨⟨⟨⟨h1, h2⟩, h3⟩, h4⟩, h5⟩ := h
      refine val_all (s_call ok h1 h2 h3 h4 (fun z => ?_) ((sEs es sc X ok).1 _ h4 h5))
      subst z
      cases es with
      | nil => rfl
      | cons a r => simp [mEs] at h5
    · cases h
  | .mkl m c, sc, X, x, ok, h => by
    unfold mE at h
    have := pe_mkl (m := m) rfl (sC c sc X x ok h)
    refine val_all (.plain this ?_ ?_)
    · cases c <;> (unfold mC at h; split at h <;> first | cases h | (intro _; rfl))
    · intro op es p z
      subst z
      cases c <;> (unfold mC at h; cases h)
  | .rng es, sc, X, x, ok, h => by
    refine ⟨fun z => (by cases z), fun tg _ => ?_⟩
    unfold mE at h
    split at h
    · rename_i f p xs pos
      simp only [Bool.and_eq_true, decide_eq_true_eq] at h
      obtain ⟨⟨⟨⟨h1, h2⟩, h3⟩, h4⟩, h5, h6⟩ := h
      subst h1
      cases es with
      | nil =>
        simp only [mEs, List.isEmpty_iff] at h4
        subst h4
        simp at h5
      | cons a r =>
        cases xs with
        | nil => simp at h5
        | cons x xs =>
          simp only [mEs, Bool.and_eq_true] at h4
          simp only [noStar, Bool.and_eq_true] at h3
          cases r with
          | nil =>
            have h7 := h4.2
            simp only [mEs, List.isEmpty_iff] at h7
            subst h7
            exact PI.d (pi_r1 ok h2 ((sE a sc X _ ok h4.1.2).1 h4.1.1) h3.1) rng_noref
          | cons b r =>
            cases xs with
            | nil => have h7 := h4.2; simp [mEs] at h7
            | cons y xs =>
              have h7 := h4.2
              simp only [mEs, Bool.and_eq_true] at h7
              have h8 : xs = [] := by
                cases xs with
                | nil => rfl
                | cons _ _ => simp at h6
              subst h8
              cases r with
              | nil =>
                have h9 := h3.2
                simp only [noStar, Bool.and_eq_true] at h9
                exact PI.d (pi_r2 ok h2 ((sE a sc X _ ok h4.1.2).1 h4.1.1) ((sE b sc X _ ok h7.1.2).1 h7.1.1) h3.1 h9.1) rng_noref
              | cons _ _ => have h9 := h7.2; simp [mEs] at h9
    · cases h
  | .enum a, sc, X, x, ok, h => by unfold mE at h; cases h
  | .zip a b, sc, X, x, ok, h => by unfold mE at h; cases h
theorem sEs {cf : Cf} {Φ : Nat → FSpec} {G : Nat → D} {k : Nat} : ∀ (es : Es) (sc : Scope) (X : Cx), XOk cf Φ G sc k X →
    (∀ xs, noStar xs = true → mEs cf es sc xs = true → PA X xs (tA X.K (evEs Φ G es))) ∧ (∀ o, mPart cf es sc o = true → PO X o (tO X.K (evPart Φ G es))) ∧ (∀ xs, mIf cf es sc xs = true → PTs X xs (tT X.K (evIf Φ G es)))
  | .nil, sc, X, ok => by
    refine ⟨fun xs _ h => ?_, fun o h => ?_, fun xs h => ?_⟩
    · simp only [mEs, List.isEmpty_iff] at h
      subst h; exact s_nil
    · cases o with
      | none => exact s_part0
      | some x => simp [mPart] at h
    · simp only [mIf, List.isEmpty_iff] at h
      subst h; exact s_if0
  | .cons a r, sc, X, ok => by
    refine ⟨fun xs hs h => ?_, fun o h => ?_, fun xs h => ?_⟩
    · cases xs with
      | nil => simp [mEs] at h
      | cons x xs =>
        simp only [mEs, Bool.and_eq_true] at h
        simp only [noStar, Bool.and_eq_true] at hs
        exact s_cons ((sE a sc X _ ok h.1.2).1 h.1.1) ((sEs r sc X ok).1 _ hs.2 h.2) hs.1
    · cases o with
      | none => simp [mPart] at h
      | some x =>
        simp only [mPart, Bool.and_eq_true] at h
        exact s_part1 ((sE a sc X _ ok h.2).1 h.1)
    · unfold mIf at h
      split at h
      · simp only [Bool.and_eq_true] at h
        exact s_if1 ((sE a sc X _ ok h.2).1 h.1.1) h.1.2
      · cases h
theorem sC {cf : Cf} {Φ : Nat → FSpec} {G : Nat → D} {k : Nat} : ∀ (c : C) (sc : Scope) (X : Cx) (x : Expr), XOk cf Φ G sc k X → mC cf c sc x = true → PE X x (tR X.K (evC Φ G c))
  | .disp es, sc, X, x, ok, h => by
    unfold mC at h
    split at h
    · simp only [Bool.and_eq_true] at h
      exact s_disp ((sEs es sc X ok).1 _ h.1 h.2)
    · cases h
  | .ofl a, sc, X, x, ok, h => by
    unfold mC at h
    split at h
    · simp only [Bool.and_eq_true, decide_eq_true_eq] at h
      obtain ⟨⟨⟨h1, h2⟩, h3⟩, h4⟩ := h
      subst h1
      by_cases hv : isVal a = true
      · exact s_ofl ok h2 ((sE a sc X _ ok h4).1 hv) h3
      · match a, h4, hv with
        | .rng .nil, q4, _ =>
          unfold mE at q4
          split at q4
          · simp only [Bool.and_eq_true, decide_eq_true_eq, mEs, List.isEmpty_iff] at q4
            obtain ⟨⟨_, q4⟩, h5, h6⟩ := q4
            subst q4
            simp at h5
          · cases q4
        | .rng (.cons a .nil), q4, _ =>
          unfold mE at q4
          split at q4
          · rename_i f p2 xs pos2
            simp only [Bool.and_eq_true, decide_eq_true_eq] at q4
            obtain ⟨⟨⟨⟨h1, h2'⟩, n3⟩, q4⟩, h5, h6⟩ := q4
            subst h1
            cases xs with
            | nil => simp at h5
            | cons x xs =>
              simp only [mEs, Bool.and_eq_true, List.isEmpty_iff] at q4
              simp only [noStar, Bool.and_eq_true] at n3
              obtain ⟨q4, rfl⟩ := q4
              exact s_oflr1 ok h2 h2' ((sE a sc X _ ok q4.2).1 q4.1) n3.1
          · cases q4
        | .rng (.cons a (.cons b .nil)), q4, _ =>
          unfold mE at q4
          split at q4
          · rename_i f p2 xs pos2
            simp only [Bool.and_eq_true, decide_eq_true_eq] at q4
            obtain ⟨⟨⟨⟨h1, h2'⟩, n3⟩, q4⟩, h5, h6⟩ := q4
            subst h1
            cases xs with
            | nil => simp at h5
            | cons x xs =>
              cases xs with
              | nil => simp [mEs] at q4
              | cons y xs =>
                simp only [mEs, Bool.and_eq_true, List.isEmpty_iff] at q4
                simp only [noStar, Bool.and_eq_true] at n3
                obtain ⟨q4, h4', rfl⟩ := q4
                exact s_oflr2 ok h2 h2' ((sE a sc X _ ok q4.2).1 q4.1) ((sE b sc X _ ok h4'.2).1 h4'.1) n3.1 n3.2.1
          · cases q4
        | .rng (.cons a (.cons b (.cons c r))), q4, _ =>
          unfold mE at q4
          split at q4
          · rename_i f p2 xs pos2
            simp only [Bool.and_eq_true, decide_eq_true_eq] at q4
            obtain ⟨⟨⟨⟨h1, h2'⟩, n3⟩, q4⟩, h5, h6⟩ := q4
            match xs, q4, h6 with
            | x :: y :: z :: w, _, h6 => simp at h6
            | [x, y], q4, _ => simp [mEs] at q4
            | [x], q4, _ => simp [mEs] at q4
            | [], q4, _ => simp [mEs] at q4
          · cases q4
        | .enum _, h4, _ => unfold mE at h4; cases h4
        | .zip _ _, h4, _ => unfold mE at h4; cases h4
        | .var _, _, hv => exact absurd rfl hv
        | .lit _, _, hv => exact absurd rfl hv
        | .con _, _, hv => exact absurd rfl hv
        | .bin _ _ _, _, hv => exact absurd rfl hv
        | .neg _, _, hv => exact absurd rfl hv
        | .not _, _, hv => exact absurd rfl hv
        | .and _ _, _, hv => exact absurd rfl hv
        | .or _ _, _, hv => exact absurd rfl hv
        | .chain _ _ _ _ _, _, hv => exact absurd rfl hv
        | .ite _ _ _, _, hv => exact absurd rfl hv
        | .tup _, _, hv => exact absurd rfl hv
        | .ix _ _, _, hv => exact absurd rfl hv
        | .sl _ _ _, _, hv => exact absurd rfl hv
        | .rev _, _, hv => exact absurd rfl hv
        | .isi _ _, _, hv => exact absurd rfl hv
        | .bif _ _, _, hv => exact absurd rfl hv
        | .call _ _, _, hv => exact absurd rfl hv
        | .mkl _ _, _, hv => exact absurd rfl hv
    · cases h
  | .comp own p it c elt, sc, X, x, ok, h => by
    unfold mC at h
    split at h
    · rename_i elt' tg iter ifs scope pos
      simp only [Bool.and_eq_true] at h
      obtain ⟨⟨⟨⟨⟨⟨⟨h1, h2⟩, h3⟩, h4⟩, h5⟩, h6⟩, h7⟩, h8⟩ := h
      obtain ⟨b1, b2, b3⟩ := ownB_ok h2
      have blk := fun s H C cl fp => ok.blk (scope := scope) s H C cl fp
      refine PE.imp (t := tComp X.K Φ G own p it c elt) ?_ fun σ H Q q => tComp_of b3 q
      unfold tComp
      rw [← b2]
      refine pe_lc ok.calm (by rw [ok.N]; exact ok.nd) ((sE it sc X _ ok h3).2 tg h5) (by rw [ok.N, ok.sc]; exact b1)
        (fun s H C cl fp => pg_pat (blk s H C cl fp).1 (blk s H C cl fp).2 h4) (fun s H C cl fp => (sEs c (relS scope sc) _ (blk s H C cl fp).1).2.2 _ h6)
        (fun s H C cl fp => ((sE elt (relS scope sc) _ _ (blk s H C cl fp).1 h8).1 h7).pe) (foldedSet h1 _)
    · cases h
  | .comp2 own vs1 p it c p1 it1 c1 elt, sc, X, x, ok, h => by
    unfold mC at h
    split at h
    · rename_i elt' tg iter ifs tg1 iter1 ifs1 scope pos
      simp only [Bool.and_eq_true, List.all_eq_true, decide_eq_true_eq] at h
      obtain ⟨⟨⟨⟨⟨⟨⟨⟨⟨⟨⟨⟨⟨⟨h1, h1'⟩, h2⟩, g1⟩, g2⟩, h3⟩, h4⟩, h5⟩, h6⟩, i3⟩, i4⟩, i5⟩, i6⟩, h7⟩, h8⟩ := h
      obtain ⟨b1, b2, b3⟩ := ownB_ok h2
      have blk := fun s H C cl fp => ok.blk (scope := scope) s H C cl fp
      refine PE.imp (t := tComp2 X.K Φ G own vs1 p it c p1 it1 c1 elt) ?_ fun σ H Q q => tComp2_of b3 g1 q
      unfold tComp2
      rw [show own = (ownOf cf own).map (·.2) from b2.symm] at g2 ⊢
      refine pe_lc2 ok.calm (by rw [ok.N]; exact ok.nd) ((sE it sc X _ ok h3).2 tg h5) (by rw [ok.N, ok.sc]; exact b1) g2
        (fun s H C cl fp => pg_pat (blk s H C cl fp).1 (blk s H C cl fp).2 h4) (fun s H C cl fp => (sEs c (relS scope sc) _ (blk s H C cl fp).1).2.2 _ h6)
        (fun s H C cl fp => (sE it1 (relS scope sc) _ _ (blk s H C cl fp).1 i3).2 tg1 i5)
        (fun s H C cl fp => pg_pat (blk s H C cl fp).1 (blk s H C cl fp).2 i4) (fun s H C cl fp => (sEs c1 (relS scope sc) _ (blk s H C cl fp).1).2.2 _ i6)
        (fun s H C cl fp => ((sE elt (relS scope sc) _ _ (blk s H C cl fp).1 h8).1 h7).pe) (foldedSet h1 _) (foldedSet h1')
    · cases h
  | .rep a b, sc, X, x, ok, h => by
    unfold mC at h
    split at h
    · simp only [Bool.and_eq_true] at h
      obtain ⟨⟨⟨h1, h2⟩, h3⟩, h4⟩ := h
      exact s_rep ((sE a sc X _ ok h3).1 h1) ((sE b sc X _ ok h4).1 h2)
    · cases h
end
end Sh

/-! statements: what the match says, and that the evaluator is sound -/
namespace Sh
open PySem PySem.Spec PyProof.Rows L2

def notComp : Expr → Bool
  | .ListComp .. => false
  | .SetComp .. => false
  | .DictComp .. => false
  | _ => true
def notTup : Expr → Bool
  | .Tuple .. => false
  | _ => true
def isNameOf (e : Expr) (x : Str) : Bool := match e with
  | .Name n _ => decide (n = x)
  | _ => false
/-- a comprehension whose store is exchanged with the letting go of its names -/
def swB (sc scope : Scope) (y : Str) (py pos : Pos) : Bool := decide (sc.names.lookup y = some .local) && (py.line == pos.line) && !(scope.names.any fun (n, k) => n == y && (k == .local || k == .cell))
def namesB (cf : Cf) (sc : Scope) : List Nat → List Expr → Bool := patB.go cf sc
def allLoc (sc : Scope) : List Expr → Bool
  | [] => true
  | .Name x _ :: es => decide (sc.names.lookup x = some .local) && allLoc sc es
  | _ => false
/-- which names are stored in exchange (pairs and triples of plain names), by the scope -/
def swK (sc : Scope) (ts vs : List Expr) : Option (Option (List Str)) :=
  if (!(ts.length == 2 || ts.length == 3) || vs.length != ts.length || sc.kind != .function) = true then some none else
  if (vs.any fun | .Starred .. => true | _ => false) = true then some none else
  let line := (ts.head?.map (·.pos.line)).getD 0
  let names := ts.filterMap fun
    | .Name id pos => if sc.names.lookup id == some .local && pos.line == line then some id else none
    | _ => none
  if (names.length != ts.length || names.eraseDups.length != names.length) = true then some none else
  if vs.all (foldedForSure 8) = true then some none else
  if vs.all (constantsAlone 8) = true then none else some (some names)
def parB (cf : Cf) (sc : Scope) (is : List Nat) (ts vs : List Expr) : Bool := match swK sc ts vs with
  | some none => patB.go cf sc is ts
  | some (some ns) => match is, ts, ns with
    | [i, j], [.Name n _, .Name m _], [n', m'] => decide (n' = n) && decide (m' = m) && decide (cf.N[i]? = some n) && decide (cf.N[j]? = some m) && decide (i ≠ j) && decide (sc.names.lookup n = some .local) && decide (sc.names.lookup m = some .local)
    | [i, j, l], [.Name n _, .Name m _, .Name r _], [n', m', r'] => decide (n' = n) && decide (m' = m) && decide (r' = r) && decide (cf.N[i]? = some n) && decide (cf.N[j]? = some m) && decide (cf.N[l]? = some r) && decide (i ≠ j) && decide (i ≠ l) && decide (j ≠ l) &&
      decide (sc.names.lookup n = some .local) && decide (sc.names.lookup m = some .local) && decide (sc.names.lookup r = some .local)
    | _, _, _ => false
  | none => false
def lcOr : Expr → Bool
  | .ListComp .. => true
  | v => notComp v
def tgtB (cf : Cf) (sc : Scope) : Tgt → Expr → Expr → Bool
  | .pat (.nm i), .Name x py, v => decide (cf.N[i]? = some x) && locB sc x && lcOr v
  | .pat p, tg, v => patB cf sc p tg && notTup v && (match tg with | .Tuple .. => true | _ => false)
  | .sub a b, .Subscript x y _, _ => isVal a && isVal b && notSlice y && mE cf a sc x && mE cf b sc y
  | .two a b a' b', .Tuple [.Subscript x y _, .Subscript x' y' _] _ _, _ => isVal a && isVal b && notSlice y && mE cf a sc x && mE cf b sc y && isVal a' && isVal b' && notSlice y' && mE cf a' sc x' && mE cf b' sc y'
  | _, _, _ => false
mutual
def mS (cf : Cf) (sc : Scope) : S → Stmt → Bool
  | .asg t e, s => match s with
    | .Assign [tg] v _ => isVal e && tgtB cf sc t tg v && mE cf e sc v
    | _ => false
  | .par is es, s => match s with
    | .Assign [.Tuple ts _ _] (.Tuple vs _ _) _ => noStar vs && parB cf sc is ts vs && mEs cf es sc vs && decide (ts.length = vs.length) && decide (is.length ≤ 100)
    | _ => false
  | .ext i e, s => match s with
    | .AugAssign (.Name x _) .Add v _ => decide (cf.N[i]? = some x) && locB sc x && isVal e && mE cf e sc v
    | _ => false
  | .app i e, s => match s with
    | .Expr (.Call (.Attribute (.Name x _) m apos) [v] [] cpos) _ => decide (cf.N[i]? = some x) && visB sc x && okN x && decide (m = "append") && (apos.endLine == cpos.line) && notStar v && isVal e && mE cf e sc v
    | _ => false
  | .expr e, s => match s with
    | .Expr v _ => isVal e && notComp v && mE cf e sc v
    | _ => false
  | .ite c a b, s => match s with
    | .If t x y _ => isVal c && tst t && mE cf c sc t && mSs cf sc a x && mSs cf sc b y
    | _ => false
  | .for p it body, s => match s with
    | .For tg iter b [] _ => notSet iter && patB cf sc p tg && tgB it tg && mE cf it sc iter && mSs cf sc body b
    | _ => false
  | .while c body, s => match s with
    | .While t b [] _ => isVal c && tst t && mE cf c sc t && mSs cf sc body b
    | _ => false
  | .ret e, s => match s with
    | .Return (some v) _ => isVal e && mE cf e sc v
    | _ => false
  | .brk, s => match s with
    | .Break _ => true
    | _ => false
  | .cont, s => match s with
    | .Continue _ => true
    | _ => false
  | .pass, s => match s with
    | .Pass _ => true
    | _ => false
  | .nev, _ => true
  | .fgt _, _ => false
  | .frz _, _ => false
def mSs (cf : Cf) (sc : Scope) : Ss → List Stmt → Bool
  | .nil, ss => ss.isEmpty
  | .cons (.fgt _) r, ss => mSs cf sc r ss
  | .cons (.frz _) r, ss => mSs cf sc r ss
  | .cons s r, ss => match ss with
    | st :: rest => mS cf sc s st && mSs cf sc r rest
    | [] => false
end
/-- what is wanted behind a statement -/
def PostS (K : PySem.W.Frag) (ι : List Addr) (H : Hp) (o : Out) (D : Ends) : Prop := match o with
  | .nx env h => ∀ ι' H' σ, Stp ι H ι' H' → SR K ι' H' h → EnvOk K ι' H' env σ → D.nx σ H'
  | .bk env h => ∀ ι' H' σ, Stp ι H ι' H' → SR K ι' H' h → EnvOk K ι' H' env σ → D.bk σ H'
  | .ct env h => ∀ ι' H' σ, Stp ι H ι' H' → SR K ι' H' h → EnvOk K ι' H' env σ → D.ct σ H'
  | .rt w h => ∀ ι' H' v, Stp ι H ι' H' → SR K ι' H' h → RepW K ι' H' w v → D.rt v H'
def tS (K : PySem.W.Frag) (f : Env → DH → Option Out) : TS := fun D σ H => ∃ ι env h o, SR K ι H h ∧ EnvOk K ι H env σ ∧ f env h = some o ∧ PostS K ι H o D
section
variable {K : PySem.W.Frag} {ι ι' : List Addr} {H H' : Hp} {o : Out} {D D' : Ends}
theorem PostS.stp (p : PostS K ι H o D) (a : Stp ι H ι' H') : PostS K ι' H' o D := by
  cases o <;> exact fun ι2 H2 x b => p ι2 H2 x (a.trans b)
end
section
variable {X : Cx} {x y z tg : Expr} {pos : Pos} {cf : Cf} {Φ : Nat → FSpec} {G : Nat → D} {sc : Scope} {k N : Nat} {st : Stmt} {rest : List Stmt}
theorem PS.imp {t t' : TS} (h : PS X st t) (i : ∀ D σ H, t' D σ H → t D σ H) : PS X st t' := ⟨fun pins s σ H D I q => h.run pins s σ H D I (i D σ H q)⟩
theorem PSs.imp {t t' : TS} (h : PSs X rest t) (i : ∀ D σ H, t' D σ H → t D σ H) : PSs X rest t' := ⟨fun pins s σ H D I q => h.run pins s σ H D I (i D σ H q)⟩

/-! ### blocks -/
theorem b_nil : PSs X [] (tS X.K (evSs Φ G N .nil)) := PSs.imp pss_nil fun D σ H q => by
  obtain ⟨ι, env, h, o, sr, eo, e, q⟩ := q
  simp only [evSs, Option.some.injEq] at e
  subst e
  exact q ι H σ .refl sr eo
theorem b_cons {s : S} {r : Ss} (h1 : PS X st (tS X.K (evS Φ G N s))) (h2 : PSs X rest (tS X.K (evSs Φ G N r))) : PSs X (st :: rest) (tS X.K (evSs Φ G N (.cons s r))) := PSs.imp (pss_cons h1 h2) fun D σ H q => by
  obtain ⟨ι, env, h, o, sr, eo, e, q⟩ := q
  simp only [evSs, Option.bind_eq_bind, Option.bind_eq_some_iff] at e
  obtain ⟨o1, e1, e2⟩ := e
  refine ⟨ι, env, h, o1, sr, eo, e1, ?_⟩
  split at e2
  · exact fun ι1 H1 σ1 p1 s1 eo1 => ⟨ι1, _, _, o, s1, eo1, e2, q.stp p1⟩
  · cases e2
    cases o with
    | nx env1 h1 => rename_i hn; exact absurd rfl (hn env1 h1)
    | rt w h => exact q
    | bk env h => exact q
    | ct env h => exact q
theorem unset_ok {K : PySem.W.Frag} {ι : List Addr} {H : Hp} {σ : L2.St} : ∀ {vs : List Nat} {env : Env}, EnvOk K ι H env σ → EnvOk K ι H (unsetE env vs) σ
  | [], _, h => h
  | v :: vs, env, h => unset_ok (vs := vs) ⟨by simp [h.len], fun i w hi => by
    by_cases hv : v = i
    · subst hv
      by_cases hl : v < env.length
      · rw [List.getElem?_set_self hl] at hi; cases hi
      · rw [List.getElem?_eq_none (by simpa using hl)] at hi; cases hi
    · rw [List.getElem?_set_ne hv] at hi
      exact h.val i w hi⟩
theorem b_fgt {vs : List Nat} {r : Ss} (h2 : PSs X rest (tS X.K (evSs Φ G N r))) : PSs X rest (tS X.K (evSs Φ G N (.cons (.fgt vs) r))) := PSs.imp h2 fun D σ H q => by
  obtain ⟨ι, env, h, o, sr, eo, e, q⟩ := q
  simp only [evSs, evS, Option.bind_eq_bind, Option.bind_some] at e
  exact ⟨ι, _, h, o, sr, unset_ok eo, e, q⟩
theorem b_frz {i : Nat} {r : Ss} (h2 : PSs X rest (tS X.K (evSs Φ G N r))) : PSs X rest (tS X.K (evSs Φ G N (.cons (.frz i) r))) := by
  refine ⟨fun pins s σ H D I q => ?_⟩
  obtain ⟨ι, env, h, o, sr, eo, e, q⟩ := q
  simp only [evSs, Option.bind_eq_bind, Option.bind_eq_some_iff] at e
  obtain ⟨o1, e1, e2⟩ := e
  simp only [evS] at e1
  split at e1
  · rename_i n hn
    split at e1
    · rename_i ws hc
      simp only [Option.bind_eq_bind, Option.bind_eq_some_iff, Option.some.injEq] at e1
      obtain ⟨ds, hp, rfl⟩ := e1
      obtain ⟨v, hv, rv⟩ := eo.val i _ hn
      obtain ⟨a, rfl, ha⟩ := rv.cell
      obtain ⟨vs, hH, r⟩ := sr.cell n _ a hc ha
      obtain ⟨_, its, m, _, ob⟩ := I.hok a _ hH
      obtain ⟨ob, I2⟩ := Inv.freeze I hH (fun _ z => by cases z) (fun _ _ z => by cases z) (fun _ z => by cases z) (fun _ z => by cases z) ⟨_, ob⟩
      have m1 : ∀ xs, HO.lst vs ≠ .tup xs := fun _ z => by cases z
      have m2 : ∀ o w, HO.lst vs ≠ .frz o w := fun _ _ z => by cases z
      have hmem : a ∈ ι := List.mem_of_getElem? ha
      have fx := fx_write (o := .frz ob (.lst vs)) hH m1 m2
      have st : Stp ι H ι (upd H a (.frz ob (.lst vs))) := ⟨List.prefix_refl _, ext_write hmem hH m1 m2, fun _ z => .inl z⟩
      have sr2 : SR X.K ι (upd H a (.frz ob (.lst vs))) (h.set n .dead) := sr.write ha trivial fx
      have eo2 : EnvOk X.K ι (upd H a (.frz ob (.lst vs))) (env.set i (some (.d (.lst ds)))) σ := by
        refine ⟨by simp [eo.len], fun j w hj => ?_⟩
        by_cases hij : j = i
        · subst hij
          have hlt : j < env.length := by have := (List.getElem?_eq_some_iff.mp hj).1; simpa using this
          rw [List.getElem?_set_self hlt] at hj
          cases hj
          exact ⟨_, hv, .d (.lst ⟨ob, upd_same⟩ ((r.pure hp).ext fx))⟩
        · rw [List.getElem?_set_ne (Ne.symm hij)] at hj
          obtain ⟨v', h1, h2⟩ := eo.val j w hj
          exact ⟨v', h1, h2.stp st⟩
      exact h2.run pins s σ _ D I2 ⟨ι, _, _, o, sr2, eo2, e2, q.stp st⟩
    · cases e1
  · cases e1
/-! ### small statements -/
theorem t_pass : PS X (.Pass pos) (tS X.K (evS Φ G N .pass)) := PS.imp ps_pass fun D σ H q => by
  obtain ⟨ι, env, h, o, sr, eo, e, q⟩ := q
  simp only [evS, Option.some.injEq] at e
  subst e
  exact q ι H σ .refl sr eo
theorem t_brk : PS X (.Break pos) (tS X.K (evS Φ G N .brk)) := PS.imp ps_break fun D σ H q => by
  obtain ⟨ι, env, h, o, sr, eo, e, q⟩ := q
  simp only [evS, Option.some.injEq] at e
  subst e
  exact q ι H σ .refl sr eo
theorem t_cont : PS X (.Continue pos) (tS X.K (evS Φ G N .cont)) := PS.imp ps_continue fun D σ H q => by
  obtain ⟨ι, env, h, o, sr, eo, e, q⟩ := q
  simp only [evS, Option.some.injEq] at e
  subst e
  exact q ι H σ .refl sr eo
theorem t_nev : PS X st (tS X.K (evS Φ G N .nev)) := PS.imp ps_never fun D σ H q => by
  obtain ⟨ι, env, h, o, sr, eo, e, q⟩ := q
  simp [evS] at e
theorem t_ret {e : E} (h : Ok1 X x (evE Φ G e)) : PS X (.Return (some x) pos) (tS X.K (evS Φ G N (.ret e))) := PS.imp (ps_ret h.pe) fun D σ H q => by
  obtain ⟨ι, env, h, o, sr, eo, e, q⟩ := q
  simp only [evS, Option.bind_eq_bind, Option.bind_eq_some_iff, Prod.exists, Option.some.injEq] at e
  obtain ⟨w, h1, e1, rfl⟩ := e
  exact ⟨ι, env, h, w, h1, sr, eo, e1, q⟩
theorem swaps_no {v : Expr} {t : Option Expr} {l : Nat} {env : PySem.Env} (h : notComp v = true) : swapsWith v t l env = pure false := by
  cases v <;> first | (simp [notComp] at h; done) | rfl
theorem t_expr {e : E} (h : Ok1 X x (evE Φ G e)) (hc : notComp x = true) : PS X (.Expr x pos) (tS X.K (evS Φ G N (.expr e))) := PS.imp (ps_expr h.pe (swaps_no hc)) fun D σ H q => by
  obtain ⟨ι, env, h, o, sr, eo, e, q⟩ := q
  simp only [evS, Option.bind_eq_bind, Option.bind_eq_some_iff, Prod.exists, Option.some.injEq] at e
  obtain ⟨w, h1, e1, rfl⟩ := e
  exact ⟨ι, env, h, w, h1, sr, eo, e1, fun ι1 H1 v p1 s1 _ => q ι1 H1 σ p1 s1 (eo.stp p1)⟩
theorem t_ite {c : E} {a b : Ss} {xs ys : List Stmt} (hc : Ok1 X x (evE Φ G c)) (ht : tst x = true) (ha : PSs X xs (tS X.K (evSs Φ G N a))) (hb : PSs X ys (tS X.K (evSs Φ G N b))) : PS X (.If x xs ys pos) (tS X.K (evS Φ G N (.ite c a b))) :=
  PS.imp (ps_if (hc.pt ht) ha hb) fun D σ H q => by
    obtain ⟨ι, env, h, o, sr, eo, e, q⟩ := q
    simp only [evS, Option.bind_eq_bind, Option.bind_eq_some_iff, Prod.exists] at e
    obtain ⟨w, h1, e1, e⟩ := e
    split at e
    · exact ⟨ι, env, h, _, h1, sr, eo, evB_of e1, fun ι1 H1 p1 s1 => iteT ⟨ι1, env, h1, o, s1, eo.stp p1, e, q.stp p1⟩⟩
    · exact ⟨ι, env, h, _, h1, sr, eo, evB_of e1, fun ι1 H1 p1 s1 => iteF ⟨ι1, env, h1, o, s1, eo.stp p1, e, q.stp p1⟩⟩
    · cases e
/-! ### loops -/
theorem t_for (hx : X.xe = fun _ _ => False) (hc : X.calm = true) {p : Pat} {it : E} {body : Ss} {b : List Stmt} (hi : PI X tg x (tIu X.K (evE Φ G it))) (hg : PG X tg (gP X.K p)) (hb : PSs X b (tS X.K (evSs Φ G N body))) (hs : notSet x = true) :
    PS X (.For tg x b [] pos) (tS X.K (evS Φ G N (.for p it body))) := PS.imp (ps_for (by rw [hx]; exact PassesOwn.never) hc hi hg hb (foldedSet hs _)) fun D σ H q => by
  obtain ⟨ι, env, h, o, sr, eo, e, q⟩ := q
  simp only [evS, Option.bind_eq_bind, Option.bind_eq_some_iff, Prod.exists] at e
  obtain ⟨w, h1, e1, e⟩ := e
  split at e
  · rename_i d
    simp only [Option.bind_eq_some_iff] at e
    obtain ⟨ds, e2, e3⟩ := e
    refine .inl ⟨ι, env, h, d, h1, ds, sr, eo, e1, e2, fun ι1 H1 J p1 s1 wk => ?_⟩
    have key : ∀ i m σ H', (∃ ι' env' hh, m = ds.length - i ∧ i ≤ ds.length ∧ Stp ι1 H1 ι' H' ∧ SR X.K ι' H' hh ∧ EnvOk X.K ι' H' env' σ ∧
        forD (fun x env h => do let env1 ← p.bind x env; evSs Φ G N body env1 h) (ds.drop i) env' hh = some o) → (J.stop i H' ∧ D.nx σ H') ∨ (J.go i H' ∧ ∃ Nn : L2.St → Hp → Prop, (∀ σ' H'', Nn σ' H'' → ∃ m', m' < m ∧
          (∃ ι' env' hh, m' = ds.length - (i + 1) ∧ i + 1 ≤ ds.length ∧ Stp ι1 H1 ι' H'' ∧ SR X.K ι' H'' hh ∧ EnvOk X.K ι' H'' env' σ' ∧ forD (fun x env h => do let env1 ← p.bind x env; evSs Φ G N body env1 h) (ds.drop (i + 1)) env' hh = some o)) ∧
          ∀ x H'', J.yld i H' x H'' → gP X.K p x σ H'' fun σ2 H2 => tS X.K (evSs Φ G N body) { D with nx := Nn, ct := Nn, bk := D.nx } σ2 H2) := by
      rintro i m σ H' ⟨ι', env', hh, rfl, hi, pp, ss, ee, ef⟩
      obtain ⟨w1, w2⟩ := wk H' pp.fx i
      by_cases hlt : i < ds.length
      · rw [List.drop_eq_getElem_cons hlt] at ef
        simp only [forD, Option.bind_eq_bind, Option.bind_eq_some_iff] at ef
        obtain ⟨o1, ⟨env1, e4, e5⟩, e6⟩ := ef
        obtain ⟨g, yl⟩ := w1 ds[i] (List.getElem?_eq_getElem hlt)
        refine .inr ⟨g, fun σ' H'' => ∃ ι'' env'' hh'', Stp ι1 H1 ι'' H'' ∧ SR X.K ι'' H'' hh'' ∧ EnvOk X.K ι'' H'' env'' σ' ∧ forD (fun x env h => do let env1 ← p.bind x env; evSs Φ G N body env1 h) (ds.drop (i + 1)) env'' hh'' = some o, fun σ' H'' hn => ?_, fun x H'' hy => ?_⟩
        · obtain ⟨ι'', env'', hh'', q1, q2, q3, q4⟩ := hn
          exact ⟨ds.length - (i + 1), by omega, ι'', env'', hh'', rfl, hlt, q1, q2, q3, q4⟩
        · obtain ⟨sm, rx⟩ := yl x H'' hy
          have pp2 : Stp ι' H' ι' H'' := .same sm
          refine ⟨ι', env', hh, ds[i], env1, ss.same sm, ee.stp pp2, rx, e4, fun σ2 ee2 _ => ⟨ι', env1, hh, o1, ss.same sm, ee2, e5, ?_⟩⟩
          have pp3 := pp.trans pp2
          cases o1 with
          | nx env2 h2 => exact fun ι3 H3 σ3 p3 s3 e3 => ⟨ι3, env2, h2, pp3.trans p3, s3, e3, e6⟩
          | ct env2 h2 => exact fun ι3 H3 σ3 p3 s3 e3 => ⟨ι3, env2, h2, pp3.trans p3, s3, e3, e6⟩
          | bk env2 h2 =>
            simp only [Option.some.injEq] at e6
            subst e6
            exact fun ι3 H3 σ3 p3 s3 e3 => q ι3 H3 σ3 ((p1.trans pp3).trans p3) s3 e3
          | rt w h2 =>
            simp only [Option.some.injEq] at e6
            subst e6
            exact fun ι3 H3 v p3 s3 r3 => q ι3 H3 v ((p1.trans pp3).trans p3) s3 r3
      · rw [List.drop_eq_nil_of_le (by omega)] at ef
        simp only [forD, Option.some.injEq] at ef
        subst ef
        exact .inl ⟨w2 (by omega), q ι' H' σ (p1.trans pp) ss ee⟩
    exact ⟨_, ⟨_, ι1, env, h1, rfl, Nat.zero_le _, .refl, s1, eo.stp p1, by simpa using e3⟩, key⟩
  · cases e
theorem t_while (hx : X.xe = fun _ _ => False) {c : E} {body : Ss} {b : List Stmt} (hc : Ok1 X x (evE Φ G c)) (ht : tst x = true) (hb : PSs X b (tS X.K (evSs Φ G N body))) : PS X (.While x b [] pos) (tS X.K (evS Φ G N (.while c body))) :=
  PS.imp (ps_while (by rw [hx]; exact PassesOwn.never) (hc.pt ht) hb) fun D σ H q => by
    obtain ⟨ι, env, h, o, sr, eo, e, q⟩ := q
    have key : ∀ m σ H', (∃ ι' env' hh, Stp ι H ι' H' ∧ SR X.K ι' H' hh ∧ EnvOk X.K ι' H' env' σ ∧ whileD (evB (evE Φ G c)) (evSs Φ G N body) m env' hh = some o) →
        tT X.K (evB (evE Φ G c)) σ H' fun b H1 => if b = true then ∃ Nn : L2.St → Hp → Prop, (∀ σ' H'', Nn σ' H'' → ∃ m', m' < m ∧ (∃ ι' env' hh, Stp ι H ι' H'' ∧ SR X.K ι' H'' hh ∧ EnvOk X.K ι' H'' env' σ' ∧ whileD (evB (evE Φ G c)) (evSs Φ G N body) m' env' hh = some o)) ∧
          tS X.K (evSs Φ G N body) { D with nx := Nn, ct := Nn, bk := D.nx } σ H1 else D.nx σ H1 := by
      rintro m σ H' ⟨ι', env', hh, pp, ss, ee, ew⟩
      cases m with
      | zero => simp [whileD] at ew
      | succ m =>
        simp only [whileD, Option.bind_eq_bind, Option.bind_eq_some_iff, Prod.exists] at ew
        obtain ⟨bb, h1, e1, e2⟩ := ew
        refine ⟨ι', env', hh, bb, h1, ss, ee, e1, fun ι1 H1 p1 s1 => ?_⟩
        cases bb with
        | false =>
          simp only [Bool.false_eq_true, if_false, Option.some.injEq] at e2
          subst e2
          exact iteF (q ι1 H1 σ (pp.trans p1) s1 (ee.stp p1))
        | true =>
          simp only [if_true, Option.bind_eq_some_iff] at e2
          obtain ⟨o1, e3, e4⟩ := e2
          refine iteT ⟨fun σ' H'' => ∃ ι' env' hh, Stp ι H ι' H'' ∧ SR X.K ι' H'' hh ∧ EnvOk X.K ι' H'' env' σ' ∧ whileD (evB (evE Φ G c)) (evSs Φ G N body) m env' hh = some o, fun σ' H'' hn => ⟨m, Nat.lt_succ_self m, hn⟩, ι1, env', h1, o1, s1, ee.stp p1, e3, ?_⟩
          have pp2 := pp.trans p1
          cases o1 with
          | nx env2 h2 => exact fun ι3 H3 σ3 p3 s3 e3 => ⟨ι3, env2, h2, pp2.trans p3, s3, e3, e4⟩
          | ct env2 h2 => exact fun ι3 H3 σ3 p3 s3 e3 => ⟨ι3, env2, h2, pp2.trans p3, s3, e3, e4⟩
          | bk env2 h2 =>
            simp only [Option.some.injEq] at e4
            subst e4
            exact fun ι3 H3 σ3 p3 s3 e3 => q ι3 H3 σ3 (pp2.trans p3) s3 e3
          | rt w h2 =>
            simp only [Option.some.injEq] at e4
            subst e4
            exact fun ι3 H3 v p3 s3 r3 => q ι3 H3 v (pp2.trans p3) s3 r3
    simp only [evS] at e
    exact ⟨_, ⟨N, ι, env, h, .refl, sr, eo, e⟩, key⟩
end
end Sh

/-! stores -/
namespace Sh
open PySem PySem.Spec PyProof.Rows L2

theorem swK_ok {env : PySem.Env} {sc : Scope} {ts vs : List Expr} {r : Option (List Str)} {k k2 : Nat} {p p2 : Pos} (he : env.scope = sc) (hk : sc.kind = .function) (h : swK sc ts vs = some r) :
    swappedStores [.Tuple ts k p] (.Tuple vs k2 p2) env = pure r := by
  have hb : env.blockKind = .function := by unfold Env.blockKind; rw [he, hk]; rfl
  have ks : (sc.kind != ScopeKind.function) = false := by rw [hk]; rfl
  have hl : ∀ id, env.kindOf id = sc.names.lookup id := fun id => by unfold Env.kindOf; rw [he]
  unfold swappedStores
  unfold swK at h
  simp only [hb, ks, hl, bne_self_eq_false, Bool.or_false] at h ⊢
  split at h
  · rename_i c; cases h; exact if_pos c
  rename_i c; refine (if_neg c).trans ?_; clear c
  split at h
  · rename_i c; cases h; exact if_pos c
  rename_i c; refine (if_neg c).trans ?_; clear c
  split at h
  · rename_i c; cases h; exact if_pos c
  rename_i c; refine (if_neg c).trans ?_; clear c
  split at h
  · rename_i c; cases h; exact if_pos c
  rename_i c; refine (if_neg c).trans ?_; clear c
  split at h
  · cases h
  rename_i c; cases h; exact if_neg c

section
variable {X : Cx} {x y z tg : Expr} {pos : Pos} {cf : Cf} {Φ : Nat → FSpec} {G : Nat → D} {sc : Scope} {k N : Nat} {st : Stmt} {rest : List Stmt}
/-- one name -/
theorem t_name (ok : XOk cf Φ G sc k X) (fo : FOk sc X) {i : Nat} {n : Str} {py : Pos} {e : E} (h1 : cf.N[i]? = some n) (h2 : locB sc n = true) (he : Ok1 X x (evE Φ G e)) (hs : swapsWith x (some (.Name n py)) pos.line X.env = pure false) :
    PS X (.Assign [.Name n py] x pos) (tS X.K (evS Φ G N (.asg (.pat (.nm i)) e))) := by
  obtain ⟨hloc, hfn⟩ := fo n h2
  refine PS.imp (ps_set (by rw [ok.N]; exact ok.nd) (by rw [ok.N]; exact h1) hloc he.pe hs hfn) fun D σ H q => ?_
  obtain ⟨ι, env, h, o, sr, eo, e, q⟩ := q
  simp only [evS, Option.bind_eq_bind, Option.bind_eq_some_iff, Prod.exists, Option.some.injEq] at e
  obtain ⟨w, h1, e1, rfl⟩ := e
  exact ⟨ι, env, h, w, h1, sr, eo, e1, fun ι1 H1 v p1 s1 r1 => q ι1 H1 _ p1 s1 ((eo.stp p1).set r1 i)⟩
/-- a target of several names -/
theorem t_pat (ok : XOk cf Φ G sc k X) (fo : FOk sc X) {p : Pat} {es : List Expr} {kk : Nat} {pt : Pos} {e : E} (hp : patB cf sc p (.Tuple es kk pt) = true) (he : Ok1 X x (evE Φ G e)) (hn : notTup x = true) :
    PS X (.Assign [.Tuple es kk pt] x pos) (tS X.K (evS Φ G N (.asg (.pat p) e))) := by
  have hs : swapsWithSole [.Tuple es kk pt] x pos.line X.env = pure false := by cases x <;> rfl
  have hw : swappedStores [.Tuple es kk pt] x X.env = pure none := by cases x <;> first | (simp [notTup] at hn; done) | rfl
  refine PS.imp (ps_asg he.pe (pg_pat ok fo hp) hs hw (by rfl)) fun D σ H q => ?_
  obtain ⟨ι, env, h, o, sr, eo, e, q⟩ := q
  cases p with
  | nm i => simp [patB] at hp
  | _ =>
    simp only [evS, Option.bind_eq_bind, Option.bind_eq_some_iff, Prod.exists] at e
    obtain ⟨w, h1, e1, e⟩ := e
    split at e
    · simp only [Option.bind_eq_some_iff, Option.some.injEq] at e
      obtain ⟨env1, e2, rfl⟩ := e
      exact ⟨ι, env, h, _, h1, sr, eo, e1, fun ι1 H1 v p1 s1 r1 => ⟨ι1, env, h1, _, env1, s1, eo.stp p1, r1.pure, e2, fun σ' eo' _ => q ι1 H1 σ' p1 s1 eo'⟩⟩
    · cases e
/-- o[i] = v by data -/
def tSetW (K : PySem.W.Frag) : TSet := fun o i v H Q => ∃ ι h a b w h', SR K ι H h ∧ RepW K ι H a o ∧ RepW K ι H b i ∧ RepW K ι H w v ∧ storeW a b w h = some h' ∧ ∀ ι' H', Stp ι H ι' H' → SR K ι' H' h' → Q H'
theorem setR : PSet X (tSetW X.K) := by
  intro pins s σ H o i v ov iv u Q I ro ri rv hq
  obtain ⟨ι, h, a, b, w, h', sr, ra, rb, rw', e, q⟩ := hq
  unfold storeW at e
  split at e
  · rename_i n kk
    split at e
    · rename_i ws hc
      simp only [Option.map_eq_some_iff] at e
      obtain ⟨j, e1, rfl⟩ := e
      obtain ⟨adr, rfl, ha⟩ := ra.cell
      obtain rfl := rb.int
      obtain ⟨vs, hH, r⟩ := sr.cell n _ adr hc ha
      have m1 : ∀ xs, HO.lst vs ≠ .tup xs := fun _ z => by cases z
      have m2 : ∀ o w, HO.lst vs ≠ .frz o w := fun _ _ z => by cases z
      refine set_list pins s σ H _ _ v ov iv u Q I ro ri rv ⟨adr, vs, kk, j, rfl, rfl, hH, by rw [← r.length]; exact e1, ?_⟩
      have fx := fx_write (o := .lst (vs.set j v)) hH m1 m2
      exact q ι _ ⟨List.prefix_refl _, ext_write (List.mem_of_getElem? ha) hH m1 m2, fun _ z => .inl z⟩ (sr.write ha ⟨_, upd_same, (r.set rw' j).ext (List.prefix_refl _) fx⟩ fx)
    · cases e
  · cases e
theorem assign_sub {env : PySem.Env} {o i : Expr} (h : notSlice i = true) : ∀ v, assign (.Subscript o i pos) env v = (do
      let ov ← holding [v] (eval o env)
      let iv ← holding [v, ov] (eval i env)
      standAt pos
      holding [v, ov, iv] (setItem ov iv v)
      release [v, ov, iv] []) := by
  intro v
  cases i <;> first | (simp [notSlice] at h; done) | rfl
theorem t_sub {a b e : E} {ps : Pos} (ha : Ok1 X y (evE Φ G a)) (hb : Ok1 X z (evE Φ G b)) (hz : notSlice z = true) (he : Ok1 X x (evE Φ G e)) : PS X (.Assign [.Subscript y z ps] x pos) (tS X.K (evS Φ G N (.asg (.sub a b) e))) := by
  have hs : swapsWithSole [.Subscript y z ps] x pos.line X.env = pure false := by cases x <;> rfl
  have hw : swappedStores [.Subscript y z ps] x X.env = pure none := by cases x <;> rfl
  refine PS.imp (ps_asg he.pe (pg_sub ha.pe hb.pe setR (assign_sub hz)) hs hw (by rfl)) fun D σ H q => ?_
  obtain ⟨ι, env, h, o, sr, eo, e, q⟩ := q
  simp only [evS, Option.bind_eq_bind, Option.bind_eq_some_iff, Prod.exists, Option.some.injEq] at e
  obtain ⟨v, h1, e1, o, h2, e2, i, h3, e3, h4, e4, rfl⟩ := e
  refine ⟨ι, env, h, v, h1, sr, eo, e1, fun ι1 H1 v1 p1 s1 r1 => ⟨ι1, env, h1, o, h2, s1, eo.stp p1, e2, fun ι2 H2 v2 p2 s2 r2 => ⟨ι2, env, h2, i, h3, s2, (eo.stp p1).stp p2, e3, fun ι3 H3 v3 p3 s3 r3 => ?_⟩⟩⟩
  exact ⟨ι3, h3, o, i, v, h4, s3, r2.stp p3, r3, (r1.stp p2).stp p3, e4, fun ι4 H4 p4 s4 => q ι4 H4 σ (((p1.trans p2).trans p3).trans p4) s4 ((((eo.stp p1).stp p2).stp p3).stp p4)⟩
theorem filter_two {sc : PySem.Env} {a b a' b' : Expr} {p p' : Pos} {line : Nat} : ([Expr.Subscript a b p, .Subscript a' b' p'].filterMap fun
    | .Name id pos => if sc.kindOf id == some .local && pos.line == line then some id else none
    | _ => none) = [] := rfl
theorem swap_two {env : PySem.Env} {a b a' b' v : Expr} {kk : Nat} {p p' pt : Pos} : swappedStores [.Tuple [.Subscript a b p, .Subscript a' b' p'] kk pt] v env = pure none := by
  cases v <;> first
    | rfl
    | (rename_i vs k2 p2
       unfold swappedStores
       simp only [filter_two]
       split
       · rfl
       · split
         · rfl
         · rfl)
theorem t_two (ok : XOk cf Φ G sc k X) {a b a' b' e : E} {y' z' : Expr} {p1 p2 pt : Pos} {kk : Nat} (ha : Ok1 X y (evE Φ G a)) (hb : Ok1 X z (evE Φ G b)) (hz : notSlice z = true) (ha' : Ok1 X y' (evE Φ G a')) (hb' : Ok1 X z' (evE Φ G b')) (hz' : notSlice z' = true) (he : Ok1 X x (evE Φ G e)) :
    PS X (.Assign [.Tuple [.Subscript y z p1, .Subscript y' z' p2] kk pt] x pos) (tS X.K (evS Φ G N (.asg (.two a b a' b') e))) := by
  have hs : swapsWithSole [.Tuple [.Subscript y z p1, .Subscript y' z' p2] kk pt] x pos.line X.env = pure false := by cases x <;> rfl
  refine PS.imp (ps_asg he.pe (pg_tup ok.calm (pgs_cons (pg_sub ha.pe hb.pe setR (assign_sub hz)) (pgs_cons (pg_sub ha'.pe hb'.pe setR (assign_sub hz')) pgs_nil))) hs swap_two (by rfl)) fun D σ H q => ?_
  obtain ⟨ι, env, h, o, sr, eo, e, q⟩ := q
  simp only [evS, Option.bind_eq_bind, Option.bind_eq_some_iff, Prod.exists] at e
  obtain ⟨v, h1, e1, e⟩ := e
  split at e
  · simp only [Option.bind_eq_some_iff, Prod.exists, Option.some.injEq] at e
    obtain ⟨o, h2, e2, i, h3, e3, h4, e4, o', h5, e5, i', h6, e6, h7, e7, rfl⟩ := e
    refine ⟨ι, env, h, _, h1, sr, eo, e1, fun ι1 H1 v1 q1 s1 r1 => ?_⟩
    have r1 := r1.pure
    cases r1 with
    | tup hq rr =>
      cases rr with
      | cons ra rr =>
        cases rr with
        | cons rb rr =>
          cases rr
          refine ⟨_, _, rfl, hq, rfl, _, _, rfl, ?_⟩
          refine ⟨ι1, env, h1, o, h2, s1, eo.stp q1, e2, fun ι2 H2 v2 q2 s2 r2 => ⟨ι2, env, h2, i, h3, s2, (eo.stp q1).stp q2, e3, fun ι3 H3 v3 q3 s3 r3 => ?_⟩⟩
          refine ⟨ι3, h3, o, i, _, h4, s3, r2.stp q3, r3, .d ((ra.ext q2.fx).ext q3.fx), e4, fun ι4 H4 q4 s4 => ?_⟩
          have eo4 := (((eo.stp q1).stp q2).stp q3).stp q4
          refine ⟨_, _, rfl, ι4, env, h4, o', h5, s4, eo4, e5, fun ι5 H5 v5 q5 s5 r5 => ⟨ι5, env, h5, i', h6, s5, eo4.stp q5, e6, fun ι6 H6 v6 q6 s6 r6 => ?_⟩⟩
          refine ⟨ι6, h6, o', i', _, h7, s6, r5.stp q6, r6, .d (((((rb.ext q2.fx).ext q3.fx).ext q4.fx).ext q5.fx).ext q6.fx), e7, fun ι7 H7 q7 s7 => ?_⟩
          exact ⟨rfl, q ι7 H7 σ ((((((q1.trans q2).trans q3).trans q4).trans q5).trans q6).trans q7) s7 (((eo4.stp q5).stp q6).stp q7)⟩
  · cases e
/-! ### several names at once -/
theorem gl_namesW (ok : XOk cf Φ G sc k X) (fo : FOk sc X) : ∀ {is : List Nat} {es : List Expr}, patB.go cf sc is es = true → ∃ t, PGs X es t ∧ (assignEach es X.env).length = es.length ∧ (assignEach es X.env).findIdx? (·.1) = none ∧
    ∀ (ι : List Addr) (env env' : Env) (h : DH) (H : Hp) (σ : L2.St) (ds : List W) (vs : List V) (Q : L2.St → Hp → Prop), SR X.K ι H h → EnvOk X.K ι H env σ → RepWL X.K ι H ds vs → setsE is ds env = some env' →
      (∀ σ', EnvOk X.K ι H env' σ' → Q σ' H) → t vs σ H Q
  | [], [], _ => ⟨gNil, pgs_nil, rfl, rfl, fun ι env env' h H σ ds vs Q sr eo r e q => by
      cases r with
      | nil =>
        simp only [setsE, Option.some.injEq] at e
        subst e
        exact ⟨rfl, q σ eo⟩
      | cons a b => simp [setsE] at e⟩
  | [], _ :: _, h => by simp [patB.go] at h
  | _ :: _, [], h => by simp [patB.go] at h
  | i :: is, x :: es, h => by
    cases x with
    | Name n p =>
      simp only [patB.go, Bool.and_eq_true, decide_eq_true_eq] at h
      obtain ⟨t, ht, hl, hf, hq⟩ := gl_namesW ok fo h.2
      have hN : X.N[i]? = some n := by rw [ok.N]; exact h.1.1
      obtain ⟨hloc, hfn⟩ := fo n h.1.2
      refine ⟨gCons (gName i) t, pgs_cons (pg_name (by rw [ok.N]; exact ok.nd) hN hloc hfn) ht (by rfl), by simp only [assignEach, List.length_cons, hl], ?_, fun ι env env' h' H σ ds vs Q sr eo r e q => ?_⟩
      · show List.findIdx? (·.1) ((false, assign (.Name n p) X.env) :: assignEach es X.env) = none
        rw [List.findIdx?_cons, hf]; rfl
      · cases r with
        | nil => simp [setsE] at e
        | cons a b =>
          simp only [setsE] at e
          exact ⟨_, _, rfl, hq ι _ env' h' H _ _ _ Q sr (eo.set a i) b e fun σ' eo' => q σ' eo'⟩
    | _ => simp [patB.go] at h
theorem setsE_len : ∀ {is : List Nat} {ws : List W} {env env' : Env}, setsE is ws env = some env' → is.length = ws.length
  | [], [], _, _, _ => rfl
  | [], _ :: _, _, _, h => by simp [setsE] at h
  | _ :: _, [], _, _, h => by simp [setsE] at h
  | _ :: is, _ :: ws, _, _, h => by simp only [setsE] at h; simp [setsE_len h]
theorem go_len : ∀ {is : List Nat} {es : List Expr}, patB.go cf sc is es = true → is.length = es.length
  | [], [], _ => rfl
  | [], _ :: _, h => by simp [patB.go] at h
  | _ :: _, [], h => by simp [patB.go] at h
  | _ :: _, x :: _, h => by
    cases x <;> simp only [patB.go, Bool.and_eq_true, Bool.false_eq_true] at h
    simp [go_len h.2]
/-- plainly: the tuple is made, and taken apart -/
theorem t_par0 (ok : XOk cf Φ G sc k X) (fo : FOk sc X) {is : List Nat} {es : Es} {ts vs : List Expr} {kt kv : Nat} {pt pv : Pos} (hn : patB.go cf sc is ts = true) (ha : PA X vs (tA X.K (evEs Φ G es))) (hlen : ts.length = vs.length) (hl : is.length ≤ 100)
    (hw : swappedStores [.Tuple ts kt pt] (.Tuple vs kv pv) X.env = pure none) : PS X (.Assign [.Tuple ts kt pt] (.Tuple vs kv pv) pos) (tS X.K (evS Φ G N (.par is es))) := by
  obtain ⟨t, ht, h1, h2, hq⟩ := gl_namesW ok fo hn
  refine PS.imp (ps_asg (pe_tup ha) (pg_tup ok.calm ht h1 h2) rfl hw (by rfl)) fun D σ H q => ?_
  obtain ⟨ι, env, h, o, sr, eo, e, q⟩ := q
  simp only [evS, Option.bind_eq_bind, Option.bind_eq_some_iff, Prod.exists, Option.some.injEq] at e
  obtain ⟨ws, h1, e1, env1, e2, rfl⟩ := e
  refine ⟨ι, env, h, ws, h1, sr, eo, e1, fun ι1 H1 vs' p1 s1 r1 => ?_⟩
  have hL : vs'.length = is.length := by rw [← r1.length, setsE_len e2]
  refine ⟨by have := line_eq; rw [hL, ← this]; simp only [line]; omega, fun p hp => ⟨p, vs', rfl, .inl (.inl upd_same), by rw [hL, go_len hn], ?_⟩⟩
  have sm := same_upd (o := HO.tup vs') hp
  have st : Stp ι1 H1 ι1 _ := .same sm
  exact hq ι1 env env1 h1 _ σ ws vs' _ (s1.same sm) ((eo.stp p1).stp st) (r1.stp st) e2 fun σ' eo' => q ι1 _ σ' (p1.trans st) (s1.same sm) eo'
theorem t_par2 (ok : XOk cf Φ G sc k X) {i j : Nat} {es : Es} {n m : Str} {a b : Expr} {px py pt pv : Pos} {kt kv : Nat} (hi : cf.N[i]? = some n) (hj : cf.N[j]? = some m) (hij : i ≠ j) (hx : sc.names.lookup n = some .local) (hy : sc.names.lookup m = some .local)
    (ha : PA X [a, b] (tA X.K (evEs Φ G es))) (hw : swappedStores [.Tuple [.Name n px, .Name m py] kt pt] (.Tuple [a, b] kv pv) X.env = pure (some [n, m])) :
    PS X (.Assign [.Tuple [.Name n px, .Name m py] kt pt] (.Tuple [a, b] kv pv) pos) (tS X.K (evS Φ G N (.par [i, j] es))) := by
  refine PS.imp (ps_par ok.calm (by rw [ok.N]; exact ok.nd) (by rw [ok.N]; exact hi) (by rw [ok.N]; exact hj) hij (by rw [ok.sc]; exact hx) (by rw [ok.sc]; exact hy) ha hw rfl) fun D σ H q => ?_
  obtain ⟨ι, env, h, o, sr, eo, e, q⟩ := q
  simp only [evS, Option.bind_eq_bind, Option.bind_eq_some_iff, Prod.exists, Option.some.injEq] at e
  obtain ⟨ws, h1, e1, env1, e2, rfl⟩ := e
  refine ⟨ι, env, h, ws, h1, sr, eo, e1, fun ι1 H1 vs' p1 s1 r1 => ?_⟩
  cases r1 with
  | nil => simp [setsE] at e2
  | cons ra r1 =>
    cases r1 with
    | nil => simp [setsE] at e2
    | cons rb r1 =>
      cases r1 with
      | cons _ _ => simp [setsE] at e2
      | nil =>
        simp only [setsE, Option.some.injEq] at e2
        subst e2
        exact ⟨_, _, rfl, q ι1 H1 _ p1 s1 (((eo.stp p1).set ra i).set rb j)⟩
theorem t_par3 (ok : XOk cf Φ G sc k X) {i j l : Nat} {es : Es} {n m r : Str} {a b c : Expr} {px py pz pt pv : Pos} {kt kv : Nat} (hi : cf.N[i]? = some n) (hj : cf.N[j]? = some m) (hl : cf.N[l]? = some r) (hij : i ≠ j) (hil : i ≠ l) (hjl : j ≠ l)
    (hx : sc.names.lookup n = some .local) (hy : sc.names.lookup m = some .local) (hz : sc.names.lookup r = some .local)
    (ha : PA X [a, b, c] (tA X.K (evEs Φ G es))) (hw : swappedStores [.Tuple [.Name n px, .Name m py, .Name r pz] kt pt] (.Tuple [a, b, c] kv pv) X.env = pure (some [n, m, r])) :
    PS X (.Assign [.Tuple [.Name n px, .Name m py, .Name r pz] kt pt] (.Tuple [a, b, c] kv pv) pos) (tS X.K (evS Φ G N (.par [i, j, l] es))) := by
  refine PS.imp (ps_par3 ok.calm (by rw [ok.N]; exact ok.nd) (by rw [ok.N]; exact hi) (by rw [ok.N]; exact hj) (by rw [ok.N]; exact hl) hij hil hjl (by rw [ok.sc]; exact hx) (by rw [ok.sc]; exact hy) (by rw [ok.sc]; exact hz) ha hw rfl) fun D σ H q => ?_
  obtain ⟨ι, env, h, o, sr, eo, e, q⟩ := q
  simp only [evS, Option.bind_eq_bind, Option.bind_eq_some_iff, Prod.exists, Option.some.injEq] at e
  obtain ⟨ws, h1, e1, env1, e2, rfl⟩ := e
  refine ⟨ι, env, h, ws, h1, sr, eo, e1, fun ι1 H1 vs' p1 s1 r1 => ?_⟩
  cases r1 with
  | nil => simp [setsE] at e2
  | cons ra r1 =>
    cases r1 with
    | nil => simp [setsE] at e2
    | cons rb r1 =>
      cases r1 with
      | nil => simp [setsE] at e2
      | cons rc r1 =>
        cases r1 with
        | cons _ _ => simp [setsE] at e2
        | nil =>
          simp only [setsE, Option.some.injEq] at e2
          subst e2
          exact ⟨_, _, _, rfl, q ι1 H1 _ p1 s1 ((((eo.stp p1).set ra i).set rb j).set rc l)⟩
/-! ### lists changed -/
/-- name += list, in place -/
def ipExt (K : PySem.W.Frag) : TIp := fun x y H Q => ∃ ι h n ws xs, SR K ι H h ∧ RepW K ι H (.ref n) x ∧ RepW K ι H (.d (.lst xs)) y ∧ h[n]? = some (.lst ws) ∧ ws.length + xs.length ≤ line ∧
  ∀ ι' H', Stp ι H ι' H' → SR K ι' H' (h.set n (.lst (ws ++ xs.map W.d))) → RepW K ι' H' (.ref n) x → Q x H'
theorem ipR : PIp X .Add (ipExt X.K) := by
  intro pins s σ H x y v u Q I rx ry hq
  obtain ⟨ι, h, n, ws, xs, sr, r1, r2, hc, hl, q⟩ := hq
  obtain ⟨adr, rfl, ha⟩ := r1.cell
  obtain ⟨vs, hH, rw'⟩ := sr.cell n _ adr hc ha
  obtain ⟨b, us, rfl, hB, rb⟩ := (Is.rep r2.pure).sq
  cases rx
  cases ry
  obtain ⟨z, its, m, r, hl1, e⟩ := I.lstM hH
  obtain ⟨z2, its2, m2, r2', hl2, e2⟩ := Inv.rdl I hB
  have hsz : its.toArray.size + its2.toArray.size ≤ sizeLine := by rw [List.size_toArray, List.size_toArray, ← hl1, ← hl2, ← rw'.length, ← rb.length, ← line_eq]; exact hl
  have hlong : ¬ (!its.toArray.isEmpty && Builtin.List.listTooLong (its.toArray.size + its2.toArray.size)) = true := by
    rw [notLongL hsz, Bool.and_false]
    exact Bool.false_ne_true
  refine iadd_road ⟨_, e, rfl⟩ ⟨_, e2, rfl⟩ (call_meets PySem.F.slot_list_iadd ⟨_, e, rfl⟩ PySem.F.entry_list_iadd (PySem.F.args_list_iadd_2 _ _)
    (AutoSeq1.list___iadd___list_list_0 adr its.toArray m b its2.toArray m2 hlong (by simp only [List.size_toArray] at hsz ⊢; omega) (by simp only [List.size_toArray] at hsz ⊢; omega)) ⟨e, e2, ?_⟩)
  have m1 : ∀ xs, HO.lst vs ≠ .tup xs := fun _ z => by cases z
  have m2 : ∀ o w, HO.lst vs ≠ .frz o w := fun _ _ z => by cases z
  have fx := fx_write (o := .lst (vs ++ us)) hH m1 m2
  refine ⟨.ref adr, _, I.lset (its' := its ++ its2) (t' := s.toks) hH e (by simp) (r.append r2') ?_, rfl, q ι _ ⟨List.prefix_refl _, ext_write (List.mem_of_getElem? ha) hH m1 m2, fun _ z => .inl z⟩ (sr.write ha ⟨_, upd_same, (rw'.append (RepWL.of rb)).ext (List.prefix_refl _) fx⟩ fx) (.ref ha)⟩
  rw [List.length_append]
  simpa [hl1, hl2] using hsz
theorem env_set_same {env : Env} {i : Nat} {w : Option W} (h : env[i]? = some w) : env.set i w = env := by
  refine List.ext_getElem? fun j => ?_
  by_cases hij : i = j
  · subst hij
    rw [List.getElem?_set_self (List.getElem?_eq_some_iff.mp h).1, h]
  · rw [List.getElem?_set_ne hij]
theorem t_ext (ok : XOk cf Φ G sc k X) (fo : FOk sc X) {i : Nat} {n : Str} {px : Pos} {e : E} (h1 : cf.N[i]? = some n) (h2 : locB sc n = true) (he : Ok1 X x (evE Φ G e)) : PS X (.AugAssign (.Name n px) .Add x pos) (tS X.K (evS Φ G N (.ext i e))) := by
  obtain ⟨hloc, hfn⟩ := fo n h2
  refine PS.imp (ps_aug (by rw [ok.N]; exact ok.nd) (by rw [ok.N]; exact h1) hloc he.pe ipR hfn) fun D σ H q => ?_
  obtain ⟨ι, env, h, o, sr, eo, e, q⟩ := q
  simp only [evS] at e
  split at e
  · rename_i m hm
    simp only [Option.bind_eq_bind, Option.bind_eq_some_iff, Prod.exists] at e
    obtain ⟨w, h1, e1, e⟩ := e
    obtain ⟨v, hv, rv⟩ := eo.val i _ hm
    refine ⟨v, hv, ι, env, h, w, h1, sr, eo, e1, fun ι1 H1 y p1 s1 r1 => ?_⟩
    split at e
    · rename_i xs ws hc
      split at e
      · rename_i hl
        cases e
        refine ⟨ι1, h1, m, ws, xs, s1, rv.stp p1, r1, hc, hl, fun ι2 H2 p2 s2 r2 => q ι2 H2 _ (p1.trans p2) s2 ?_⟩
        have := ((eo.stp p1).stp p2).set r2 i
        rw [env_set_same hm] at this
        exact this
      · cases e
    · cases e
  · cases e
def rAppW (K : PySem.W.Frag) : V → List V → Hp → VK → Prop := fun x vs H Q => ∃ ι h n ws w y, SR K ι H h ∧ RepW K ι H (.ref n) x ∧ vs = [y] ∧ RepW K ι H w y ∧ h[n]? = some (.lst ws) ∧ ws.length < line ∧
  ∀ ι' H', Stp ι H ι' H' → SR K ι' H' (h.set n (.lst (ws ++ [w]))) → Q .non H'
theorem appR : MtR X "list.append" (rAppW X.K) := by
  intro pins s σ H x xs v us Q I rx rs hq
  obtain ⟨ι, h, n, ws, w, y, sr, r1, rfl, r2, hc, hl, q⟩ := hq
  obtain ⟨adr, rfl, ha⟩ := r1.cell
  obtain ⟨vs, hH, rw'⟩ := sr.cell n _ adr hc ha
  have m1 : ∀ xs, HO.lst vs ≠ .tup xs := fun _ z => by cases z
  have m2 : ∀ o w, HO.lst vs ≠ .frz o w := fun _ _ z => by cases z
  have fx := fx_write (o := .lst (vs ++ [y])) hH m1 m2
  exact mt_append pins s σ H _ _ v us Q I rx rs ⟨adr, vs, y, rfl, rfl, hH, by rw [← rw'.length, ← line_eq]; exact hl,
    q ι _ ⟨List.prefix_refl _, ext_write (List.mem_of_getElem? ha) hH m1 m2, fun _ z => .inl z⟩ (sr.write ha ⟨_, upd_same, (rw'.append (.cons r2 .nil)).ext (List.prefix_refl _) fx⟩ fx)⟩
theorem few_one {env : PySem.Env} {p : Pos} (h : notStar x = true) : ((backTo p (starEach [x] env)).all (fun x => !x.1) && (backToKw p (keywordEach [] env)).all (fun x => x.1.isSome)
      && decide ([x].length + ([] : List Keyword).length + (if ([] : List Keyword).isEmpty then 0 else 1) < 30)) = true := by
  rw [starEach_cons h]; rfl
theorem t_app (ok : XOk cf Φ G sc k X) {i : Nat} {n : Str} {px apos cpos : Pos} {e : E} (h1 : cf.N[i]? = some n) (h2 : visB sc n = true) (h3 : okN n = true) (hl : (apos.endLine == cpos.line) = true) (he : Ok1 X x (evE Φ G e)) (hs : notStar x = true) :
    PS X (.Expr (.Call (.Attribute (.Name n px) "append" apos) [x] [] cpos) pos) (tS X.K (evS Φ G N (.app i e))) := by
  have hd := okN_dbg h3
  have pe := pe_bm (X := X) (cpos := cpos) (apos := apos) PySem.F.plainAttrs_list PySem.F.slot_list_append PySem.F.type_list_append appR (pe_var (by rw [ok.N]; exact h1) (ok.vis h2) hd.1 hd.2.1 (pos := px)) (pa_cons he.pe pa_nil (starEach_cons hs)) rfl (few_one hs) hl (starEach_cons hs) rfl
  refine PS.imp (ps_expr pe rfl) fun D σ H q => ?_
  obtain ⟨ι, env, h, o, sr, eo, e, q⟩ := q
  simp only [evS] at e
  split at e
  · rename_i m hm
    split at e
    · rename_i ws0 hc0
      simp only [Option.bind_eq_bind, Option.bind_eq_some_iff, Prod.exists] at e
      obtain ⟨w, h1, e1, e⟩ := e
      obtain ⟨v, hv, rv⟩ := eo.val i _ hm
      split at e
      · rename_i ws hc
        split at e
        · rename_i hl
          cases e
          refine ⟨v, hv, ?_, ι, env, h, w, h1, sr, eo, e1, fun ι1 H1 y p1 s1 r1 => ?_⟩
          · obtain ⟨adr, rfl, ha⟩ := rv.cell
            obtain ⟨vs0, hH0, _⟩ := sr.cell m _ adr hc0 ha
            exact .inl ⟨rfl, _, SqL.of hH0⟩
          · exact ⟨ι1, h1, m, ws, w, y, s1, rv.stp p1, rfl, r1, hc, hl, fun ι2 H2 p2 s2 => q ι2 H2 σ (p1.trans p2) s2 ((eo.stp p1).stp p2)⟩
        · cases e
      · cases e
    · cases e
  · cases e
/-! ### a comprehension's store -/
theorem t_sw {i : Nat} {m : Bool} {c : C} {te : TE} (ps : PS X st (tAsg te (gName i))) (hte : ∀ σ H Q, tR X.K (evC Φ G c) σ H Q → te σ H Q) : PS X st (tS X.K (evS Φ G N (.asg (.pat (.nm i)) (.mkl m c)))) := by
  cases m with
  | true =>
    refine PS.imp ps fun D σ H q => hte σ H _ ?_
    obtain ⟨ι, env, h, o, sr, eo, e, q⟩ := q
    simp only [evS, evE, mkL, Option.bind_eq_bind, Option.bind_eq_some_iff, Prod.exists, if_true, Option.some.injEq, Prod.mk.injEq] at e
    obtain ⟨w, h1, ⟨ws, h2, e1, rfl, rfl⟩, rfl⟩ := e
    refine ⟨ι, env, h, ws, h2, sr, eo, e1, fun ι1 H1 p vs p1 s1 hp hn hq r => ?_⟩
    have st : Stp ι H (ι1 ++ [p]) H1 := ⟨p1.pre.trans (List.prefix_append _ _), p1.ext, fun c hc => by
      rcases List.mem_append.mp hc with z | z
      · exact p1.new c z
      · simp at z; subst z; exact .inr hq⟩
    exact q (ι1 ++ [p]) H1 _ st (s1.take hn (by rw [hp]; simp) ⟨vs, hp, r.ext (List.prefix_append _ _) .refl⟩) ((eo.stp st).set (.ref (by rw [← s1.len]; simp)) i)
  | false =>
    refine ⟨fun pins s σ H D I q => thn (ps.run pins s σ H { D with nx := fun σ' H' => ∃ p vs, H' p = some (.lst vs) ∧ ∀ o, D.nx σ' (upd H' p (.frz o (.lst vs))) } I (hte σ H _ ?_)) fun f s1 => ?_⟩
    · obtain ⟨ι, env, h, o, sr, eo, e, q⟩ := q
      simp only [evS, evE, mkL, Option.bind_eq_bind, Option.bind_eq_some_iff, Prod.exists, Bool.false_eq_true, if_false, Option.map_eq_some_iff, Prod.mk.injEq, Option.some.injEq] at e
      obtain ⟨w, h1, ⟨ws, h2, e1, ds, e2, rfl, rfl⟩, rfl⟩ := e
      refine ⟨ι, env, h, ws, h2, sr, eo, e1, fun ι1 H1 p vs p1 s1 hp hn hq r => ⟨p, vs, hp, fun o => ?_⟩⟩
      have n1 : ∀ xs, HO.lst vs ≠ .tup xs := fun _ z => by cases z
      have n2 : ∀ o w, HO.lst vs ≠ .frz o w := fun _ _ z => by cases z
      have st := p1.off (o := .frz o (.lst vs)) hq hp n1 n2
      exact q ι1 _ _ st (s1.off hn hp n1 n2) ((eo.stp st).set (.d (.lst ⟨o, upd_same⟩ ((r.pure e2).ext (fx_write hp n1 n2)))) i)
    · cases f with
      | next =>
        rintro ⟨σ', H', I', p, vs, hp, q⟩
        obtain ⟨_, its, m, _, ob⟩ := I'.hok p _ hp
        obtain ⟨o, I2⟩ := Inv.freeze I' hp (fun _ z => by cases z) (fun _ _ z => by cases z) (fun _ z => by cases z) (fun _ z => by cases z) ⟨_, ob⟩
        exact ⟨σ', _, I2, q o⟩
      | brk => exact fun h => h
      | cont => exact fun h => h
      | ret u => exact fun h => h
theorem sw_false {elt : Expr} {gs : List Comprehension} {scope : Scope} {pos py : Pos} {y : Str} {l : Nat} (hs : X.env.scope = sc) (h : swB sc scope y py pos = false) : swapsWith (.ListComp elt gs scope pos) (some (.Name y py)) l X.env = pure false := by
  have ky : X.env.kindOf y = sc.names.lookup y := by unfold Env.kindOf; rw [hs]
  unfold swapsWith
  simp only [ky, Expr.pos]
  unfold swB at h
  have h2 : (X.env.blockKind == ScopeKind.function && sc.names.lookup y == some NameKind.local && py.line == pos.line && !(scope.names.any fun (n, k) => n == y && (k == .local || k == .cell))) = false := by
    cases hb : (X.env.blockKind == ScopeKind.function) with
    | false => rfl
    | true =>
      rw [Bool.true_and]
      by_cases hd : sc.names.lookup y = some NameKind.local
      · simp only [hd, decide_true] at h ⊢
        exact h
      · have : (sc.names.lookup y == some NameKind.local) = false := by simp [hd]
        rw [this]; rfl
  simp only [h2]
end
end Sh

/-! statements: the matched text is sound -/
namespace Sh
open PySem PySem.Spec PyProof.Rows L2
variable {cf : Cf} {Φ : Nat → FSpec} {G : Nat → D} {k N : Nat}
/-- what is said of the function's own context -/
structure SOk (cf : Cf) (Φ : Nat → FSpec) (G : Nat → D) (sc : Scope) (k : Nat) (X : Cx) : Prop where
  x : XOk cf Φ G sc k X
  fo : FOk sc X
  fn : sc.kind = .function
  xe : X.xe = fun _ _ => False
section
variable {sc : Scope} {X : Cx} {x : Expr} {e : E} {py pos : Pos} {n : Str} {i : Nat}
theorem val_of (ok : XOk cf Φ G sc k X) (hv : isVal e = true) (h : mE cf e sc x = true) : Ok1 X x (evE Φ G e) := (sE e sc X x ok h).1 hv
/-- a name gets a value -/
theorem n_asg (ok : SOk cf Φ G sc k X) (h1 : cf.N[i]? = some n) (h2 : locB sc n = true) (hm : mE cf e sc x = true) (hv : isVal e = true) (hc : lcOr x = true) :
    PS X (.Assign [.Name n py] x pos) (tS X.K (evS Φ G N (.asg (.pat (.nm i)) e))) := by
  by_cases hn : notComp x = true
  · exact t_name ok.x ok.fo h1 h2 (val_of ok.x hv hm) (swaps_no hn)
  · cases x with
    | ListComp elt gs scope p2 =>
      cases hs : swB sc scope n py p2 with
      | false => exact t_name ok.x ok.fo h1 h2 (val_of ok.x hv hm) (sw_false ok.x.sc hs)
      | true =>
        have hs0 := hs
        simp only [swB, Bool.and_eq_true, decide_eq_true_eq, Bool.not_eq_true'] at hs
        obtain ⟨⟨q1, q2⟩, q3⟩ := hs
        have hyl : X.env.scope.names.lookup n = some .local := by rw [show X.env.scope = sc from ok.x.sc]; exact q1
        have hfn : X.env.scope.kind = .function := by rw [show X.env.scope = sc from ok.x.sc]; exact ok.fn
        have ok0 := ok.x
        cases e with
        | mkl m c =>
          have h : mC cf c sc (.ListComp elt gs scope p2) = true := hm
          cases c with
          | comp own p it c elt2 =>
            unfold mC at h
            split at h
            · rename_i elt' tg iter ifs scope pos heq
              cases heq
              simp only [Bool.and_eq_true] at h
              obtain ⟨⟨⟨⟨⟨⟨⟨h1', h2'⟩, h3⟩, h4⟩, h5⟩, h6⟩, h7⟩, h8⟩ := h
              obtain ⟨b1, b2, b3⟩ := ownB_ok h2'
              have blk := fun s H C cl fp => ok0.blk (scope := scope) s H C cl fp
              refine t_sw (te := tComp X.K Φ G own p it c elt2) ?_ fun σ H Q q => tComp_of b3 q
              unfold tComp
              rw [← b2]
              exact ps_setLc ok0.calm (by rw [ok0.N]; exact ok0.nd) (by rw [ok0.N]; exact h1) hyl (sw_true hfn hyl q2 q3) ((sE it sc X _ ok0 h3).2 tg h5) (by rw [ok0.N, ok0.sc]; exact b1)
                (fun s H C cl fp => pg_pat (blk s H C cl fp).1 (blk s H C cl fp).2 h4) (fun s H C cl fp => (sEs c (relS scope sc) _ (blk s H C cl fp).1).2.2 _ h6)
                (fun s H C cl fp => ((sE elt2 (relS scope sc) _ _ (blk s H C cl fp).1 h8).1 h7).pe) (foldedSet h1' _)
            · cases h
          | comp2 own vs1 p it c p1 it1 c1 elt2 =>
            unfold mC at h
            split at h
            · rename_i elt' tg iter ifs tg1 iter1 ifs1 scope pos heq
              cases heq
              simp only [Bool.and_eq_true, List.all_eq_true, decide_eq_true_eq] at h
              obtain ⟨⟨⟨⟨⟨⟨⟨⟨⟨⟨⟨⟨⟨⟨r1, r1'⟩, r2⟩, g1⟩, g2⟩, h3⟩, h4⟩, h5⟩, h6⟩, i3⟩, i4⟩, i5⟩, i6⟩, h7⟩, h8⟩ := h
              obtain ⟨b1, b2, b3⟩ := ownB_ok r2
              have blk := fun s H C cl fp => ok0.blk (scope := scope) s H C cl fp
              refine t_sw (te := tComp2 X.K Φ G own vs1 p it c p1 it1 c1 elt2) ?_ fun σ H Q q => tComp2_of b3 g1 q
              unfold tComp2
              rw [show own = (ownOf cf own).map (·.2) from b2.symm] at g2 ⊢
              exact ps_setLc2 ok0.calm (by rw [ok0.N]; exact ok0.nd) (by rw [ok0.N]; exact h1) hyl (sw_true hfn hyl q2 q3) ((sE it sc X _ ok0 h3).2 tg h5) (by rw [ok0.N, ok0.sc]; exact b1) g2
                (fun s H C cl fp => pg_pat (blk s H C cl fp).1 (blk s H C cl fp).2 h4) (fun s H C cl fp => (sEs c (relS scope sc) _ (blk s H C cl fp).1).2.2 _ h6)
                (fun s H C cl fp => (sE it1 (relS scope sc) _ _ (blk s H C cl fp).1 i3).2 tg1 i5)
                (fun s H C cl fp => pg_pat (blk s H C cl fp).1 (blk s H C cl fp).2 i4) (fun s H C cl fp => (sEs c1 (relS scope sc) _ (blk s H C cl fp).1).2.2 _ i6)
                (fun s H C cl fp => ((sE elt2 (relS scope sc) _ _ (blk s H C cl fp).1 h8).1 h7).pe) (foldedSet r1 _) (foldedSet r1')
            · cases h
          | _ => simp [mC] at h
        | _ => simp [mE] at hm
    | _ => exact absurd hc hn
/-- several at once -/
theorem n_par (ok : SOk cf Φ G sc k X) {is : List Nat} {es : Es} {ts vs : List Expr} {kt kv : Nat} {pt pv : Pos} (hp : parB cf sc is ts vs = true) (hn : noStar vs = true) (hm : mEs cf es sc vs = true) (hl : ts.length = vs.length) (hi : is.length ≤ 100) :
    PS X (.Assign [.Tuple ts kt pt] (.Tuple vs kv pv) pos) (tS X.K (evS Φ G N (.par is es))) := by
  have pa : PA X vs (tA X.K (evEs Φ G es)) := (sEs es sc X ok.x).1 vs hn hm
  unfold parB at hp
  split at hp
  · rename_i hk
    exact t_par0 ok.x ok.fo hp pa hl hi (swK_ok ok.x.sc ok.fn hk)
  · rename_i ns hk
    have sw := swK_ok (k := kt) (k2 := kv) (p := pt) (p2 := pv) ok.x.sc ok.fn hk
    split at hp
    · simp only [Bool.and_eq_true, decide_eq_true_eq] at hp
      obtain ⟨⟨⟨⟨⟨⟨rfl, rfl⟩, h1⟩, h2⟩, h3⟩, h4⟩, h5⟩ := hp
      match vs, hl with
      | [a, b], _ => exact t_par2 ok.x h1 h2 h3 h4 h5 pa sw
    · simp only [Bool.and_eq_true, decide_eq_true_eq] at hp
      obtain ⟨⟨⟨⟨⟨⟨⟨⟨⟨⟨⟨rfl, rfl⟩, rfl⟩, h1⟩, h2⟩, h3⟩, h4⟩, h5⟩, h6⟩, h7⟩, h8⟩, h9⟩ := hp
      match vs, hl with
      | [a, b, c], _ => exact t_par3 ok.x h1 h2 h3 h4 h5 h6 h7 h8 h9 pa sw
    · cases hp
  · cases hp
theorem n_tgt (ok : SOk cf Φ G sc k X) {t : Tgt} {tg : Expr} (h : tgtB cf sc t tg x = true) (hm : mE cf e sc x = true) (hv : isVal e = true) : PS X (.Assign [tg] x pos) (tS X.K (evS Φ G N (.asg t e))) := by
  unfold tgtB at h
  split at h
  · simp only [Bool.and_eq_true, decide_eq_true_eq] at h
    exact n_asg ok h.1.1 h.1.2 hm hv h.2
  · simp only [Bool.and_eq_true] at h
    obtain ⟨⟨h1, h2⟩, h3⟩ := h
    split at h3
    · exact t_pat ok.x ok.fo h1 (val_of ok.x hv hm) h2
    · cases h3
  · simp only [Bool.and_eq_true] at h
    exact t_sub (val_of ok.x h.1.1.1.1 h.1.2) (val_of ok.x h.1.1.1.2 h.2) h.1.1.2 (val_of ok.x hv hm)
  · simp only [Bool.and_eq_true] at h
    obtain ⟨⟨⟨⟨⟨⟨⟨⟨⟨a1, a2⟩, a3⟩, a4⟩, a5⟩, b1⟩, b2⟩, b3⟩, b4⟩, b5⟩ := h
    exact t_two ok.x (val_of ok.x a1 a4) (val_of ok.x a2 a5) a3 (val_of ok.x b1 b4) (val_of ok.x b2 b5) b3 (val_of ok.x hv hm)
  · cases h
end
mutual
theorem sS {sc : Scope} {X : Cx} (ok : SOk cf Φ G sc k X) : ∀ (s : S) (st : Stmt), mS cf sc s st = true → PS X st (tS X.K (evS Φ G N s))
  | .asg t e, st, h => by
    unfold mS at h
    split at h
    · simp only [Bool.and_eq_true] at h
      exact n_tgt ok h.1.2 h.2 h.1.1
    · cases h
  | .par is es, st, h => by
    unfold mS at h
    split at h
    · simp only [Bool.and_eq_true, decide_eq_true_eq] at h
      exact n_par ok h.1.1.1.2 h.1.1.1.1 h.1.1.2 h.1.2 h.2
    · cases h
  | .ext i e, st, h => by
    unfold mS at h
    split at h
    · simp only [Bool.and_eq_true, decide_eq_true_eq] at h
      exact t_ext ok.x ok.fo h.1.1.1 h.1.1.2 (val_of ok.x h.1.2 h.2)
    · cases h
  | .app i e, st, h => by
    unfold mS at h
    split at h
    · simp only [Bool.and_eq_true, decide_eq_true_eq] at h
      obtain ⟨⟨⟨⟨⟨⟨⟨h1, h2⟩, h3⟩, h4⟩, h5⟩, h6⟩, h7⟩, h8⟩ := h
      subst h4
      exact t_app ok.x h1 h2 h3 h5 (val_of ok.x h7 h8) h6
    · cases h
  | .expr e, st, h => by
    unfold mS at h
    split at h
    · simp only [Bool.and_eq_true] at h
      exact t_expr (val_of ok.x h.1.1 h.2) h.1.2
    · cases h
  | .ite c a b, st, h => by
    unfold mS at h
    split at h
    · simp only [Bool.and_eq_true] at h
      exact t_ite (val_of ok.x h.1.1.1.1 h.1.1.2) h.1.1.1.2 (sSs ok a _ h.1.2) (sSs ok b _ h.2)
    · cases h
  | .for p it body, st, h => by
    unfold mS at h
    split at h
    · simp only [Bool.and_eq_true] at h
      obtain ⟨⟨⟨⟨h1, h2⟩, h3⟩, h4⟩, h5⟩ := h
      exact t_for ok.xe ok.x.calm ((sE it sc X _ ok.x h4).2 _ h3) (pg_pat ok.x ok.fo h2) (sSs ok body _ h5) h1
    · cases h
  | .while c body, st, h => by
    unfold mS at h
    split at h
    · simp only [Bool.and_eq_true] at h
      exact t_while ok.xe (val_of ok.x h.1.1.1 h.1.2) h.1.1.2 (sSs ok body _ h.2)
    · cases h
  | .ret e, st, h => by
    unfold mS at h
    split at h
    · simp only [Bool.and_eq_true] at h
      exact t_ret (val_of ok.x h.1 h.2)
    · cases h
  | .brk, st, h => by
    unfold mS at h
    split at h
    · exact t_brk
    · cases h
  | .cont, st, h => by
    unfold mS at h
    split at h
    · exact t_cont
    · cases h
  | .pass, st, h => by
    unfold mS at h
    split at h
    · exact t_pass
    · cases h
  | .nev, st, h => t_nev
  | .fgt _, st, h => by unfold mS at h; cases h
  | .frz _, st, h => by unfold mS at h; cases h
theorem sSs {sc : Scope} {X : Cx} (ok : SOk cf Φ G sc k X) : ∀ (s : Ss) (st : List Stmt), mSs cf sc s st = true → PSs X st (tS X.K (evSs Φ G N s))
  | .nil, st, h => by
    unfold mSs at h
    have : st = [] := by simpa using h
    subst this
    exact b_nil
  | .cons (.fgt _) r, st, h => b_fgt (sSs ok r st (by unfold mSs at h; exact h))
  | .cons (.frz _) r, st, h => b_frz (sSs ok r st (by unfold mSs at h; exact h))
  | .cons (.asg t e) r, st, h => sCons ok (.asg t e) r st (by unfold mSs at h; exact h)
  | .cons (.par t e) r, st, h => sCons ok (.par t e) r st (by unfold mSs at h; exact h)
  | .cons (.ext t e) r, st, h => sCons ok (.ext t e) r st (by unfold mSs at h; exact h)
  | .cons (.app t e) r, st, h => sCons ok (.app t e) r st (by unfold mSs at h; exact h)
  | .cons (.expr e) r, st, h => sCons ok (.expr e) r st (by unfold mSs at h; exact h)
  | .cons (.ite c a b) r, st, h => sCons ok (.ite c a b) r st (by unfold mSs at h; exact h)
  | .cons (.for c a b) r, st, h => sCons ok (.for c a b) r st (by unfold mSs at h; exact h)
  | .cons (.while c a) r, st, h => sCons ok (.while c a) r st (by unfold mSs at h; exact h)
  | .cons (.ret e) r, st, h => sCons ok (.ret e) r st (by unfold mSs at h; exact h)
  | .cons .brk r, st, h => sCons ok .brk r st (by unfold mSs at h; exact h)
  | .cons .cont r, st, h => sCons ok .cont r st (by unfold mSs at h; exact h)
  | .cons .pass r, st, h => sCons ok .pass r st (by unfold mSs at h; exact h)
  | .cons .nev r, st, h => sCons ok .nev r st (by unfold mSs at h; exact h)
theorem sCons {sc : Scope} {X : Cx} (ok : SOk cf Φ G sc k X) (s : S) (r : Ss) : ∀ (st : List Stmt), (match st with | x :: rest => mS cf sc s x && mSs cf sc r rest | [] => false) = true → PSs X st (tS X.K (evSs Φ G N (.cons s r)))
  | [], h => by cases h
  | x :: rest, h => by
    simp only [Bool.and_eq_true] at h
    exact b_cons (sS ok s x h.1) (sSs ok r rest h.2)
end
end Sh

/-! functions: what the matched text computes is what the function promises -/
namespace Sh
open PySem PySem.Spec PyProof.Rows L2

/-- an own function of the table: its names (the parameters first), how it is called (0: of data; 1: the first argument a list that it changes; 2: it makes a list) -/
structure FD where
  nm : Str
  np : Nat
  N : List Str
  kd : Nat
  body : Ss
structure Tb where
  fds : List FD
  cons : List Str
  gcd : Bool
def envAt (n : Nat) (ws : List W) : Env := ws.map some ++ List.replicate (n - ws.length) none
def runP (Φ : Nat → FSpec) (G : Nat → D) (N : Nat) (fd : FD) (ds : List D) : Option D :=
  if ds.length = fd.np then
    match evSs Φ G N fd.body (envAt fd.N.length (ds.map W.d)) [] with
    | some (.rt (.d d) _) => some d
    | some (.nx _ _) => some .non
    | _ => none
  else none
def runN (Φ : Nat → FSpec) (G : Nat → D) (N : Nat) (fd : FD) (ds : List D) : Option (List D) :=
  if ds.length = fd.np then
    match evSs Φ G N fd.body (envAt fd.N.length (ds.map W.d)) [] with
    | some (.rt (.ref n) h) => match h[n]? with
      | some (.lst ws) => pureL ws
      | _ => none
    | _ => none
  else none
def outC (d : D) (h : DH) : Option (D × List D) := match (h[0]? : Option Cell) with
  | some (.lst ws) => (pureL ws).map fun c => (d, c)
  | _ => none
def runC (Φ : Nat → FSpec) (G : Nat → D) (N : Nat) (fd : FD) (ws : List W) (c : List D) : Option (D × List D) :=
  if ws.length = fd.np then
    match evSs Φ G N fd.body (envAt fd.N.length ws) [.lst (c.map W.d)] with
    | some (.rt (.d d) h) => outC d h
    | some (.nx _ h) => outC .non h
    | _ => none
  else none
def specOf (Φ : Nat → FSpec) (G : Nat → D) (N : Nat) (fd : FD) : FSpec := match fd.kd with
  | 0 => .pure (runP Φ G N fd)
  | 1 => .cell (runC Φ G N fd)
  | _ => .new (runN Φ G N fd)
/-- what the functions compute, to a depth of calls -/
def phi (T : Tb) (G : Nat → D) (N : Nat) : Nat → Nat → FSpec
  | 0, _ => .none
  | k + 1, g => match T.fds[g]? with
    | some fd => specOf (phi T G N k) G N fd
    | none => .none
def cfOf (T : Tb) (fd : FD) : Cf := { N := fd.N, fns := T.fds.map (·.nm), cons := T.cons, gcd := T.gcd }
def freeB (sc : Scope) : Bool := sc.names.all fun y => !decide (y.2 = .free)
/-- the look at a scope -/
def scopeB (N P : List Str) (sc : Scope) : Bool := decide (sc.kind = .function ∧ sc.isCoroutine = false ∧ sc.isGenerator = false ∧ N.Nodup ∧ N.take P.length = P) && (P.all fun x => decide (sc.names.lookup x = some .local ∨ sc.names.lookup x = some .cell)) && freeB sc
theorem scope_ok {N P : List Str} {sc : Scope} (h : scopeB N P sc = true) : FnScope N P sc := by
  simp only [scopeB, freeB, Bool.and_eq_true, decide_eq_true_eq, List.all_eq_true, Bool.not_eq_true', decide_eq_false_iff_not] at h
  exact ⟨h.1.1.1, h.1.1.2.1, h.1.1.2.2.1, h.1.1.2.2.2.1, h.1.1.2.2.2.2, h.1.2, h.2⟩
/-- the look at a function's text -/
def fdB (T : Tb) (fd : FD) (st : Stmt) : Bool := scopeB fd.N (fd.N.take fd.np) (defScope st) && decide (fd.np ≤ fd.N.length) && mSs (cfOf T fd) (defScope st) fd.body (defBody st)

section
variable {K : PySem.W.Frag} {ι ι' : List Addr} {H H' : Hp}
theorem EnvOk.start {N : List Str} {ws : List W} {vs : List V} (r : RepWL K ι H ws vs) : EnvOk K ι H (envAt N.length ws) (start N vs) := by
  have hl := r.length
  refine ⟨by simp [envAt, L2.start, hl], fun i w hi => ?_⟩
  by_cases h : i < ws.length
  · have h1 : (envAt N.length ws)[i]? = some (some ws[i]) := by
      unfold envAt
      rw [List.getElem?_append_left (by simpa using h), List.getElem?_map, List.getElem?_eq_getElem h]; rfl
    rw [h1] at hi
    cases hi
    obtain ⟨v, hv, rv⟩ := r.get (List.getElem?_eq_getElem h)
    refine ⟨v, ?_, rv⟩
    unfold L2.start
    rw [List.getElem?_append_left (by rw [List.length_map, ← hl]; exact h), List.getElem?_map, hv]; rfl
  · unfold envAt at hi
    rw [List.getElem?_append_right (by simpa using h)] at hi
    rw [List.getElem?_replicate] at hi
    split at hi
    · cases hi
    · cases hi
theorem sr_nil : SR K [] H [] := ⟨rfl, .nil, fun a h => by simp at h, fun n c a h => by simp at h⟩
theorem sr_one {a : Addr} {ws : List W} {vs : List V} (ha : H a = some (.lst vs)) (r : RepWL K [a] H ws vs) : SR K [a] H [.lst ws] := ⟨rfl, by simp, fun b h => by simp at h; subst h; rw [ha]; simp, fun n c b h1 h2 => by
  cases n with
  | zero =>
    simp at h1 h2
    subst h1 h2
    exact ⟨vs, ha, r⟩
  | succ n => simp at h1⟩
theorem Stp.same0 (p : Stp [] H ι' H') : Same H H' := fun b o h => p.ext.oth b o (by simp) h
end

/-- what the module's top has written: the constants and the built-in names -/
structure Glob (T : Tb) (G : Nat → D) (K : PySem.W.Frag) (mg : Str → Option Value) : Prop where
  cons : ∀ (g : Nat) (x : Str), T.cons[g]? = some x → ∃ u v, mg x = some u ∧ RelV v u ∧ ∀ H, Rep K H (G g) v
  blt : ∀ x ∈ bltNames, mg x = none
  gcd : T.gcd = true → mg "gcd" = some (.builtin "math.gcd")
/-- a function of the table stands in the module -/
structure FnIn (T : Tb) (K : PySem.W.Frag) (mg : Str → Option Value) (fd : FD) : Prop where
  ok : ∃ (st : Stmt) (a : Addr) (f : FuncData), Fun K fd.nm fd.nm st a f ∧ mg fd.nm = some (.ref a) ∧ (∀ us : List Value, us.length = (fd.N.take fd.np).length → bindArgs f ⟨us, []⟩ = pure ((fd.N.take fd.np).zip us)) ∧ fdB T fd st = true
section
variable {P : Program} {w : World} {K : PySem.W.Frag} {mg : Str → Option Value} {base : Heap} {T : Tb} {G : Nat → D} {N k : Nat} {fd : FD} {Φ : Nat → FSpec}
theorem take_len {fd : FD} {st : Stmt} (h : fdB T fd st = true) : (fd.N.take fd.np).length = fd.np := by
  simp only [fdB, Bool.and_eq_true, decide_eq_true_eq] at h
  rw [List.length_take]; omega
theorem sp_len {st : Stmt} (h : fdB T fd st = true) : ∀ vs H Q E, spOf K (specOf Φ G N fd) vs H Q E → vs.length = (fd.N.take fd.np).length := by
  intro vs H Q E q
  rw [take_len h]
  unfold specOf at q
  split at q
  · obtain ⟨ds, d, r, e, _⟩ := q
    unfold runP at e
    split at e
    · rename_i hl; rw [← r.length]; exact hl
    · cases e
  · obtain ⟨a, ws, c, us, d, c', r, _, _, e, _⟩ := q
    unfold runC at e
    split at e
    · rename_i hl; rw [← r.length]; exact hl
    · cases e
  · obtain ⟨ds, d, r, e, _⟩ := q
    unfold runN at e
    split at e
    · rename_i hl; rw [← r.length]; exact hl
    · cases e
/-- a function by its matched text -/
theorem fn_ok {st : Stmt} {a : Addr} {f : FuncData} (F : Fun K fd.nm fd.nm st a f) (hB : fdB T fd st = true) (gl : Glob T G K mg)
    (fns : ∀ (g : Nat) (gd : FD), T.fds[g]? = some gd → ∃ (a : Addr) (f : FuncData) (ps : List Str), mg gd.nm = some (.ref a) ∧ PySem.W.keepIn K (.ref a) = true ∧ Binds K f ps [] ∧ FnOk P w K mg base CX0 k a f ps (spOf K (Φ g))) :
    FnOk P w K mg base CX0 (k + 1) a f (fd.N.take fd.np) (spOf K (specOf Φ G N fd)) := by
  have hB' := hB
  simp only [fdB, Bool.and_eq_true, decide_eq_true_eq] at hB'
  obtain ⟨⟨h1, h2⟩, h3⟩ := hB'
  have S := scope_ok h1
  refine F.ok S (sp_len hB) fun cdv A outer s H vs Q E hr hsp => ?_
  have ok : SOk (cfOf T fd) Φ G (defScope st) k (cxOf CX0 P w K mg base fd.N fd.nm (defScope st) a cdv A outer s H E).nox := by
    refine ⟨⟨rfl, S.nd, rfl, rfl, hr, fun g x hg => ?_, gl.cons, gl.blt, gl.gcd⟩, fun n hn => ?_, S.kind, rfl⟩
    · have hg : (T.fds.map (·.nm))[g]? = some x := hg
      rw [List.getElem?_map] at hg
      cases hf : T.fds[g]? with
      | none => rw [hf] at hg; cases hg
      | some gd =>
        rw [hf] at hg
        cases hg
        obtain ⟨a, f, ps, q1, q2, q3, q4⟩ := fns g gd hf
        exact ⟨a, f, ps, k, Nat.le_refl _, q1, q2, q3, q4⟩
    · refine ⟨?_, .inl rfl⟩
      simp only [locB, Bool.or_eq_true, decide_eq_true_eq] at hn
      exact hn
  refine ⟨_, sSs (N := N) ok fd.body _ h3, ?_⟩
  show tS K (evSs Φ G N fd.body) { nx := fun _ H' => Q .non H', rt := Q } (L2.start fd.N vs) H
  unfold specOf at hsp
  split at hsp
  · obtain ⟨ds, d, r, e, q⟩ := hsp
    unfold runP at e
    split at e
    · split at e
      · rename_i d' h' he
        cases e
        exact ⟨[], _, [], _, sr_nil, .start (RepWL.of r), he, fun ι1 H1 v p s1 rv => q H1 v p.same0 rv.pure⟩
      · rename_i env' h' he
        cases e
        exact ⟨[], _, [], _, sr_nil, .start (RepWL.of r), he, fun ι1 H1 σ p s1 _ => q H1 .non p.same0 .non⟩
      · cases e
    · cases e
  · obtain ⟨b, ws, c, us, d, c', r, hb, rc, e, q⟩ := hsp
    have key : ∀ (x : D) (h' : DH) (ι1 : List Addr) (H1 : Hp) (v : V), outC x h' = some (d, c') → Stp [b] H ι1 H1 → SR K ι1 H1 h' → Rep K H1 x v → Q v H1 := by
      intro x h' ι1 H1 v e p s1 rv
      unfold outC at e
      split at e
      · rename_i ws' hw
        simp only [Option.map_eq_some_iff, Prod.mk.injEq] at e
        obtain ⟨c1, hc1, rfl, rfl⟩ := e
        have hb1 : ι1[0]? = some b := by
          obtain ⟨t, rfl⟩ := p.pre
          rfl
        obtain ⟨us', hu, ru⟩ := s1.cell 0 _ b hw hb1
        exact q H1 v us' p.ext hu (ru.pure hc1) rv
      · cases e
    unfold runC at e
    split at e
    · split at e
      · rename_i d' h' he
        exact ⟨[b], _, _, _, sr_one hb (RepWL.of rc), .start r, he, fun ι1 H1 v p s1 rv => key _ _ ι1 H1 v e p s1 rv.pure⟩
      · rename_i env' h' he
        exact ⟨[b], _, _, _, sr_one hb (RepWL.of rc), .start r, he, fun ι1 H1 σ p s1 _ => key _ _ ι1 H1 .non e p s1 .non⟩
      · cases e
    · cases e
  · obtain ⟨ds, rs, r, e, q⟩ := hsp
    unfold runN at e
    split at e
    · split at e
      · rename_i n h' he
        split at e
        · rename_i ws hw
          refine ⟨[], _, [], _, sr_nil, .start (RepWL.of r), he, fun ι1 H1 v p s1 rv => ?_⟩
          obtain ⟨b, rfl, hb⟩ := rv.cell
          obtain ⟨us, hu, ru⟩ := s1.cell n _ b hw hb
          refine q H1 b us p.same0 ?_ hu (ru.pure e)
          rcases p.new b (List.mem_of_getElem? hb) with z | z
          · simp at z
          · exact z
        · cases e
      · cases e
    · cases e
/-- all the table's functions, to any depth of calls -/
theorem tb_ok (gl : Glob T G K mg) (fns : ∀ fd ∈ T.fds, FnIn T K mg fd) : ∀ (k : Nat) (g : Nat) (gd : FD), T.fds[g]? = some gd →
    ∀ (st : Stmt) (a : Addr) (f : FuncData), Fun K gd.nm gd.nm st a f → mg gd.nm = some (.ref a) → Binds K f (gd.N.take gd.np) [] → fdB T gd st = true → FnOk P w K mg base CX0 k a f (gd.N.take gd.np) (spOf K (phi T G N k g))
  | 0, g, gd, hg, st, a, f, F, hm, hb, hB => ⟨fun vs H Q E q => q.elim, fun A outer s H args us vs Q E _ _ _ _ q => q.elim⟩
  | k + 1, g, gd, hg, st, a, f, F, hm, hb, hB => by
    have e : phi T G N (k + 1) g = specOf (phi T G N k) G N gd := by
      show (match T.fds[g]? with | some fd => specOf (phi T G N k) G N fd | none => .none) = _
      rw [hg]
    rw [e]
    refine fn_ok F hB gl fun g' gd' hg' => ?_
    obtain ⟨st', a', f', F', hm', hb', hB'⟩ := (fns gd' (List.mem_of_getElem? hg')).ok
    exact ⟨a', f', _, hm', F'.kp, .all hb', tb_ok gl fns k g' gd' hg' st' a' f' F' hm' (.all hb') hB'⟩
end
/-- the law's own reading of a script -/
def spLaw (K : PySem.W.Frag) (n : Nat) : Sp := fun vs H Q _ => ∃ (a : Addr) (ns : List Int), vs = [.ref a] ∧ SqS K H a (ns.map V.int) ∧ ns.length ≤ n ∧ ∀ H', Q (.bl true) H'
end Sh

/-! the end of a law -/
namespace Sh
open PySem PySem.Spec PyProof.Rows L2
theorem fnIn_mk {T : Tb} {K : PySem.W.Frag} {h : Heap} {mg : Str → Option Value} {fd : FD} {st : Stmt} {f : Addr} {od an : Option Addr} {sl : Array (Option Value)} {oc kV dc pm cd ct : Value} (X : K.In h) (G : h.Ns mainGlobals mg)
    (a : PySem.W.nsIn K mainGlobals fd.nm = some (some (.ref f))) (l : K.lookup f = some ⟨oc, od, .func (PySem.W.fnOf fd.nm fd.nm (defArgs st) (defBody st) (defScope st) .none kV dc pm an cd ct), sl⟩) (c : PySem.W.codeIn K cd fd.nm = true) (k : PySem.W.keepIn K (.ref f) = true)
    (b : ∀ (kV doc pm : Value) (an : Option Addr) (cdv ct : Value) (us : List Value), us.length = (fd.N.take fd.np).length → bindArgs (PySem.W.fnOf fd.nm fd.nm (defArgs st) (defBody st) (defScope st) .none kV doc pm an cdv ct) ⟨us, []⟩ = pure ((fd.N.take fd.np).zip us))
    (hB : fdB T fd st = true) : FnIn T K mg fd := by
  have F := fun_mk (st := st) l c k
  exact ⟨st, f, _, F, PySem.W.mg_of X G a, b kV dc pm an cd ct, hB⟩
theorem blt_mk {K : PySem.W.Frag} {h : Heap} {mg : Str → Option Value} (X : K.In h) (G : h.Ns mainGlobals mg)
    (z1 : PySem.W.nsIn K mainGlobals "len" = some none) (z2 : PySem.W.nsIn K mainGlobals "abs" = some none) (z3 : PySem.W.nsIn K mainGlobals "int" = some none) (z4 : PySem.W.nsIn K mainGlobals "tuple" = some none)
    (z5 : PySem.W.nsIn K mainGlobals "all" = some none) (z6 : PySem.W.nsIn K mainGlobals "any" = some none) (z7 : PySem.W.nsIn K mainGlobals "sum" = some none) (z8 : PySem.W.nsIn K mainGlobals "min" = some none)
    (z9 : PySem.W.nsIn K mainGlobals "max" = some none) (z10 : PySem.W.nsIn K mainGlobals "str" = some none) (z11 : PySem.W.nsIn K mainGlobals "bool" = some none) (z12 : PySem.W.nsIn K mainGlobals "list" = some none)
    (z13 : PySem.W.nsIn K mainGlobals "isinstance" = some none) (z14 : PySem.W.nsIn K mainGlobals "range" = some none) (z15 : PySem.W.nsIn K mainGlobals "enumerate" = some none) (z16 : PySem.W.nsIn K mainGlobals "zip" = some none) : ∀ x ∈ bltNames, mg x = none := by
  intro x hx
  simp only [bltNames, List.mem_cons, List.not_mem_nil, or_false] at hx
  rcases hx with rfl | rfl | rfl | rfl | rfl | rfl | rfl | rfl | rfl | rfl | rfl | rfl | rfl | rfl | rfl | rfl
  all_goals first
    | exact PySem.W.mg_none_of X G z1 | exact PySem.W.mg_none_of X G z2 | exact PySem.W.mg_none_of X G z3 | exact PySem.W.mg_none_of X G z4
    | exact PySem.W.mg_none_of X G z5 | exact PySem.W.mg_none_of X G z6 | exact PySem.W.mg_none_of X G z7 | exact PySem.W.mg_none_of X G z8
    | exact PySem.W.mg_none_of X G z9 | exact PySem.W.mg_none_of X G z10 | exact PySem.W.mg_none_of X G z11 | exact PySem.W.mg_none_of X G z12
    | exact PySem.W.mg_none_of X G z13 | exact PySem.W.mg_none_of X G z14 | exact PySem.W.mg_none_of X G z15 | exact PySem.W.mg_none_of X G z16
/-- the constants of the module: whole numbers -/
theorem con_int {K : PySem.W.Frag} {h : Heap} {mg : Str → Option Value} {x : Str} {i : Int} {t : Tok} (X : K.In h) (G : h.Ns mainGlobals mg) (a : PySem.W.nsIn K mainGlobals x = some (some (.int i t))) : ∃ u v, mg x = some u ∧ RelV v u ∧ ∀ H, Rep K H (.int i) v :=
  ⟨_, .int i, PySem.W.mg_of X G a, ⟨_, rfl⟩, fun H => .int i⟩
/-- THE LAW: what its matched text computes -/
theorem law_end {l : PySem.W.OpenLaw} {w : World} {K : PySem.W.Frag} {mg : Str → Option Value} {fa : Addr} {T : Tb} {G : Nat → D} {k N n g : Nat} {gd : FD} (gl : Glob T G K mg) (fns : ∀ fd ∈ T.fds, FnIn T K mg fd) (hg : T.fds[g]? = some gd) (hfa : mg gd.nm = some (.ref fa))
    (hp : gd.N.take gd.np = [("script" : Str)])
    (law : ∀ ns : List Int, ns.length ≤ n → ∃ f, phi T G N k g = .pure f ∧ f [.scr ns] = some (.bl true)) :
    ∃ fd : FuncData, (∀ (s : Shared) (v : Value), BindsTo s fd ⟨[v], []⟩ [(("script" : Str), v)]) ∧ ∀ base : Heap, K.In base → base.Ns mainGlobals mg → FnOk l.prog w K mg base CX0 k fa fd [("script" : Str)] (spLaw K n) := by
  obtain ⟨st, a, f, F, hm, hbd, hB⟩ := (fns gd (List.mem_of_getElem? hg)).ok
  obtain rfl : a = fa := by have := hm.symm.trans hfa; cases this; rfl
  refine ⟨f, fun s v => ?_, fun base _ _ => ?_⟩
  · have := hbd [v] (by rw [hp]; rfl)
    rw [hp] at this
    exact .of_eq this
  · have := tb_ok (P := l.prog) (w := w) (base := base) (N := N) gl fns k g gd hg st _ f F hm (.all hbd) hB
    rw [hp] at this
    refine this.imp fun vs H Q E q => ?_
    obtain ⟨b, ns, rfl, hs, hl, hq⟩ := q
    obtain ⟨f, e1, e2⟩ := law ns hl
    rw [e1]
    refine ⟨[.scr ns], .bl true, .cons (.scr hs) .nil, e2, fun H' v _ r => ?_⟩
    cases r
    exact hq H'
theorem sq_of {K : PySem.W.Frag} {H : Hp} {a : Addr} {xs : List V} (hO : Only H) (h : SqL K H a xs) : SqS K H a xs := by
  rcases h with (h | ⟨o, h⟩) | h
  · rcases hO a with z | ⟨o, ys, z⟩
    · rw [h] at z; cases z
    · rw [h] at z; cases z
  · exact .inl ⟨o, h⟩
  · exact .inr h
end Sh

/-! the evaluator's laws, in plain Lean -/
namespace Sh
open PySem PySem.Spec PyProof.Rows L2

theorem line_lit : line = 16777216 := rfl
theorem b_addI (i j : Int) : binD .add (.int i) (.int j) = some (.int (i + j)) := rfl
theorem b_subI (i j : Int) : binD .sub (.int i) (.int j) = some (.int (i - j)) := rfl
theorem b_mulI (i j : Int) : binD .mul (.int i) (.int j) = if b64 i || b64 j then some (.int (i * j)) else none := rfl
theorem b64_of {i : Int} (h : -(2 ^ 64) < i ∧ i < 2 ^ 64) : b64 i = true := b64_iff.mpr h
theorem b_mulL {i j : Int} (h : b64 i = true) : binD .mul (.int i) (.int j) = some (.int (i * j)) := by rw [b_mulI, h, Bool.true_or, if_pos rfl]
theorem b_mulR {i j : Int} (h : b64 j = true) : binD .mul (.int i) (.int j) = some (.int (i * j)) := by rw [b_mulI, h, Bool.or_true, if_pos rfl]
theorem b_fdiv {i j : Int} (h : 0 < j ∧ j < 1073741824) : binD .fdiv (.int i) (.int j) = some (.int (i / j)) := by
  show (if decide (0 < j) && hi30 j then some (D.int (i / j)) else none) = _
  rw [if_pos (by simp only [Bool.and_eq_true, decide_eq_true_eq, hi30_iff]; exact h)]
theorem b_mod {i j : Int} (h : 0 < j) : binD .mod (.int i) (.int j) = some (.int (i % j)) := by
  show (if 0 < j then some (D.int (i % j)) else none) = _
  rw [if_pos h]
theorem lt_int (i j : Int) : ltD (.int i) (.int j) = decide (i < j) := PySem.W.dataLt_int i j
theorem cmp_int (i j : Int) : cmpOk (.int i) (.int j) = true := by simp [cmpOk, alk, py, PySem.W.alike, shp, flat, dep]
theorem b_ltI (i j : Int) : binD .lt (.int i) (.int j) = some (.bl (decide (i < j))) := by
  show (if cmpOk (.int i) (.int j) then some (D.bl (ltD (.int i) (.int j))) else none) = _
  rw [if_pos (cmp_int i j), lt_int]
theorem b_gtI (i j : Int) : binD .gt (.int i) (.int j) = some (.bl (decide (i > j))) := by
  show (if cmpOk (.int i) (.int j) then some (D.bl (ltD (.int j) (.int i))) else none) = _
  rw [if_pos (cmp_int i j), lt_int]
theorem b_leI (i j : Int) : binD .le (.int i) (.int j) = some (.bl (decide (i ≤ j))) := by
  have e : (!decide (j < i)) = decide (i ≤ j) := by rw [← decide_not]; exact decide_eq_decide.mpr Int.not_lt
  show (if cmpOk (.int i) (.int j) then some (D.bl (!ltD (.int j) (.int i))) else none) = _
  rw [if_pos (cmp_int i j), lt_int, e]
theorem b_geI (i j : Int) : binD .ge (.int i) (.int j) = some (.bl (decide (i ≥ j))) := by
  have e : (!decide (i < j)) = decide (i ≥ j) := by rw [← decide_not]; exact decide_eq_decide.mpr Int.not_lt
  show (if cmpOk (.int i) (.int j) then some (D.bl (!ltD (.int i) (.int j))) else none) = _
  rw [if_pos (cmp_int i j), lt_int, e]
theorem b_eqI (i j : Int) : binD .eq (.int i) (.int j) = some (.bl (decide (i = j))) := rfl
theorem b_neI (i j : Int) : binD .ne (.int i) (.int j) = some (.bl (!decide (i = j))) := rfl
theorem b_eqS (x y : List Nat) : binD .eq (.str x) (.str y) = some (.bl (x == y)) := rfl
theorem b_neS (x y : List Nat) : binD .ne (.str x) (.str y) = some (.bl (!(x == y))) := rfl
theorem b_isN (x : D) : binD .is x .non = some (.bl (isNon x)) := by cases x <;> rfl
theorem b_isnotN (x : D) : binD .isnot x .non = some (.bl (!isNon x)) := by cases x <;> rfl
theorem b_isB (x y : Bool) : binD .is (.bl x) (.bl y) = some (.bl (decide (x = y))) := rfl
theorem b_addS {x y : List Nat} (h : x.length + y.length ≤ line) : binD .add (.str x) (.str y) = some (.str (x ++ y)) := by
  show (if x.length + y.length ≤ line then some (D.str (x ++ y)) else none) = _
  rw [if_pos h]
theorem b_addT {x y : List D} (h : x.length + y.length ≤ line) : binD .add (.tup x) (.tup y) = some (.tup (x ++ y)) := by
  show (if x.length + y.length ≤ line then some (D.tup (x ++ y)) else none) = _
  rw [if_pos h]
theorem b_addL {x y : List D} (h : x.length + y.length ≤ line) : binD .add (.lst x) (.lst y) = some (.lst (x ++ y)) := by
  show (if x.length + y.length ≤ line then some (D.lst (x ++ y)) else none) = _
  rw [if_pos h]
theorem b_pow {i j : Int} (h : 0 ≤ j ∧ j ≤ 1000000 ∧ i.natAbs < 2 ^ 64) : binD .pow (.int i) (.int j) = some (.int (i ^ j.toNat)) := by
  show (if decide (0 ≤ j) && hiP j && b64 i then some (D.int (i ^ j.toNat)) else none) = _
  rw [if_pos (by simp only [Bool.and_eq_true, decide_eq_true_eq, hiP_iff, b64_iff]; exact ⟨⟨h.1, h.2.1⟩, by have := h.2.2; omega⟩)]
theorem ixN_nat {n k : Nat} (h : k < n) : ixN n (k : Int) = some k := by
  unfold ixN
  rw [if_pos (Int.natCast_nonneg k), if_pos (by omega)]; rfl
theorem atI_nat {α : Type} {xs : List α} {k : Nat} {x : α} (h : xs[k]? = some x) : atI xs (k : Int) = some x := by
  have hl : k < xs.length := (List.getElem?_eq_some_iff.mp h).1
  unfold atI
  rw [ixN_nat hl]; exact h
/-! ### the roll -/
def bRoll (p q r s t u : Int) : Ss := (.cons (.ite (.bin .gt (.ix (.var 0) (.lit (.int 0))) (.lit (.int 0))) (.cons (.asg (.pat (.nm 2)) (.bin .mod (.bif .int1 (.cons (.ix (.var 0) (.lit (.int 0))) .nil)) (.var 1))) (.cons (.asg (.sub (.var 0) (.lit (.int 0))) (.bin .fdiv (.ix (.var 0) (.lit (.int 0))) (.var 1))) (.cons (.ret (.var 2)) .nil))) .nil) (.cons (.asg (.sub (.var 0) (.lit (.int 1))) (.bin .mod (.bif .int1 (.cons (.bin .add (.bin .mul (.ix (.var 0) (.lit (.int 1))) (.lit (.int p))) (.lit (.int q))) .nil)) (.lit (.int r)))) (.cons (.asg (.pat (.nm 3)) (.bin .mod (.bif .int1 (.cons (.bin .mul (.ix (.var 0) (.lit (.int 1))) (.bin .add (.ix (.var 0) (.lit (.int 1))) (.lit (.int s)))) .nil)) (.lit (.int t)))) (.cons (.ret (.bin .mod (.bif .int1 (.cons (.bin .fdiv (.var 3) (.lit (.int u))) .nil)) (.var 1))) .nil))))
/-- the cup's two numbers -/
def cupD (c : Int × Int) : List D := [.int c.1, .int c.2]
def rollN (p q r s t u : Int) (c : Int × Int) (m : Int) : Int × (Int × Int) :=
  if 0 < c.1 then (c.1 % m, (c.1 / m, c.2)) else
    let d := (c.2 * p + q) % r
    (((d * (d + s)) % t / u) % m, (c.1, d))
def cupOk (c : Int × Int) : Prop := 0 ≤ c.1 ∧ 0 ≤ c.2 ∧ c.2 < 2 ^ 63
theorem roll_ok {p q r s t u : Int} {nm : Str} (Φ : Nat → FSpec) (G : Nat → D) (N : Nat) {c : Int × Int} {m : Int} (hc : cupOk c) (hm : 0 < m ∧ m < 1073741824) (hp : b64 p = true) (hr : 0 < r ∧ r < 2 ^ 63) (ht : 0 < t) (hu : 0 < u ∧ u < 1073741824) :
    runC Φ G N { nm := nm, np := 2, N := ["cup", "many", "found", "deep"], kd := 1, body := bRoll p q r s t u } [.ref 0, .d (.int m)] (cupD c) = some (.int (rollN p q r s t u c m).1, cupD (rollN p q r s t u c m).2) := by
  obtain ⟨c0, c1⟩ := c
  obtain ⟨h0, h1, h2⟩ := hc
  have m64 : b64 ((c1 * p + q) % r) = true := b64_of ⟨by have := Int.emod_nonneg (c1 * p + q) (Int.ne_of_gt hr.1); omega, by have := Int.emod_lt_of_pos (c1 * p + q) hr.1; omega⟩
  by_cases hg : 0 < c0
  · have e : rollN p q r s t u (c0, c1) m = (c0 % m, (c0 / m, c1)) := by unfold rollN; rw [if_pos hg]
    rw [e]
    have hd : decide (c0 > 0) = true := decide_eq_true hg
    simp [runC, bRoll, cupD, envAt, evSs, evS, evE, evEs, valsD, valD, bifD, ixW, atI, ixN, b_gtI, hd, b_mod hm.1, b_fdiv hm, storeW, outC, pureL]
  · have e : rollN p q r s t u (c0, c1) m = ((((c1 * p + q) % r * ((c1 * p + q) % r + s)) % t / u) % m, (c0, (c1 * p + q) % r)) := by unfold rollN; rw [if_neg hg]
    rw [e]
    have hd : decide (c0 > 0) = false := decide_eq_false hg
    simp [runC, bRoll, cupD, envAt, evSs, evS, evE, evEs, valsD, valD, bifD, ixW, atI, ixN, b_gtI, hd, b_mod hm.1, b_mod hr.1, b_mod ht, b_fdiv hu, b_mulR hp, b_mulL m64, b_addI, storeW, outC, pureL]
end Sh
namespace Sh
open PySem PySem.Spec PyProof.Rows L2
/-! ### the cup -/
def bCup (a b c d e : Int) : Ss := (.cons (.asg (.pat (.nm 1)) (.bif .abs (.cons (.ix (.bin .add (.mkl false (.ofl (.var 0))) (.mkl false (.disp (.cons (.lit (.int 0)) .nil)))) (.lit (.int 0))) .nil))) (.cons (.ret (.mkl true (.disp (.cons (.ite (.bin .ge (.var 1) (.bin .pow (.lit (.int 10)) (.lit (.int 18)))) (.bin .fdiv (.var 1) (.lit (.int a))) (.lit (.int 0))) (.cons (.bin .add (.bin .mod (.bif .int1 (.cons (.bin .add (.bin .mul (.var 1) (.lit (.int b))) (.lit (.int c))) .nil)) (.lit (.int d))) (.lit (.int e))) .nil))))) .nil))
def cellOf (ns : List Int) : Int := let x := ns.headD 0; if x < 0 then -x else x
def cupOf (a b c d e : Int) (ns : List Int) : Int × Int := (if cellOf ns ≥ 10 ^ 18 then cellOf ns / a else 0, (cellOf ns * b + c) % d + e)
theorem pureL_ds : ∀ ds : List D, pureL (ds.map W.d) = some ds
  | [] => rfl
  | d :: ds => by
    have := pureL_ds ds
    simp only [List.map_cons, pureL, this]; rfl
@[simp] theorem pureL_f {α : Type} (f : α → D) (l : List α) : pureL (l.map (W.d ∘ f)) = some (l.map f) := by rw [← List.map_map]; exact pureL_ds _
@[simp] theorem pureL_f' {α : Type} (f : α → D) (l : List α) : pureL (l.map fun x => W.d (f x)) = some (l.map f) := pureL_f f l
theorem atI_zero {α : Type} (x : α) (xs : List α) : atI (x :: xs) 0 = some x := atI_nat (k := 0) rfl
theorem f_int1 (i : Int) : bifD .int1 [.int i] = some (.int i) := rfl
theorem f_abs (i : Int) : bifD .abs [.int i] = some (.int i.natAbs) := by
  show some (D.int (if i < 0 then -i else i)) = _
  congr 2
  split <;> omega
theorem f_lenL (xs : List D) : bifD .len [.lst xs] = some (.int xs.length) := rfl
theorem f_lenT (xs : List D) : bifD .len [.tup xs] = some (.int xs.length) := rfl
theorem f_lenS {xs : List Nat} (h : xs.length ≤ line) : bifD .len [.str xs] = some (.int xs.length) := if_pos h
theorem f_tupL (xs : List D) : bifD .tuple [.lst xs] = some (.tup xs) := rfl
theorem f_tupT (xs : List D) : bifD .tuple [.tup xs] = some (.tup xs) := rfl
theorem f_str1 (xs : List Nat) : bifD .str1 [.str xs] = some (.str xs) := rfl
theorem f_gcd (i j : Int) : bifD .gcd [.int i, .int j] = some (.int ((Nat.gcd i.natAbs j.natAbs : Nat) : Int)) := rfl
theorem f_min (i j : Int) : bifD .min2 [.int i, .int j] = some (.int (if j < i then j else i)) := rfl
theorem f_max (i j : Int) : bifD .max2 [.int i, .int j] = some (.int (if j > i then j else i)) := rfl
theorem blsD_map : ∀ bs : List Bool, blsD (bs.map D.bl) = some bs
  | [] => rfl
  | b :: bs => by rw [List.map_cons, blsD, blsD_map bs]; rfl
theorem intsD_map : ∀ bs : List Int, intsD (bs.map D.int) = some bs
  | [] => rfl
  | b :: bs => by rw [List.map_cons, intsD, intsD_map bs]; rfl
theorem f_all (bs : List Bool) : bifD .all [.lst (bs.map D.bl)] = some (.bl (bs.all id)) := by
  show (blsD (bs.map D.bl)).map _ = _
  rw [blsD_map]; rfl
theorem f_any (bs : List Bool) : bifD .any [.lst (bs.map D.bl)] = some (.bl (bs.any id)) := by
  show (blsD (bs.map D.bl)).map _ = _
  rw [blsD_map]; rfl
theorem f_sum (bs : List Int) : bifD .sum [.lst (bs.map D.int)] = some (.int bs.sum) := by
  show (intsD (bs.map D.int)).map _ = _
  rw [intsD_map]; rfl
def b_pow_18 : Int := 10 ^ 18
theorem pow_18 : binD .pow (.int 10) (.int 18) = some (.int b_pow_18) := rfl
theorem cup_ok {a b c d e : Int} {nm : Str} (Φ : Nat → FSpec) (G : Nat → D) (N : Nat) {ns : List Int} (hl : ns.length ≤ 63) (ha : 0 < a ∧ a < 1073741824) (hb : b64 b = true) (hd : 0 < d ∧ d < 2 ^ 62) (he : 0 ≤ e ∧ e < 2 ^ 62) :
    runN Φ G N { nm := nm, np := 1, N := ["script", "cell"], kd := 2, body := bCup a b c d e } [.scr ns] = some (cupD (cupOf a b c d e ns)) ∧ cupOk (cupOf a b c d e ns) := by
  have hcell : 0 ≤ cellOf ns := by unfold cellOf; simp only []; split <;> omega
  constructor
  · have h1 : (ns.map D.int).length + [D.int 0].length ≤ line := by rw [List.length_map]; simp only [line, List.length_cons, List.length_nil]; omega
    have hx : atI (ns.map D.int ++ [D.int 0]) 0 = some (.int (ns.headD 0)) := by cases ns <;> exact atI_zero _ _
    have hab : bifD .abs [.int (ns.headD 0)] = some (.int (cellOf ns)) := rfl
    have hdf : cupOf a b c d e ns = (if cellOf ns ≥ 10 ^ 18 then cellOf ns / a else 0, (cellOf ns * b + c) % d + e) := rfl
    rw [hdf]
    generalize cellOf ns = y at *
    generalize ns.headD 0 = x at *
    have p18 : b_pow_18 = (10 : Int) ^ 18 := rfl
    by_cases hg : y ≥ b_pow_18
    · rw [if_pos (by rw [← p18]; exact hg)]
      have hd' : decide (y ≥ b_pow_18) = true := decide_eq_true hg
      simp [runN, bCup, envAt, evSs, evS, evE, evEs, evC, mkL, pureL, valsD, valD, f_int1, ixW, ixD, hx, hab, b_addL h1, pow_18, b_geI, hd', b_mod hd.1, b_fdiv ha, b_mulR hb, b_addI, line, cupD]
    · rw [if_neg (by rw [← p18]; exact hg)]
      have hd' : decide (y ≥ b_pow_18) = false := decide_eq_false hg
      simp [runN, bCup, envAt, evSs, evS, evE, evEs, evC, mkL, pureL, valsD, valD, f_int1, ixW, ixD, hx, hab, b_addL h1, pow_18, b_geI, hd', b_mod hd.1, b_fdiv ha, b_mulR hb, b_addI, line, cupD]
  · have h1 := Int.emod_nonneg (cellOf ns * b + c) (Int.ne_of_gt hd.1)
    have h2 := Int.emod_lt_of_pos (cellOf ns * b + c) hd.1
    refine ⟨?_, by simp only [cupOf]; omega, by simp only [cupOf]; omega⟩
    simp only [cupOf]
    split
    · exact Int.ediv_nonneg hcell (Int.le_of_lt ha.1)
    · exact Int.le_refl _
theorem rollN_ok {p q r s t u : Int} {c : Int × Int} {m : Int} (hc : cupOk c) (hm : 0 < m) (hr : 0 < r ∧ r < 2 ^ 63) : 0 ≤ (rollN p q r s t u c m).1 ∧ (rollN p q r s t u c m).1 < m ∧ cupOk (rollN p q r s t u c m).2 := by
  obtain ⟨c0, c1⟩ := c
  obtain ⟨h0, h1, h2⟩ := hc
  simp only [] at h0 h1 h2
  unfold rollN
  split
  · exact ⟨Int.emod_nonneg _ (Int.ne_of_gt hm), Int.emod_lt_of_pos _ hm, Int.ediv_nonneg h0 (Int.le_of_lt hm), h1, h2⟩
  · have := Int.emod_nonneg (c1 * p + q) (Int.ne_of_gt hr.1)
    have := Int.emod_lt_of_pos (c1 * p + q) hr.1
    exact ⟨Int.emod_nonneg _ (Int.ne_of_gt hm), Int.emod_lt_of_pos _ hm, h0, by assumption, by simp only []; omega⟩
/-! ### loops -/
theorem forD_fold {α β : Type} {turn : D → Env → DH → Option Out} (f : β → D) (E : α → Env) (Hh : α → DH) (step : α → β → α) (P : List β → α → Prop) : ∀ (bs : List β) (a : α), P bs a →
    (∀ a b r, P (b :: r) a → turn (f b) (E a) (Hh a) = some (.nx (E (step a b)) (Hh (step a b))) ∧ P r (step a b)) →
    forD turn (bs.map f) (E a) (Hh a) = some (.nx (E (bs.foldl step a)) (Hh (bs.foldl step a))) ∧ P [] (bs.foldl step a)
  | [], a, pa, _ => ⟨rfl, pa⟩
  | b :: bs, a, pa, h => by
    obtain ⟨e, p⟩ := h a b bs pa
    have ih := forD_fold f E Hh step P bs (step a b) p h
    refine ⟨?_, ih.2⟩
    simp only [List.map_cons, forD, e, Option.bind_eq_bind, Option.bind_some, List.foldl_cons]
    exact ih.1
theorem compD_flat {β : Type} {turn : D → DH → Option (List W × DH)} {h : DH} (f : β → D) (g : β → List W) : ∀ (bs : List β), (∀ b ∈ bs, turn (f b) h = some (g b, h)) → compD turn (bs.map f) h = some (bs.flatMap g, h)
  | [], _ => rfl
  | b :: bs, H => by
    have ih := compD_flat f g bs fun b hb => H b (List.mem_cons_of_mem _ hb)
    simp only [List.map_cons, compD, H b List.mem_cons_self, ih, Option.bind_eq_bind, Option.bind_some, List.flatMap_cons]
theorem flat_one {β γ : Type} (g : β → γ) : ∀ bs : List β, (bs.flatMap fun b => [g b]) = bs.map g
  | [] => rfl
  | b :: bs => by rw [List.flatMap_cons, flat_one g bs]; rfl
theorem compD_map {β : Type} {turn : D → DH → Option (List W × DH)} {h : DH} (f : β → D) (g : β → W) (bs : List β) (H : ∀ b ∈ bs, turn (f b) h = some ([g b], h)) : compD turn (bs.map f) h = some (bs.map g, h) := by
  rw [compD_flat f (fun b => [g b]) bs H]
  rw [flat_one]
theorem whileD_go {test : Env → DH → Option (Bool × DH)} {body : Env → DH → Option Out} {k : Nat} {env env1 : Env} {h h1 h2 : DH} (ht : test env h = some (true, h1)) (hb : body env h1 = some (.nx env1 h2)) : whileD test body (k + 1) env h = whileD test body k env1 h2 := by
  simp only [whileD, ht, hb, Option.bind_eq_bind, Option.bind_some, if_true]
theorem whileD_end {test : Env → DH → Option (Bool × DH)} {body : Env → DH → Option Out} {k : Nat} {env : Env} {h h1 : DH} (ht : test env h = some (false, h1)) : whileD test body (k + 1) env h = some (.nx env h1) := by
  simp only [whileD, ht, Option.bind_eq_bind, Option.bind_some, Bool.false_eq_true, if_false]
section
variable {Φ : Nat → FSpec} {G : Nat → D} {N : Nat}
theorem ss_nx {s : S} {r : Ss} {env e1 : Env} {h h1 : DH} (e : evS Φ G N s env h = some (.nx e1 h1)) : evSs Φ G N (.cons s r) env h = evSs Φ G N r e1 h1 := by
  simp only [evSs, e, Option.bind_eq_bind, Option.bind_some]
theorem ss_rt {s : S} {r : Ss} {env : Env} {w : W} {h h1 : DH} (e : evS Φ G N s env h = some (.rt w h1)) : evSs Φ G N (.cons s r) env h = some (.rt w h1) := by
  simp only [evSs, e, Option.bind_eq_bind, Option.bind_some]
theorem ev_var {i : Nat} {env : Env} {h : DH} : evE Φ G (.var i) env h = (match env[i]? with
    | some (some w) => some (w, h)
    | _ => .none) := by rw [evE] <;> rfl
theorem ev_lit {d : D} {env : Env} {h : DH} : evE Φ G (.lit d) env h = some (.d d, h) := by rw [evE]
theorem ev_con {g : Nat} {env : Env} {h : DH} : evE Φ G (.con g) env h = some (.d (G g), h) := by rw [evE]
theorem ev_bin {o : Bop} {a b : E} {env : Env} {h : DH} : evE Φ G (.bin o a b) env h = (evE Φ G a env h).bind fun p => (evE Φ G b env p.2).bind fun q => (valD q.2 p.1).bind fun dx => (valD q.2 q.1).bind fun dy => (binD o dx dy).bind fun r => some (.d r, q.2) := by rw [evE] <;> rfl
theorem ev_not {a : E} {env : Env} {h : DH} : evE Φ G (.not a) env h = (evE Φ G a env h).bind fun p => (match p.1 with
    | .d (.bl b) => some (.d (.bl (!b)), p.2)
    | _ => .none) := by rw [evE] <;> rfl
theorem ev_or {a b : E} {env : Env} {h : DH} : evE Φ G (.or a b) env h = (evE Φ G a env h).bind fun p => (match p.1 with
    | .d (.bl false) => evE Φ G b env p.2
    | .d (.bl true) => some (.d (.bl true), p.2)
    | _ => .none) := by rw [evE] <;> rfl
theorem ev_and {a b : E} {env : Env} {h : DH} : evE Φ G (.and a b) env h = (evE Φ G a env h).bind fun p => (match p.1 with
    | .d (.bl true) => evE Φ G b env p.2
    | .d (.bl false) => some (.d (.bl false), p.2)
    | _ => .none) := by rw [evE] <;> rfl
theorem ev_ite {c a b : E} {env : Env} {h : DH} : evE Φ G (.ite c a b) env h = (evE Φ G c env h).bind fun p => (match p.1 with
    | .d (.bl true) => evE Φ G a env p.2
    | .d (.bl false) => evE Φ G b env p.2
    | _ => .none) := by rw [evE] <;> rfl
theorem ev_tup {es : Es} {env : Env} {h : DH} : evE Φ G (.tup es) env h = (evEs Φ G es env h).bind fun p => (pureL p.1).bind fun ds => if ds.length ≤ line then some (.d (.tup ds), p.2) else .none := by rw [evE] <;> rfl
theorem ev_ix {a b : E} {env : Env} {h : DH} : evE Φ G (.ix a b) env h = (evE Φ G a env h).bind fun p => (evE Φ G b env p.2).bind fun q => (ixW q.2 p.1 q.1).bind fun w => some (w, q.2) := by rw [evE] <;> rfl
theorem ev_bif {b : Bif} {es : Es} {env : Env} {h : DH} : evE Φ G (.bif b es) env h = (evEs Φ G es env h).bind fun p => (valsD p.2 p.1).bind fun ds => (bifD b ds).bind fun r => some (.d r, p.2) := by rw [evE] <;> rfl
theorem ev_disp {m : Bool} {es : Es} {env : Env} {h : DH} : evE Φ G (.mkl m (.disp es)) env h = (evEs Φ G es env h).bind fun p => if p.1.length ≤ line then mkL m p.1 p.2 else .none := by
  rw [evE, evC]
  cases h1 : evEs Φ G es env h with
  | none => rfl
  | some p => by_cases hl : p.1.length ≤ line <;> simp [hl]
theorem call_p {f : Nat} {es : Es} {env : Env} {h h1 : DH} {ws : List W} {ds : List D} {g : List D → Option D} {r : D} (he : evEs Φ G es env h = some (ws, h1)) (hf : Φ f = .pure g) (hp : pureL ws = some ds) (hg : g ds = some r) : evE Φ G (.call f es) env h = some (.d r, h1) := by
  simp only [evE, he, hf, hp, hg, Option.bind_eq_bind, Option.bind_some]
theorem ite_t {c : E} {a b : Ss} {env : Env} {h h1 : DH} (e : evE Φ G c env h = some (.d (.bl true), h1)) : evS Φ G N (.ite c a b) env h = evSs Φ G N a env h1 := by
  simp only [evS, e, Option.bind_eq_bind, Option.bind_some]
theorem ite_f {c : E} {a b : Ss} {env : Env} {h h1 : DH} (e : evE Φ G c env h = some (.d (.bl false), h1)) : evS Φ G N (.ite c a b) env h = evSs Φ G N b env h1 := by
  simp only [evS, e, Option.bind_eq_bind, Option.bind_some]
theorem s_ret {e : E} {env : Env} {h h1 : DH} {w : W} (q : evE Φ G e env h = some (w, h1)) : evS Φ G N (.ret e) env h = some (.rt w h1) := by
  simp only [evS, q, Option.bind_eq_bind, Option.bind_some]
theorem s_nm {i : Nat} {e : E} {env : Env} {h h1 : DH} {w : W} (q : evE Φ G e env h = some (w, h1)) : evS Φ G N (.asg (.pat (.nm i)) e) env h = some (.nx (env.set i (some w)) h1) := by
  simp only [evS, q, Option.bind_eq_bind, Option.bind_some]
theorem bif1 {b : Bif} {e : E} {env : Env} {h h1 : DH} {w : W} {d r : D} (q : evE Φ G e env h = some (w, h1)) (hv : valD h1 w = some d) (hr : bifD b [d] = some r) : evE Φ G (.bif b (.cons e .nil)) env h = some (.d r, h1) := by
  simp only [evE, evEs, q, Option.bind_eq_bind, Option.bind_some, valsD, hv, hr]
theorem run_rt {fd : FD} {ds : List D} {d : D} {hh : DH} (hl : ds.length = fd.np) (e : evSs Φ G N fd.body (envAt fd.N.length (ds.map W.d)) [] = some (.rt (.d d) hh)) : runP Φ G N fd ds = some d := by
  unfold runP
  rw [if_pos hl, e]
theorem run_nx {fd : FD} {ds : List D} {env : Env} {hh : DH} (hl : ds.length = fd.np) (e : evSs Φ G N fd.body (envAt fd.N.length (ds.map W.d)) [] = some (.nx env hh)) : runP Φ G N fd ds = some .non := by
  unfold runP
  rw [if_pos hl, e]
theorem run_c {fd : FD} {ws : List W} {c c' : List D} {d : D} {hh : DH} (hl : ws.length = fd.np) (e : evSs Φ G N fd.body (envAt fd.N.length ws) [.lst (c.map W.d)] = some (.rt (.d d) (.lst (c'.map W.d) :: hh))) : runC Φ G N fd ws c = some (d, c') := by
  unfold runC
  rw [if_pos hl, e]
  simp only [outC, List.getElem?_cons_zero, pureL_ds, Option.map_some]
/-- a for whose turns do not leave it -/
theorem for_fold {α β : Type} {p : Pat} {it : E} {body : Ss} {env : Env} {h : DH} {x : D} (f : β → D) (E : α → Env) (Hh : α → DH) (step : α → β → α) (P : List β → α → Prop) (bs : List β) (a : α) (hit : evE Φ G it env h = some (.d x, Hh a)) (hx : itemsD x = some (bs.map f)) (he : env = E a) (pa : P bs a)
    (ht : ∀ a b r, P (b :: r) a → ∃ env1, p.bind (f b) (E a) = some env1 ∧ evSs Φ G N body env1 (Hh a) = some (.nx (E (step a b)) (Hh (step a b))) ∧ P r (step a b)) :
    evS Φ G N (.for p it body) env h = some (.nx (E (bs.foldl step a)) (Hh (bs.foldl step a))) ∧ P [] (bs.foldl step a) := by
  have hf := forD_fold (turn := fun x env h => do let env1 ← p.bind x env; evSs Φ G N body env1 h) f E Hh step P bs a pa fun a b r hp => by
    obtain ⟨env1, h1, h2, h3⟩ := ht a b r hp
    exact ⟨by rw [h1]; exact h2, h3⟩
  refine ⟨?_, hf.2⟩
  simp only [evS, hit, Option.bind_eq_bind, Option.bind_some, hx]
  subst he
  exact hf.1
theorem pureL_flat {β : Type} (g : β → List D) (bs : List β) : pureL (bs.flatMap fun b => (g b).map W.d) = some (bs.flatMap g) := by
  rw [← List.map_flatMap]; exact pureL_ds _
/-- list comprehensions of data, one clause -/
theorem comp_flat {β : Type} {own : List Nat} {p : Pat} {it elt : E} {c : Es} {env : Env} {h h0 : DH} {x : D} (f : β → D) (bs : List β) (g : β → List D) (hit : evE Φ G it env h0 = some (.d x, h)) (hx : itemsD x = some (bs.map f))
    (ht : ∀ b ∈ bs, ∃ env1, p.bind (f b) (wipeE env own) = some env1 ∧ ((∃ v, evIf Φ G c env1 h = some (true, h) ∧ evE Φ G elt env1 h = some (.d v, h) ∧ g b = [v]) ∨ (evIf Φ G c env1 h = some (false, h) ∧ g b = []))) (hl : (bs.flatMap g).length ≤ line) :
    evE Φ G (.mkl false (.comp own p it c elt)) env h0 = some (.d (.lst (bs.flatMap g)), h) := by
  have hf := compD_flat (turn := fun x h => do
      let env1 ← p.bind x (wipeE env own)
      let (b, h1) ← evIf Φ G c env1 h
      if b = true then do
        let (w, h2) ← evE Φ G elt env1 h1
        some ([w], h2)
      else some ([], h1)) (h := h) f (fun b => (g b).map W.d) bs fun b hb => by
    obtain ⟨env1, h1, ⟨v, h2, h3, h4⟩ | ⟨h2, h4⟩⟩ := ht b hb
    · simp only [h1, h2, h3, h4, Option.bind_eq_bind, Option.bind_some, if_true, List.map_cons, List.map_nil]
    · simp only [h1, h2, h4, Option.bind_eq_bind, Option.bind_some, Bool.false_eq_true, if_false, List.map_nil]
  have hlen : (bs.flatMap fun b => (g b).map W.d).length ≤ line := by rw [← List.map_flatMap, List.length_map]; exact hl
  simp only [evE, evC, hit, Option.bind_eq_bind, Option.bind_some, compW, hx]
  simp only [Option.bind_eq_bind] at hf
  rw [hf]
  simp only [Option.bind_some, if_pos hlen, mkL, Bool.false_eq_true, if_false, pureL_flat, Option.map_some]
theorem comp_map {β : Type} {own : List Nat} {p : Pat} {it elt : E} {env : Env} {h h0 : DH} {x : D} (f : β → D) (bs : List β) (v : β → D) (hit : evE Φ G it env h0 = some (.d x, h)) (hx : itemsD x = some (bs.map f))
    (ht : ∀ b ∈ bs, ∃ env1, p.bind (f b) (wipeE env own) = some env1 ∧ evE Φ G elt env1 h = some (.d (v b), h)) (hl : bs.length ≤ line) :
    evE Φ G (.mkl false (.comp own p it .nil elt)) env h0 = some (.d (.lst (bs.map v)), h) := by
  have := comp_flat (c := .nil) f bs (fun b => [v b]) hit hx (fun b hb => by
    obtain ⟨env1, h1, h2⟩ := ht b hb
    exact ⟨env1, h1, .inl ⟨_, rfl, h2, rfl⟩⟩) (by rw [flat_one, List.length_map]; exact hl)
  rw [flat_one] at this
  exact this
theorem flat_filter {β γ : Type} (q : β → Bool) (v : β → γ) : ∀ bs : List β, (bs.flatMap fun b => if q b = true then [v b] else []) = (bs.filter q).map v
  | [] => rfl
  | b :: bs => by
    rw [List.flatMap_cons, flat_filter q v bs, List.filter_cons]
    cases h : q b <;> rfl
theorem comp_filter {β : Type} {own : List Nat} {p : Pat} {it elt c : E} {env : Env} {h h0 : DH} {x : D} (f : β → D) (bs : List β) (q : β → Bool) (v : β → D) (hit : evE Φ G it env h0 = some (.d x, h)) (hx : itemsD x = some (bs.map f))
    (ht : ∀ b ∈ bs, ∃ env1, p.bind (f b) (wipeE env own) = some env1 ∧ evE Φ G c env1 h = some (.d (.bl (q b)), h) ∧ (q b = true → evE Φ G elt env1 h = some (.d (v b), h))) (hl : bs.length ≤ line) :
    evE Φ G (.mkl false (.comp own p it (.cons c .nil) elt)) env h0 = some (.d (.lst ((bs.filter q).map v)), h) := by
  have := comp_flat (c := .cons c .nil) f bs (fun b => if q b = true then [v b] else []) hit hx (fun b hb => by
    obtain ⟨env1, h1, h2, h3⟩ := ht b hb
    refine ⟨env1, h1, ?_⟩
    cases hq : q b with
    | true => exact .inl ⟨_, by simp only [evIf, h2, hq, Option.bind_eq_bind, Option.bind_some], h3 hq, by rw [if_pos rfl]⟩
    | false => exact .inr ⟨by simp only [evIf, h2, hq, Option.bind_eq_bind, Option.bind_some], by rw [if_neg Bool.false_ne_true]⟩) (by
      rw [flat_filter, List.length_map]
      exact Nat.le_trans (List.length_filter_le _ _) hl)
  rw [flat_filter] at this
  exact this
/-- two clauses -/
theorem comp2_map {β γ : Type} {own vs1 : List Nat} {p p1 : Pat} {it it1 elt : E} {env : Env} {h h0 : DH} {x : D} (f : β → D) (bs : List β) (f1 : γ → D) (cs : β → List γ) (v : β → γ → D) (hit : evE Φ G it env h0 = some (.d x, h)) (hx : itemsD x = some (bs.map f))
    (ht : ∀ b ∈ bs, ∃ env1 y, p.bind (f b) (wipeE env own) = some env1 ∧ evE Φ G it1 env1 h = some (.d y, h) ∧ itemsD y = some ((cs b).map f1) ∧ ∀ c ∈ cs b, ∃ env2, p1.bind (f1 c) (wipeE env1 vs1) = some env2 ∧ evE Φ G elt env2 h = some (.d (v b c), h))
    (hl : (bs.flatMap fun b => (cs b).map (v b)).length ≤ line) :
    evE Φ G (.mkl false (.comp2 own vs1 p it .nil p1 it1 .nil elt)) env h0 = some (.d (.lst (bs.flatMap fun b => (cs b).map (v b))), h) := by
  have hf := compD_flat (turn := fun x h => do
      let env1 ← p.bind x (wipeE env own)
      let (b, h1) ← evIf Φ G .nil env1 h
      if b = true then do
        let (y, h2) ← evE Φ G it1 env1 h1
        compW (fun y h => do
          let env2 ← p1.bind y (wipeE env1 vs1)
          let (b, h1) ← evIf Φ G .nil env2 h
          if b = true then do
            let (w, h2) ← evE Φ G elt env2 h1
            some ([w], h2)
          else some ([], h1)) y h2
      else some ([], h1)) (h := h) f (fun b => ((cs b).map (v b)).map W.d) bs fun b hb => by
    obtain ⟨env1, y, h1, h2, h3, h4⟩ := ht b hb
    have hg := compD_map (turn := fun y h => do
          let env2 ← p1.bind y (wipeE env1 vs1)
          let (b, h1) ← evIf Φ G .nil env2 h
          if b = true then do
            let (w, h2) ← evE Φ G elt env2 h1
            some ([w], h2)
          else some ([], h1)) (h := h) f1 (fun c => W.d (v b c)) (cs b) fun c hc => by
      obtain ⟨env2, g1, g2⟩ := h4 c hc
      simp only [g1, g2, evIf, Option.bind_eq_bind, Option.bind_some, if_true]
    simp only [h1, evIf, h2, Option.bind_eq_bind, Option.bind_some, if_true, compW, h3]
    simp only [evIf, Option.bind_eq_bind, Option.bind_some, if_true] at hg
    rw [hg, List.map_map]
    rfl
  have hlen : (bs.flatMap fun b => ((cs b).map (v b)).map W.d).length ≤ line := by rw [← List.map_flatMap, List.length_map]; exact hl
  simp only [evE, evC, hit, Option.bind_eq_bind, Option.bind_some, compW, hx]
  simp only [Option.bind_eq_bind, compW] at hf
  rw [hf]
  simp only [Option.bind_some, if_pos hlen, mkL, Bool.false_eq_true, if_false, pureL_flat, Option.map_some]
theorem rng_1 {i : Int} {n : Nat} {a : E} {env : Env} {h h1 : DH} (e : evE Φ G a env h = some (.d (.int i), h1)) (hi : i = n) (hn : n ≤ 16777216) : evE Φ G (.rng (.cons a .nil)) env h = some (.d (.lst ((List.range n).map fun (k : Nat) => D.int k)), h1) := by
  subst hi
  simp only [evE, evEs, e, Option.bind_eq_bind, Option.bind_some, pureL, Option.map_some, rngD]
  rw [if_pos (by simp only [Bool.and_eq_true, lo62_iff, hi24_iff]; omega)]
  simp only [Option.bind_some, Int.toNat_natCast]
end
section
variable (N : Nat)
theorem while_to {test : Env → DH → Option (Bool × DH)} {body : Env → DH → Option Out} (E : Nat → Env) (h : DH) (n : Nat) (ht : ∀ j, j < n → test (E j) h = some (true, h)) (hb : ∀ j, j < n → body (E j) h = some (.nx (E (j + 1)) h)) (he : test (E n) h = some (false, h)) :
    ∀ d j k, j + d = n → d < k → whileD test body k (E j) h = some (.nx (E n) h)
  | 0, j, k, e, hk => by
    obtain ⟨k, rfl⟩ : ∃ i, k = i + 1 := ⟨k - 1, by omega⟩
    have : j = n := by omega
    subst this
    exact whileD_end he
  | d + 1, j, k, e, hk => by
    obtain ⟨k, rfl⟩ : ∃ i, k = i + 1 := ⟨k - 1, by omega⟩
    rw [whileD_go (ht j (by omega)) (hb j (by omega))]
    exact while_to E h n ht hb he d (j + 1) k (by omega) (by omega)
theorem while_s {Φ : Nat → FSpec} {G : Nat → D} {c : E} {body : Ss} (E : Nat → Env) (h : DH) (n : Nat) (q : Nat → Bool) (ht : ∀ j, j ≤ n → evE Φ G c (E j) h = some (.d (.bl (q j)), h)) (hq : ∀ j, j < n → q j = true) (hn : q n = false) (hb : ∀ j, j < n → evSs Φ G N body (E j) h = some (.nx (E (j + 1)) h)) (hN : n < N) :
    evS Φ G N (.while c body) (E 0) h = some (.nx (E n) h) := by
  simp only [evS]
  refine while_to E h n (fun j hj => ?_) hb ?_ n 0 N (by omega) hN
  · simp only [ht j (Nat.le_of_lt hj), hq j hj, Option.bind_eq_bind, Option.bind_some]
  · simp only [ht n (Nat.le_refl _), hn, Option.bind_eq_bind, Option.bind_some]
end
/-! ### turns that are counted only -/
def it {α : Type} (f : α → α) : Nat → α → α
  | 0, a => a
  | n + 1, a => it f n (f a)
theorem fold_it {α β : Type} (f : α → α) : ∀ (l : List β) (a : α), l.foldl (fun a _ => f a) a = it f l.length a
  | [], a => rfl
  | _ :: l, a => fold_it f l (f a)
theorem it_succ {α : Type} (f : α → α) : ∀ (n : Nat) (a : α), it f (n + 1) a = f (it f n a)
  | 0, a => rfl
  | n + 1, a => it_succ f n (f a)
theorem itemsS {cs : List Nat} (h : cs.length ≤ line) : itemsD (.str cs) = some (cs.map fun c => D.str [c]) := if_pos h
end Sh

/-! Euclid's way, in 200 turns -/
namespace Sh
open PySem PySem.Spec PyProof.Rows L2
def bCut : Ss := (.cons (.par [2, 3] (.cons (.var 0) (.cons (.var 1) .nil))) (.cons (.for (.nm 4) (.rng (.cons (.lit (.int 200)) .nil)) (.cons (.ite (.bin .ne (.var 3) (.lit (.int 0))) (.cons (.par [2, 3] (.cons (.var 3) (.cons (.bin .mod (.bif .int1 (.cons (.var 2) .nil)) (.bif .int1 (.cons (.var 3) .nil))) .nil))) .nil) .nil) (.cons (.fgt [4]) .nil))) (.cons (.ret (.tup (.cons (.bin .fdiv (.var 0) (.var 2)) (.cons (.bin .fdiv (.var 1) (.var 2)) .nil)))) .nil)))
def euS (p : Nat × Nat) : Nat × Nat := if p.2 = 0 then p else (p.2, p.1 % p.2)
theorem euS_z (a : Nat) : euS (a, 0) = (a, 0) := rfl
theorem eu_zero {β : Type} (a : Nat) : ∀ l : List β, l.foldl (fun p _ => euS p) (a, 0) = (a, 0)
  | [] => rfl
  | _ :: l => by rw [List.foldl_cons, euS_z]; exact eu_zero a l
theorem eu_fold {β : Type} : ∀ (m : Nat) (l : List β) (a b : Nat), b < 2 ^ m → 2 * m ≤ l.length → l.foldl (fun p _ => euS p) (a, b) = (Nat.gcd a b, 0)
  | 0, l, a, b, hb, _ => by
    have : b = 0 := by omega
    subst this
    rw [eu_zero, Nat.gcd_zero_right]
  | m + 1, l, a, b, hb, hl => by
    by_cases h0 : b = 0
    · subst h0
      rw [eu_zero, Nat.gcd_zero_right]
    · have s1 : euS (a, b) = (b, a % b) := if_neg h0
      have g1 : Nat.gcd a b = Nat.gcd b (a % b) := by rw [Nat.gcd_comm a b, Nat.gcd_rec b a, Nat.gcd_comm]
      match l, hl with
      | x :: y :: l, hl =>
        rw [List.foldl_cons, s1, g1]
        by_cases h1 : a % b = 0
        · rw [h1, eu_zero, Nat.gcd_zero_right]
        · have s2 : euS (b, a % b) = (a % b, b % (a % b)) := if_neg h1
          have g2 : Nat.gcd b (a % b) = Nat.gcd (a % b) (b % (a % b)) := by rw [Nat.gcd_comm b (a % b), Nat.gcd_rec (a % b) b, Nat.gcd_comm]
          rw [List.foldl_cons, s2, g2]
          have h2 : a % b < b := Nat.mod_lt _ (by omega)
          have h3 : b % (a % b) < a % b := Nat.mod_lt _ (by omega)
          have h4 : (a % b) * (b / (a % b)) + b % (a % b) = b := Nat.div_add_mod b (a % b)
          have h5 : 1 ≤ b / (a % b) := Nat.div_pos (by omega) (by omega)
          have h6 : (a % b) * 1 ≤ (a % b) * (b / (a % b)) := Nat.mul_le_mul_left _ h5
          have h7 : 2 ^ (m + 1) = 2 * 2 ^ m := by rw [Nat.pow_succ]; omega
          refine eu_fold m l _ _ (by omega) ?_
          simp only [List.length_cons] at hl
          omega
def enc (x : Nat × Nat) : D := .tup [.int x.1, .int x.2]
def cutP (a b : Nat) : Nat × Nat := (a / Nat.gcd a b, b / Nat.gcd a b)
theorem cut_ok {nm : Str} (Φ : Nat → FSpec) (G : Nat → D) (N : Nat) {a b : Nat} (hb : 0 < b ∧ b < 1073741824) : runP Φ G N { nm := nm, np := 2, N := ["number", "parts", "one", "two", "turn"], kd := 0, body := bCut } [.int a, .int b] = some (enc (cutP a b)) := by
  have hg : 0 < Nat.gcd a b := Nat.gcd_pos_of_pos_right _ hb.1
  have hgl : Nat.gcd a b ≤ b := Nat.le_of_dvd hb.1 (Nat.gcd_dvd_right a b)
  have q1 : (0 : Int) < (Nat.gcd a b : Nat) ∧ ((Nat.gcd a b : Nat) : Int) < 1073741824 := by omega
  have hf := (for_fold (Φ := Φ) (G := G) (N := N) (p := .nm 4) (it := .rng (.cons (.lit (.int 200)) .nil)) (body := .cons (.ite (.bin .ne (.var 3) (.lit (.int 0))) (.cons (.par [2, 3] (.cons (.var 3) (.cons (.bin .mod (.bif .int1 (.cons (.var 2) .nil)) (.bif .int1 (.cons (.var 3) .nil))) .nil))) .nil) .nil) (.cons (.fgt [4]) .nil)) (h := [])
    (fun k : Nat => D.int k) (fun p : Nat × Nat => [some (.d (.int a)), some (.d (.int b)), some (.d (.int p.1)), some (.d (.int p.2)), none]) (fun _ => []) (fun p _ => euS p) (fun _ _ => True) (List.range 200) (a, b) (rng_1 (n := 200) rfl rfl (by decide)) rfl rfl trivial
    (fun p k _ _ => ⟨_, rfl, by
      obtain ⟨u, v⟩ := p
      by_cases hv : v = 0
      · subst hv
        simp [Pat.bind, evSs, evS, evE, valD, b_neI, unsetE, euS]
      · have hd : decide ((v : Int) = 0) = false := decide_eq_false (by omega)
        have hm : (0 : Int) < (v : Int) := by omega
        simp [Pat.bind, evSs, evS, evE, evEs, valD, valsD, b_neI, hd, f_int1, b_mod hm, setsE, unsetE, euS, hv], trivial⟩)).1
  rw [eu_fold 30 _ _ _ (by omega) (by simp)] at hf
  have h0 : evSs Φ G N bCut (envAt 5 [.d (.int a), .d (.int b)]) [] = some (.rt (.d (enc (cutP a b))) []) := by
    unfold bCut
    rw [ss_nx (e1 := [some (.d (.int a)), some (.d (.int b)), some (.d (.int a)), some (.d (.int b)), none]) (h1 := []) rfl, ss_nx hf]
    simp [evSs, evS, evE, evEs, pureL, valD, b_fdiv q1, line, enc, cutP]
  simp only [runP, List.length_cons, List.length_nil, if_true, List.map_cons, List.map_nil]
  rw [h0]
end Sh

namespace L76
open PySem PySem.Spec PyProof.Rows L2 Sh
def topS (i : Nat) : Stmt := PySem.Challenge.pw_leatheryard_k76_whole_nearest_words.main.body.getD i (.Pass ⟨0, 0, 0, 0⟩)
/-- 0: _law_cup at 29 -/
def b_law_cup : Ss := (.cons (.asg (.pat (.nm 1)) (.bif .abs (.cons (.ix (.bin .add (.mkl false (.ofl (.var 0))) (.mkl false (.disp (.cons (.lit (.int 0)) .nil)))) (.lit (.int 0))) .nil))) (.cons (.ret (.mkl true (.disp (.cons (.ite (.bin .ge (.var 1) (.bin .pow (.lit (.int 10)) (.lit (.int 18)))) (.bin .fdiv (.var 1) (.lit (.int 89))) (.lit (.int 0))) (.cons (.bin .add (.bin .mod (.bif .int1 (.cons (.bin .add (.bin .mul (.var 1) (.lit (.int 331))) (.lit (.int 4049))) .nil)) (.lit (.int 2077492797))) (.lit (.int 173))) .nil))))) .nil))
def f_law_cup : FD := { nm := "_law_cup", np := 1, N := ["script", "cell"], kd := 2, body := b_law_cup }
/-- 1: _law_same at 32 -/
def b_law_same : Ss := (.cons (.ite (.isi (.var 1) .tuple) (.cons (.ite (.or (.not (.isi (.var 0) .tuple)) (.bin .ne (.bif .len (.cons (.var 0) .nil)) (.bif .len (.cons (.var 1) .nil)))) (.cons (.ret (.lit (.bl false))) .nil) .nil) (.cons (.ret (.bif .all (.cons (.mkl false (.comp [2] (.nm 2) (.rng (.cons (.bif .len (.cons (.var 1) .nil)) .nil)) .nil (.call 1 (.cons (.ix (.var 0) (.var 2)) (.cons (.ix (.var 1) (.var 2)) .nil))))) .nil))) .nil)) .nil) (.cons (.ite (.bin .is (.var 1) (.lit .non)) (.cons (.ret (.bin .is (.var 0) (.lit .non))) .nil) .nil) (.cons (.ite (.isi (.var 1) .bool) (.cons (.ret (.ite (.var 1) (.bin .is (.var 0) (.lit (.bl true))) (.bin .is (.var 0) (.lit (.bl false))))) .nil) .nil) (.cons (.ite (.isi (.var 1) .int) (.cons (.ret (.and (.isi (.var 0) .int) (.and (.not (.isi (.var 0) .bool)) (.bin .eq (.bif .int1 (.cons (.var 0) .nil)) (.var 1))))) .nil) .nil) (.cons (.ret (.and (.isi (.var 0) .str) (.bin .eq (.bif .str1 (.cons (.var 0) .nil)) (.var 1)))) .nil)))))
def f_law_same : FD := { nm := "_law_same", np := 2, N := ["told", "due", "at"], kd := 0, body := b_law_same }
/-- 2: _law_words at 37 -/
def b_law_words : Ss := (.cons (.asg (.pat (.nm 1)) (.mkl false (.disp (.cons (.lit (.str [])) .nil)))) (.cons (.for (.nm 2) (.rng (.cons (.var 0) .nil)) (.cons (.asg (.pat (.nm 3)) (.mkl false (.disp .nil))) (.cons (.for (.nm 4) (.var 1) (.cons (.asg (.pat (.nm 3)) (.bin .add (.var 3) (.mkl false (.disp (.cons (.bin .add (.var 4) (.lit (.str [102]))) (.cons (.bin .add (.var 4) (.lit (.str [119]))) .nil)))))) (.cons (.fgt [4]) .nil))) (.cons (.asg (.pat (.nm 1)) (.var 3)) (.cons (.fgt [2, 3, 4]) .nil))))) (.cons (.ret (.var 1)) .nil)))
def f_law_words : FD := { nm := "_law_words", np := 1, N := ["steps", "found", "turn", "longer", "word"], kd := 0, body := b_law_words }
/-- 3: is_tuple_of at 7 -/
def b_is_tuple_of : Ss := (.cons (.ret (.and (.isi (.var 0) .tuple) (.chain .le .le (.var 1) (.bif .len (.cons (.var 0) .nil)) (.var 2)))) .nil)
def f_is_tuple_of : FD := { nm := "is_tuple_of", np := 3, N := ["value", "low", "high"], kd := 0, body := b_is_tuple_of }
/-- 4: is_whole at 6 -/
def b_is_whole : Ss := (.cons (.ret (.and (.isi (.var 0) .int) (.and (.not (.isi (.var 0) .bool)) (.chain .le .le (.var 1) (.var 0) (.var 2))))) .nil)
def f_is_whole : FD := { nm := "is_whole", np := 3, N := ["value", "low", "high"], kd := 0, body := b_is_whole }
/-- 5: fits_strength at 13 -/
def b_fits_strength : Ss := (.cons (.ite (.or (.not (.call 3 (.cons (.var 0) (.cons (.lit (.int 2)) (.cons (.lit (.int 2)) .nil))))) (.or (.not (.call 4 (.cons (.ix (.var 0) (.lit (.int 1))) (.cons (.lit (.int 1)) (.cons (.con 0) .nil))))) (.not (.call 4 (.cons (.ix (.var 0) (.lit (.int 0))) (.cons (.lit (.int 0)) (.cons (.ix (.var 0) (.lit (.int 1))) .nil))))))) (.cons (.ret (.lit (.bl false))) .nil) .nil) (.cons (.ret (.bin .eq (.bif .gcd (.cons (.ix (.var 0) (.lit (.int 0))) (.cons (.ix (.var 0) (.lit (.int 1))) .nil))) (.lit (.int 1)))) .nil))
def f_fits_strength : FD := { nm := "fits_strength", np := 1, N := ["value"], kd := 0, body := b_fits_strength }
/-- 6: need_strength at 14 -/
def b_need_strength : Ss := (.cons (.ite (.not (.call 5 (.cons (.var 0) .nil))) (.cons .nev .nil) .nil) .nil)
def f_need_strength : FD := { nm := "need_strength", np := 1, N := ["strength"], kd := 0, body := b_need_strength }
/-- 7: need_both at 17 -/
def b_need_both : Ss := (.cons (.expr (.call 6 (.cons (.var 0) .nil))) (.cons (.expr (.call 6 (.cons (.var 1) .nil))) .nil))
def f_need_both : FD := { nm := "need_both", np := 2, N := ["start", "goal"], kd := 0, body := b_need_both }
/-- 8: need_steps at 26 -/
def b_need_steps : Ss := (.cons (.ite (.not (.call 4 (.cons (.var 0) (.cons (.lit (.int 0)) (.cons (.con 1) .nil))))) (.cons .nev .nil) .nil) .nil)
def f_need_steps : FD := { nm := "need_steps", np := 1, N := ["steps"], kd := 0, body := b_need_steps }
/-- 9: words_of at 23 -/
def b_words_of : Ss := (.cons (.asg (.pat (.nm 1)) (.mkl false (.disp (.cons (.lit (.str [])) .nil)))) (.cons (.for (.nm 2) (.rng (.cons (.var 0) .nil)) (.cons (.asg (.pat (.nm 1)) (.mkl false (.comp2 [3, 4] [4] (.nm 3) (.var 1) .nil (.nm 4) (.lit (.str [102, 119])) .nil (.bin .add (.var 3) (.var 4))))) (.cons (.fgt [2]) .nil))) (.cons (.ret (.var 1)) .nil)))
def f_words_of : FD := { nm := "words_of", np := 1, N := ["steps", "found", "turn", "word", "sign"], kd := 0, body := b_words_of }
/-- 10: cut at 18 -/
def b_cut : Ss := (.cons (.asg (.pat (.nm 2)) (.bif .gcd (.cons (.var 0) (.cons (.var 1) .nil)))) (.cons (.ret (.tup (.cons (.bin .fdiv (.var 0) (.var 2)) (.cons (.bin .fdiv (.var 1) (.var 2)) .nil)))) .nil))
def f_cut : FD := { nm := "cut", np := 2, N := ["number", "parts", "share"], kd := 0, body := b_cut }
/-- 11: off_of at 21 -/
def b_off_of : Ss := (.cons (.ret (.call 10 (.cons (.bif .abs (.cons (.bin .sub (.bin .mul (.ix (.var 0) (.lit (.int 0))) (.ix (.var 1) (.lit (.int 1)))) (.bin .mul (.ix (.var 1) (.lit (.int 0))) (.ix (.var 0) (.lit (.int 1))))) .nil)) (.cons (.bin .mul (.ix (.var 0) (.lit (.int 1))) (.ix (.var 1) (.lit (.int 1)))) .nil)))) .nil)
def f_off_of : FD := { nm := "off_of", np := 2, N := ["one", "other"], kd := 0, body := b_off_of }
/-- 12: stepped at 19 -/
def b_stepped : Ss := (.cons (.asg (.pat (.nm 2)) (.ite (.bin .eq (.var 1) (.lit (.str [102]))) (.ix (.var 0) (.lit (.int 1))) (.lit (.int 0)))) (.cons (.ret (.call 10 (.cons (.bin .add (.ix (.var 0) (.lit (.int 0))) (.var 2)) (.cons (.bin .mul (.lit (.int 2)) (.ix (.var 0) (.lit (.int 1)))) .nil)))) .nil))
def f_stepped : FD := { nm := "stepped", np := 2, N := ["strength", "sign", "more"], kd := 0, body := b_stepped }
/-- 13: played at 20 -/
def b_played : Ss := (.cons (.for (.nm 2) (.var 1) (.cons (.asg (.pat (.nm 0)) (.call 12 (.cons (.var 0) (.cons (.var 2) .nil)))) (.cons (.fgt [2]) .nil))) (.cons (.ret (.var 0)) .nil))
def f_played : FD := { nm := "played", np := 2, N := ["strength", "word", "sign"], kd := 0, body := b_played }
/-- 14: is_less at 22 -/
def b_is_less : Ss := (.cons (.ret (.bin .lt (.bin .mul (.ix (.var 0) (.lit (.int 0))) (.ix (.var 1) (.lit (.int 1)))) (.bin .mul (.ix (.var 1) (.lit (.int 0))) (.ix (.var 0) (.lit (.int 1)))))) .nil)
def f_is_less : FD := { nm := "is_less", np := 2, N := ["one", "other"], kd := 0, body := b_is_less }
/-- 15: nearest at 25 -/
def b_nearest : Ss := (.cons (.expr (.call 7 (.cons (.var 0) (.cons (.var 1) .nil)))) (.cons (.expr (.call 8 (.cons (.var 2) .nil))) (.cons (.asg (.pat (.nm 3)) (.lit .non)) (.cons (.for (.nm 4) (.call 9 (.cons (.var 2) .nil)) (.cons (.asg (.pat (.nm 5)) (.call 11 (.cons (.call 13 (.cons (.var 0) (.cons (.var 4) .nil))) (.cons (.var 1) .nil)))) (.cons (.ite (.or (.bin .is (.var 3) (.lit .non)) (.call 14 (.cons (.var 5) (.cons (.ix (.var 3) (.lit (.int 0))) .nil)))) (.cons (.asg (.pat (.nm 3)) (.tup (.cons (.var 5) (.cons (.var 4) .nil)))) .nil) .nil) (.cons (.fgt [4, 5]) .nil)))) (.cons (.ret (.var 3)) .nil)))))
def f_nearest : FD := { nm := "nearest", np := 3, N := ["start", "goal", "steps", "best", "word", "off"], kd := 0, body := b_nearest }
/-- 16: _law_roll at 30 -/
def b_law_roll : Ss := (.cons (.ite (.bin .gt (.ix (.var 0) (.lit (.int 0))) (.lit (.int 0))) (.cons (.asg (.pat (.nm 2)) (.bin .mod (.bif .int1 (.cons (.ix (.var 0) (.lit (.int 0))) .nil)) (.var 1))) (.cons (.asg (.sub (.var 0) (.lit (.int 0))) (.bin .fdiv (.ix (.var 0) (.lit (.int 0))) (.var 1))) (.cons (.ret (.var 2)) .nil))) .nil) (.cons (.asg (.sub (.var 0) (.lit (.int 1))) (.bin .mod (.bif .int1 (.cons (.bin .add (.bin .mul (.ix (.var 0) (.lit (.int 1))) (.lit (.int 30911))) (.lit (.int 7901))) .nil)) (.lit (.int 2147483399)))) (.cons (.asg (.pat (.nm 3)) (.bin .mod (.bif .int1 (.cons (.bin .mul (.ix (.var 0) (.lit (.int 1))) (.bin .add (.ix (.var 0) (.lit (.int 1))) (.lit (.int 241)))) .nil)) (.lit (.int 2147483563)))) (.cons (.ret (.bin .mod (.bif .int1 (.cons (.bin .fdiv (.var 3) (.lit (.int 827))) .nil)) (.var 1))) .nil))))
def f_law_roll : FD := { nm := "_law_roll", np := 2, N := ["cup", "many", "found", "deep"], kd := 1, body := b_law_roll }
/-- 17: soonest at 27 -/
def b_soonest : Ss := (.cons (.expr (.call 7 (.cons (.var 0) (.cons (.var 1) .nil)))) (.cons (.ite (.not (.call 4 (.cons (.var 2) (.cons (.lit (.int 1)) (.cons (.con 2) .nil))))) (.cons .nev .nil) .nil) (.cons (.par [3, 4] (.cons (.lit (.int 0)) (.cons (.mkl false (.disp (.cons (.var 0) .nil))) .nil))) (.cons (.while (.bif .all (.cons (.mkl false (.comp [5] (.nm 5) (.var 4) .nil (.call 14 (.cons (.tup (.cons (.lit (.int 1)) (.cons (.var 2) .nil))) (.cons (.call 11 (.cons (.var 5) (.cons (.var 1) .nil))) .nil))))) .nil)) (.cons (.par [3, 4] (.cons (.bin .add (.var 3) (.lit (.int 1))) (.cons (.mkl false (.comp2 [5, 6] [6] (.nm 5) (.var 4) .nil (.nm 6) (.lit (.str [102, 119])) .nil (.call 12 (.cons (.var 5) (.cons (.var 6) .nil))))) .nil))) .nil)) (.cons (.ret (.var 3)) .nil)))))
def f_soonest : FD := { nm := "soonest", np := 3, N := ["start", "goal", "fine", "steps", "line", "one", "sign"], kd := 0, body := b_soonest }
/-- 18: _law_cut at 33 -/
def b_law_cut : Ss := (.cons (.par [2, 3] (.cons (.var 0) (.cons (.var 1) .nil))) (.cons (.for (.nm 4) (.rng (.cons (.lit (.int 200)) .nil)) (.cons (.ite (.bin .ne (.var 3) (.lit (.int 0))) (.cons (.par [2, 3] (.cons (.var 3) (.cons (.bin .mod (.bif .int1 (.cons (.var 2) .nil)) (.bif .int1 (.cons (.var 3) .nil))) .nil))) .nil) .nil) (.cons (.fgt [4]) .nil))) (.cons (.ret (.tup (.cons (.bin .fdiv (.var 0) (.var 2)) (.cons (.bin .fdiv (.var 1) (.var 2)) .nil)))) .nil)))
def f_law_cut : FD := { nm := "_law_cut", np := 2, N := ["number", "parts", "one", "two", "turn"], kd := 0, body := b_law_cut }
/-- 19: _law_some at 31 -/
def b_law_some : Ss := (.cons (.ret (.ix (.var 1) (.call 16 (.cons (.var 0) (.cons (.bif .len (.cons (.var 1) .nil)) .nil))))) .nil)
def f_law_some : FD := { nm := "_law_some", np := 2, N := ["cup", "things"], kd := 1, body := b_law_some }
/-- 20: _law_strength at 34 -/
def b_law_strength : Ss := (.cons (.asg (.pat (.nm 1)) (.bin .add (.lit (.int 1)) (.call 16 (.cons (.var 0) (.cons (.call 19 (.cons (.var 0) (.cons (.mkl false (.disp (.cons (.lit (.int 3)) (.cons (.lit (.int 16)) (.cons (.lit (.int 64)) .nil))))) .nil))) .nil))))) (.cons (.ret (.call 18 (.cons (.call 16 (.cons (.var 0) (.cons (.bin .add (.var 1) (.lit (.int 1))) .nil))) (.cons (.var 1) .nil)))) .nil))
def f_law_strength : FD := { nm := "_law_strength", np := 1, N := ["cup", "parts"], kd := 1, body := b_law_strength }
/-- 21: _law_off at 38 -/
def b_law_off : Ss := (.cons (.ret (.call 18 (.cons (.bif .abs (.cons (.bin .sub (.bin .mul (.ix (.var 0) (.lit (.int 0))) (.ix (.var 1) (.lit (.int 1)))) (.bin .mul (.ix (.var 1) (.lit (.int 0))) (.ix (.var 0) (.lit (.int 1))))) .nil)) (.cons (.bin .mul (.ix (.var 0) (.lit (.int 1))) (.ix (.var 1) (.lit (.int 1)))) .nil)))) .nil)
def f_law_off : FD := { nm := "_law_off", np := 2, N := ["one", "other"], kd := 0, body := b_law_off }
/-- 22: _law_step at 35 -/
def b_law_step : Ss := (.cons (.ret (.call 18 (.cons (.bin .add (.ix (.var 0) (.lit (.int 0))) (.ite (.bin .eq (.var 1) (.lit (.str [102]))) (.ix (.var 0) (.lit (.int 1))) (.lit (.int 0)))) (.cons (.bin .mul (.lit (.int 2)) (.ix (.var 0) (.lit (.int 1)))) .nil)))) .nil)
def f_law_step : FD := { nm := "_law_step", np := 2, N := ["strength", "sign"], kd := 0, body := b_law_step }
/-- 23: _law_after at 36 -/
def b_law_after : Ss := (.cons (.for (.nm 2) (.var 1) (.cons (.asg (.pat (.nm 0)) (.call 22 (.cons (.var 0) (.cons (.var 2) .nil)))) (.cons (.fgt [2]) .nil))) (.cons (.ret (.var 0)) .nil))
def f_law_after : FD := { nm := "_law_after", np := 2, N := ["strength", "word", "sign"], kd := 0, body := b_law_after }
/-- 24: fits_word at 15 -/
def b_fits_word : Ss := (.cons (.ret (.and (.isi (.var 0) .str) (.and (.bin .le (.bif .len (.cons (.var 0) .nil)) (.con 3)) (.bif .all (.cons (.mkl false (.comp [1] (.nm 1) (.var 0) .nil (.bin .mem (.var 1) (.lit (.str [102, 119]))))) .nil))))) .nil)
def f_fits_word : FD := { nm := "fits_word", np := 1, N := ["value", "sign"], kd := 0, body := b_fits_word }
/-- 25: need_word at 16 -/
def b_need_word : Ss := (.cons (.ite (.not (.call 24 (.cons (.var 0) .nil))) (.cons .nev .nil) .nil) .nil)
def f_need_word : FD := { nm := "need_word", np := 1, N := ["word"], kd := 0, body := b_need_word }
/-- 26: after at 24 -/
def b_after : Ss := (.cons (.expr (.call 6 (.cons (.var 0) .nil))) (.cons (.expr (.call 25 (.cons (.var 1) .nil))) (.cons (.ret (.call 13 (.cons (.var 0) (.cons (.var 1) .nil)))) .nil)))
def f_after : FD := { nm := "after", np := 2, N := ["start", "word"], kd := 0, body := b_after }
/-- 27: law at 39 -/
def b_law_l0 : Ss := (.cons (.asg (.pat (.nm 9)) (.call 21 (.cons (.call 23 (.cons (.var 3) (.cons (.var 8) .nil))) (.cons (.var 4) .nil)))) (.cons (.ite (.or (.bin .is (.var 7) (.lit .non)) (.bin .lt (.bin .mul (.ix (.var 9) (.lit (.int 0))) (.ix (.ix (.var 7) (.lit (.int 0))) (.lit (.int 1)))) (.bin .mul (.ix (.ix (.var 7) (.lit (.int 0))) (.lit (.int 0))) (.ix (.var 9) (.lit (.int 1)))))) (.cons (.asg (.pat (.nm 7)) (.tup (.cons (.var 9) (.cons (.var 8) .nil)))) .nil) .nil) (.cons (.fgt [8, 9]) .nil)))
def b_law_l1 : Ss := (.cons (.asg (.pat (.nm 13)) (.ite (.bin .eq (.var 11) (.mkl false (.disp .nil))) (.mkl false (.comp [8] (.nm 8) (.call 2 (.cons (.var 12) .nil)) .nil (.call 21 (.cons (.call 23 (.cons (.var 3) (.cons (.var 8) .nil))) (.cons (.var 4) .nil))))) (.mkl false (.disp .nil)))) (.cons (.asg (.pat (.nm 11)) (.bin .add (.var 11) (.ite (.bin .ne (.mkl false (.comp [9] (.nm 9) (.var 13) (.cons (.bin .le (.bin .mul (.ix (.var 9) (.lit (.int 0))) (.var 6)) (.ix (.var 9) (.lit (.int 1)))) .nil) (.var 9))) (.mkl false (.disp .nil))) (.mkl false (.disp (.cons (.var 12) .nil))) (.mkl false (.disp .nil))))) (.cons (.fgt [12, 13]) .nil)))
def b_law_l2 : Ss := (.cons (.par [3, 4, 5, 6] (.cons (.call 20 (.cons (.var 1) .nil)) (.cons (.call 20 (.cons (.var 1) .nil)) (.cons (.call 16 (.cons (.var 1) (.cons (.lit (.int 6)) .nil))) (.cons (.bin .add (.lit (.int 1)) (.call 16 (.cons (.var 1) (.cons (.call 19 (.cons (.var 1) (.cons (.mkl false (.disp (.cons (.lit (.int 5)) (.cons (.lit (.int 60)) .nil)))) .nil))) .nil)))) .nil))))) (.cons (.asg (.pat (.nm 7)) (.lit .non)) (.cons (.for (.nm 8) (.call 2 (.cons (.var 5) .nil)) b_law_l0) (.cons (.asg (.pat (.nm 10)) (.call 15 (.cons (.var 3) (.cons (.var 4) (.cons (.var 5) .nil))))) (.cons (.ite (.or (.not (.call 1 (.cons (.var 10) (.cons (.var 7) .nil)))) (.bin .ne (.call 21 (.cons (.call 26 (.cons (.var 3) (.cons (.ix (.var 10) (.lit (.int 1))) .nil))) (.cons (.var 4) .nil))) (.ix (.var 10) (.lit (.int 0))))) (.cons (.ret (.lit (.bl false))) .nil) .nil) (.cons (.ite (.bin .gt (.bin .mul (.ix (.ix (.var 10) (.lit (.int 0))) (.lit (.int 0))) (.bif .len (.cons (.call 2 (.cons (.var 5) .nil)) .nil))) (.ix (.ix (.var 10) (.lit (.int 0))) (.lit (.int 1)))) (.cons (.ret (.lit (.bl false))) .nil) .nil) (.cons (.asg (.pat (.nm 11)) (.mkl false (.disp .nil))) (.cons (.for (.nm 12) (.rng (.cons (.lit (.int 8)) .nil)) b_law_l1) (.cons (.ite (.not (.call 1 (.cons (.call 17 (.cons (.var 3) (.cons (.var 4) (.cons (.var 6) .nil)))) (.cons (.ix (.var 11) (.lit (.int 0))) .nil)))) (.cons (.ret (.lit (.bl false))) .nil) .nil) (.cons (.fgt [2, 3, 4, 5, 6, 7, 8, 9, 10, 11, 12, 13]) .nil))))))))))
def b_law_l3 : Ss := (.cons (.asg (.pat (.nm 14)) (.bin .mul (.var 14) (.lit (.int 2)))) (.cons (.fgt [2]) .nil))
def b_law : Ss := (.cons (.asg (.pat (.nm 1)) (.call 0 (.cons (.var 0) .nil))) (.cons (.for (.nm 2) (.rng (.cons (.lit (.int 3)) .nil)) b_law_l2) (.cons (.par [5, 14] (.cons (.call 16 (.cons (.var 1) (.cons (.lit (.int 9)) .nil))) (.cons (.lit (.int 1)) .nil))) (.cons (.for (.nm 2) (.rng (.cons (.var 5) .nil)) b_law_l3) (.cons (.asg (.pat (.nm 10)) (.tup (.cons (.call 15 (.cons (.tup (.cons (.lit (.int 0)) (.cons (.lit (.int 1)) .nil))) (.cons (.tup (.cons (.lit (.int 1)) (.cons (.lit (.int 1)) .nil))) (.cons (.var 5) .nil)))) (.cons (.call 15 (.cons (.tup (.cons (.lit (.int 0)) (.cons (.lit (.int 1)) .nil))) (.cons (.tup (.cons (.lit (.int 0)) (.cons (.lit (.int 1)) .nil))) (.cons (.var 5) .nil)))) (.cons (.call 17 (.cons (.tup (.cons (.lit (.int 0)) (.cons (.lit (.int 1)) .nil))) (.cons (.tup (.cons (.lit (.int 1)) (.cons (.lit (.int 1)) .nil))) (.cons (.var 14) .nil)))) (.cons (.call 17 (.cons (.tup (.cons (.lit (.int 1)) (.cons (.lit (.int 2)) .nil))) (.cons (.tup (.cons (.lit (.int 1)) (.cons (.lit (.int 2)) .nil))) (.cons (.lit (.int 1000)) .nil)))) .nil)))))) (.cons (.ret (.call 1 (.cons (.var 10) (.cons (.tup (.cons (.tup (.cons (.tup (.cons (.lit (.int 1)) (.cons (.var 14) .nil))) (.cons (.bin .mul (.lit (.str [102])) (.var 5)) .nil))) (.cons (.tup (.cons (.tup (.cons (.lit (.int 0)) (.cons (.lit (.int 1)) .nil))) (.cons (.bin .mul (.lit (.str [119])) (.var 5)) .nil))) (.cons (.var 5) (.cons (.lit (.int 0)) .nil))))) .nil)))) .nil))))))
def f_law : FD := { nm := "law", np := 1, N := ["script", "cup", "turn", "start", "goal", "steps", "fine", "best", "word", "off", "told", "good", "size", "offs", "whole"], kd := 0, body := b_law }
def T : Tb := { fds := [f_law_cup, f_law_same, f_law_words, f_is_tuple_of, f_is_whole, f_fits_strength, f_need_strength, f_need_both, f_need_steps, f_words_of, f_cut, f_off_of, f_stepped, f_played, f_is_less, f_nearest, f_law_roll, f_soonest, f_law_cut, f_law_some, f_law_strength, f_law_off, f_law_step, f_law_after, f_fits_word, f_need_word, f_after, f_law], cons := ["PARTS", "NEAR", "FINE", "WORD"], gcd := true }
theorem ck_law_cup : fdB T f_law_cup (topS 29) = true := by decide +kernel
theorem ck_law_same : fdB T f_law_same (topS 32) = true := by decide +kernel
theorem ck_law_words : fdB T f_law_words (topS 37) = true := by decide +kernel
theorem ck_is_tuple_of : fdB T f_is_tuple_of (topS 7) = true := by decide +kernel
theorem ck_is_whole : fdB T f_is_whole (topS 6) = true := by decide +kernel
theorem ck_fits_strength : fdB T f_fits_strength (topS 13) = true := by decide +kernel
theorem ck_need_strength : fdB T f_need_strength (topS 14) = true := by decide +kernel
theorem ck_need_both : fdB T f_need_both (topS 17) = true := by decide +kernel
theorem ck_need_steps : fdB T f_need_steps (topS 26) = true := by decide +kernel
theorem ck_words_of : fdB T f_words_of (topS 23) = true := by decide +kernel
theorem ck_cut : fdB T f_cut (topS 18) = true := by decide +kernel
theorem ck_off_of : fdB T f_off_of (topS 21) = true := by decide +kernel
theorem ck_stepped : fdB T f_stepped (topS 19) = true := by decide +kernel
theorem ck_played : fdB T f_played (topS 20) = true := by decide +kernel
theorem ck_is_less : fdB T f_is_less (topS 22) = true := by decide +kernel
theorem ck_nearest : fdB T f_nearest (topS 25) = true := by decide +kernel
theorem ck_law_roll : fdB T f_law_roll (topS 30) = true := by decide +kernel
theorem ck_soonest : fdB T f_soonest (topS 27) = true := by decide +kernel
theorem ck_law_cut : fdB T f_law_cut (topS 33) = true := by decide +kernel
theorem ck_law_some : fdB T f_law_some (topS 31) = true := by decide +kernel
theorem ck_law_strength : fdB T f_law_strength (topS 34) = true := by decide +kernel
theorem ck_law_off : fdB T f_law_off (topS 38) = true := by decide +kernel
theorem ck_law_step : fdB T f_law_step (topS 35) = true := by decide +kernel
theorem ck_law_after : fdB T f_law_after (topS 36) = true := by decide +kernel
theorem ck_fits_word : fdB T f_fits_word (topS 15) = true := by decide +kernel
theorem ck_need_word : fdB T f_need_word (topS 16) = true := by decide +kernel
theorem ck_after : fdB T f_after (topS 24) = true := by decide +kernel
theorem ck_law : fdB T f_law (topS 39) = true := by decide +kernel
theorem ph_law_cup (G : Nat → D) (N k : Nat) : phi T G N (k + 1) 0 = .new (runN (phi T G N k) G N f_law_cup) := rfl
theorem ph_law_same (G : Nat → D) (N k : Nat) : phi T G N (k + 1) 1 = .pure (runP (phi T G N k) G N f_law_same) := rfl
theorem ph_law_words (G : Nat → D) (N k : Nat) : phi T G N (k + 1) 2 = .pure (runP (phi T G N k) G N f_law_words) := rfl
theorem ph_is_tuple_of (G : Nat → D) (N k : Nat) : phi T G N (k + 1) 3 = .pure (runP (phi T G N k) G N f_is_tuple_of) := rfl
theorem ph_is_whole (G : Nat → D) (N k : Nat) : phi T G N (k + 1) 4 = .pure (runP (phi T G N k) G N f_is_whole) := rfl
theorem ph_fits_strength (G : Nat → D) (N k : Nat) : phi T G N (k + 1) 5 = .pure (runP (phi T G N k) G N f_fits_strength) := rfl
theorem ph_need_strength (G : Nat → D) (N k : Nat) : phi T G N (k + 1) 6 = .pure (runP (phi T G N k) G N f_need_strength) := rfl
theorem ph_need_both (G : Nat → D) (N k : Nat) : phi T G N (k + 1) 7 = .pure (runP (phi T G N k) G N f_need_both) := rfl
theorem ph_need_steps (G : Nat → D) (N k : Nat) : phi T G N (k + 1) 8 = .pure (runP (phi T G N k) G N f_need_steps) := rfl
theorem ph_words_of (G : Nat → D) (N k : Nat) : phi T G N (k + 1) 9 = .pure (runP (phi T G N k) G N f_words_of) := rfl
theorem ph_cut (G : Nat → D) (N k : Nat) : phi T G N (k + 1) 10 = .pure (runP (phi T G N k) G N f_cut) := rfl
theorem ph_off_of (G : Nat → D) (N k : Nat) : phi T G N (k + 1) 11 = .pure (runP (phi T G N k) G N f_off_of) := rfl
theorem ph_stepped (G : Nat → D) (N k : Nat) : phi T G N (k + 1) 12 = .pure (runP (phi T G N k) G N f_stepped) := rfl
theorem ph_played (G : Nat → D) (N k : Nat) : phi T G N (k + 1) 13 = .pure (runP (phi T G N k) G N f_played) := rfl
theorem ph_is_less (G : Nat → D) (N k : Nat) : phi T G N (k + 1) 14 = .pure (runP (phi T G N k) G N f_is_less) := rfl
theorem ph_nearest (G : Nat → D) (N k : Nat) : phi T G N (k + 1) 15 = .pure (runP (phi T G N k) G N f_nearest) := rfl
theorem ph_law_roll (G : Nat → D) (N k : Nat) : phi T G N (k + 1) 16 = .cell (runC (phi T G N k) G N f_law_roll) := rfl
theorem ph_soonest (G : Nat → D) (N k : Nat) : phi T G N (k + 1) 17 = .pure (runP (phi T G N k) G N f_soonest) := rfl
theorem ph_law_cut (G : Nat → D) (N k : Nat) : phi T G N (k + 1) 18 = .pure (runP (phi T G N k) G N f_law_cut) := rfl
theorem ph_law_some (G : Nat → D) (N k : Nat) : phi T G N (k + 1) 19 = .cell (runC (phi T G N k) G N f_law_some) := rfl
theorem ph_law_strength (G : Nat → D) (N k : Nat) : phi T G N (k + 1) 20 = .cell (runC (phi T G N k) G N f_law_strength) := rfl
theorem ph_law_off (G : Nat → D) (N k : Nat) : phi T G N (k + 1) 21 = .pure (runP (phi T G N k) G N f_law_off) := rfl
theorem ph_law_step (G : Nat → D) (N k : Nat) : phi T G N (k + 1) 22 = .pure (runP (phi T G N k) G N f_law_step) := rfl
theorem ph_law_after (G : Nat → D) (N k : Nat) : phi T G N (k + 1) 23 = .pure (runP (phi T G N k) G N f_law_after) := rfl
theorem ph_fits_word (G : Nat → D) (N k : Nat) : phi T G N (k + 1) 24 = .pure (runP (phi T G N k) G N f_fits_word) := rfl
theorem ph_need_word (G : Nat → D) (N k : Nat) : phi T G N (k + 1) 25 = .pure (runP (phi T G N k) G N f_need_word) := rfl
theorem ph_after (G : Nat → D) (N k : Nat) : phi T G N (k + 1) 26 = .pure (runP (phi T G N k) G N f_after) := rfl
theorem ph_law (G : Nat → D) (N k : Nat) : phi T G N (k + 1) 27 = .pure (runP (phi T G N k) G N f_law) := rfl
/-! the top -/
theorem fnsIn {K : PySem.W.Frag} {h : Heap} {mg : Str → Option Value} (X : K.In h) (G : h.Ns mainGlobals mg) {f0 : Addr} {od0 an0 : Option Addr} {sl0 : Array (Option Value)} {oc0 kV0 dc0 pm0 cd0 ct0 : Value} {f1 : Addr} {od1 an1 : Option Addr} {sl1 : Array (Option Value)} {oc1 kV1 dc1 pm1 cd1 ct1 : Value} {f2 : Addr} {od2 an2 : Option Addr} {sl2 : Array (Option Value)} {oc2 kV2 dc2 pm2 cd2 ct2 : Value} {f3 : Addr} {od3 an3 : Option Addr} {sl3 : Array (Option Value)} {oc3 kV3 dc3 pm3 cd3 ct3 : Value} {f4 : Addr} {od4 an4 : Option Addr} {sl4 : Array (Option Value)} {oc4 kV4 dc4 pm4 cd4 ct4 : Value} {f5 : Addr} {od5 an5 : Option Addr} {sl5 : Array (Option Value)} {oc5 kV5 dc5 pm5 cd5 ct5 : Value} {f6 : Addr} {od6 an6 : Option Addr} {sl6 : Array (Option Value)} {oc6 kV6 dc6 pm6 cd6 ct6 : Value} {f7 : Addr} {od7 an7 : Option Addr} {sl7 : Array (Option Value)} {oc7 kV7 dc7 pm7 cd7 ct7 : Value} {f8 : Addr} {od8 an8 : Option Addr} {sl8 : Array (Option Value)} {oc8 kV8 dc8 pm8 cd8 ct8 : Value} {f9 : Addr} {od9 an9 : Option Addr} {sl9 : Array (Option Value)} {oc9 kV9 dc9 pm9 cd9 ct9 : Value} {f10 : Addr} {od10 an10 : Option Addr} {sl10 : Array (Option Value)} {oc10 kV10 dc10 pm10 cd10 ct10 : Value} {f11 : Addr} {od11 an11 : Option Addr} {sl11 : Array (Option Value)} {oc11 kV11 dc11 pm11 cd11 ct11 : Value} {f12 : Addr} {od12 an12 : Option Addr} {sl12 : Array (Option Value)} {oc12 kV12 dc12 pm12 cd12 ct12 : Value} {f13 : Addr} {od13 an13 : Option Addr} {sl13 : Array (Option Value)} {oc13 kV13 dc13 pm13 cd13 ct13 : Value} {f14 : Addr} {od14 an14 : Option Addr} {sl14 : Array (Option Value)} {oc14 kV14 dc14 pm14 cd14 ct14 : Value} {f15 : Addr} {od15 an15 : Option Addr} {sl15 : Array (Option Value)} {oc15 kV15 dc15 pm15 cd15 ct15 : Value} {f16 : Addr} {od16 an16 : Option Addr} {sl16 : Array (Option Value)} {oc16 kV16 dc16 pm16 cd16 ct16 : Value} {f17 : Addr} {od17 an17 : Option Addr} {sl17 : Array (Option Value)} {oc17 kV17 dc17 pm17 cd17 ct17 : Value} {f18 : Addr} {od18 an18 : Option Addr} {sl18 : Array (Option Value)} {oc18 kV18 dc18 pm18 cd18 ct18 : Value} {f19 : Addr} {od19 an19 : Option Addr} {sl19 : Array (Option Value)} {oc19 kV19 dc19 pm19 cd19 ct19 : Value} {f20 : Addr} {od20 an20 : Option Addr} {sl20 : Array (Option Value)} {oc20 kV20 dc20 pm20 cd20 ct20 : Value} {f21 : Addr} {od21 an21 : Option Addr} {sl21 : Array (Option Value)} {oc21 kV21 dc21 pm21 cd21 ct21 : Value} {f22 : Addr} {od22 an22 : Option Addr} {sl22 : Array (Option Value)} {oc22 kV22 dc22 pm22 cd22 ct22 : Value} {f23 : Addr} {od23 an23 : Option Addr} {sl23 : Array (Option Value)} {oc23 kV23 dc23 pm23 cd23 ct23 : Value} {f24 : Addr} {od24 an24 : Option Addr} {sl24 : Array (Option Value)} {oc24 kV24 dc24 pm24 cd24 ct24 : Value} {f25 : Addr} {od25 an25 : Option Addr} {sl25 : Array (Option Value)} {oc25 kV25 dc25 pm25 cd25 ct25 : Value} {f26 : Addr} {od26 an26 : Option Addr} {sl26 : Array (Option Value)} {oc26 kV26 dc26 pm26 cd26 ct26 : Value} {f27 : Addr} {od27 an27 : Option Addr} {sl27 : Array (Option Value)} {oc27 kV27 dc27 pm27 cd27 ct27 : Value}
    (a0 : PySem.W.nsIn K mainGlobals "_law_cup" = some (some (.ref f0))) (l0 : K.lookup f0 = some ⟨oc0, od0, .func (PySem.W.fnOf "_law_cup" "_law_cup" (defArgs (topS 29)) (defBody (topS 29)) (defScope (topS 29)) .none kV0 dc0 pm0 an0 cd0 ct0), sl0⟩) (c0 : PySem.W.codeIn K cd0 "_law_cup" = true) (k0 : PySem.W.keepIn K (.ref f0) = true)
    (a1 : PySem.W.nsIn K mainGlobals "_law_same" = some (some (.ref f1))) (l1 : K.lookup f1 = some ⟨oc1, od1, .func (PySem.W.fnOf "_law_same" "_law_same" (defArgs (topS 32)) (defBody (topS 32)) (defScope (topS 32)) .none kV1 dc1 pm1 an1 cd1 ct1), sl1⟩) (c1 : PySem.W.codeIn K cd1 "_law_same" = true) (k1 : PySem.W.keepIn K (.ref f1) = true)
    (a2 : PySem.W.nsIn K mainGlobals "_law_words" = some (some (.ref f2))) (l2 : K.lookup f2 = some ⟨oc2, od2, .func (PySem.W.fnOf "_law_words" "_law_words" (defArgs (topS 37)) (defBody (topS 37)) (defScope (topS 37)) .none kV2 dc2 pm2 an2 cd2 ct2), sl2⟩) (c2 : PySem.W.codeIn K cd2 "_law_words" = true) (k2 : PySem.W.keepIn K (.ref f2) = true)
    (a3 : PySem.W.nsIn K mainGlobals "is_tuple_of" = some (some (.ref f3))) (l3 : K.lookup f3 = some ⟨oc3, od3, .func (PySem.W.fnOf "is_tuple_of" "is_tuple_of" (defArgs (topS 7)) (defBody (topS 7)) (defScope (topS 7)) .none kV3 dc3 pm3 an3 cd3 ct3), sl3⟩) (c3 : PySem.W.codeIn K cd3 "is_tuple_of" = true) (k3 : PySem.W.keepIn K (.ref f3) = true)
    (a4 : PySem.W.nsIn K mainGlobals "is_whole" = some (some (.ref f4))) (l4 : K.lookup f4 = some ⟨oc4, od4, .func (PySem.W.fnOf "is_whole" "is_whole" (defArgs (topS 6)) (defBody (topS 6)) (defScope (topS 6)) .none kV4 dc4 pm4 an4 cd4 ct4), sl4⟩) (c4 : PySem.W.codeIn K cd4 "is_whole" = true) (k4 : PySem.W.keepIn K (.ref f4) = true)
    (a5 : PySem.W.nsIn K mainGlobals "fits_strength" = some (some (.ref f5))) (l5 : K.lookup f5 = some ⟨oc5, od5, .func (PySem.W.fnOf "fits_strength" "fits_strength" (defArgs (topS 13)) (defBody (topS 13)) (defScope (topS 13)) .none kV5 dc5 pm5 an5 cd5 ct5), sl5⟩) (c5 : PySem.W.codeIn K cd5 "fits_strength" = true) (k5 : PySem.W.keepIn K (.ref f5) = true)
    (a6 : PySem.W.nsIn K mainGlobals "need_strength" = some (some (.ref f6))) (l6 : K.lookup f6 = some ⟨oc6, od6, .func (PySem.W.fnOf "need_strength" "need_strength" (defArgs (topS 14)) (defBody (topS 14)) (defScope (topS 14)) .none kV6 dc6 pm6 an6 cd6 ct6), sl6⟩) (c6 : PySem.W.codeIn K cd6 "need_strength" = true) (k6 : PySem.W.keepIn K (.ref f6) = true)
    (a7 : PySem.W.nsIn K mainGlobals "need_both" = some (some (.ref f7))) (l7 : K.lookup f7 = some ⟨oc7, od7, .func (PySem.W.fnOf "need_both" "need_both" (defArgs (topS 17)) (defBody (topS 17)) (defScope (topS 17)) .none kV7 dc7 pm7 an7 cd7 ct7), sl7⟩) (c7 : PySem.W.codeIn K cd7 "need_both" = true) (k7 : PySem.W.keepIn K (.ref f7) = true)
    (a8 : PySem.W.nsIn K mainGlobals "need_steps" = some (some (.ref f8))) (l8 : K.lookup f8 = some ⟨oc8, od8, .func (PySem.W.fnOf "need_steps" "need_steps" (defArgs (topS 26)) (defBody (topS 26)) (defScope (topS 26)) .none kV8 dc8 pm8 an8 cd8 ct8), sl8⟩) (c8 : PySem.W.codeIn K cd8 "need_steps" = true) (k8 : PySem.W.keepIn K (.ref f8) = true)
    (a9 : PySem.W.nsIn K mainGlobals "words_of" = some (some (.ref f9))) (l9 : K.lookup f9 = some ⟨oc9, od9, .func (PySem.W.fnOf "words_of" "words_of" (defArgs (topS 23)) (defBody (topS 23)) (defScope (topS 23)) .none kV9 dc9 pm9 an9 cd9 ct9), sl9⟩) (c9 : PySem.W.codeIn K cd9 "words_of" = true) (k9 : PySem.W.keepIn K (.ref f9) = true)
    (a10 : PySem.W.nsIn K mainGlobals "cut" = some (some (.ref f10))) (l10 : K.lookup f10 = some ⟨oc10, od10, .func (PySem.W.fnOf "cut" "cut" (defArgs (topS 18)) (defBody (topS 18)) (defScope (topS 18)) .none kV10 dc10 pm10 an10 cd10 ct10), sl10⟩) (c10 : PySem.W.codeIn K cd10 "cut" = true) (k10 : PySem.W.keepIn K (.ref f10) = true)
    (a11 : PySem.W.nsIn K mainGlobals "off_of" = some (some (.ref f11))) (l11 : K.lookup f11 = some ⟨oc11, od11, .func (PySem.W.fnOf "off_of" "off_of" (defArgs (topS 21)) (defBody (topS 21)) (defScope (topS 21)) .none kV11 dc11 pm11 an11 cd11 ct11), sl11⟩) (c11 : PySem.W.codeIn K cd11 "off_of" = true) (k11 : PySem.W.keepIn K (.ref f11) = true)
    (a12 : PySem.W.nsIn K mainGlobals "stepped" = some (some (.ref f12))) (l12 : K.lookup f12 = some ⟨oc12, od12, .func (PySem.W.fnOf "stepped" "stepped" (defArgs (topS 19)) (defBody (topS 19)) (defScope (topS 19)) .none kV12 dc12 pm12 an12 cd12 ct12), sl12⟩) (c12 : PySem.W.codeIn K cd12 "stepped" = true) (k12 : PySem.W.keepIn K (.ref f12) = true)
    (a13 : PySem.W.nsIn K mainGlobals "played" = some (some (.ref f13))) (l13 : K.lookup f13 = some ⟨oc13, od13, .func (PySem.W.fnOf "played" "played" (defArgs (topS 20)) (defBody (topS 20)) (defScope (topS 20)) .none kV13 dc13 pm13 an13 cd13 ct13), sl13⟩) (c13 : PySem.W.codeIn K cd13 "played" = true) (k13 : PySem.W.keepIn K (.ref f13) = true)
    (a14 : PySem.W.nsIn K mainGlobals "is_less" = some (some (.ref f14))) (l14 : K.lookup f14 = some ⟨oc14, od14, .func (PySem.W.fnOf "is_less" "is_less" (defArgs (topS 22)) (defBody (topS 22)) (defScope (topS 22)) .none kV14 dc14 pm14 an14 cd14 ct14), sl14⟩) (c14 : PySem.W.codeIn K cd14 "is_less" = true) (k14 : PySem.W.keepIn K (.ref f14) = true)
    (a15 : PySem.W.nsIn K mainGlobals "nearest" = some (some (.ref f15))) (l15 : K.lookup f15 = some ⟨oc15, od15, .func (PySem.W.fnOf "nearest" "nearest" (defArgs (topS 25)) (defBody (topS 25)) (defScope (topS 25)) .none kV15 dc15 pm15 an15 cd15 ct15), sl15⟩) (c15 : PySem.W.codeIn K cd15 "nearest" = true) (k15 : PySem.W.keepIn K (.ref f15) = true)
    (a16 : PySem.W.nsIn K mainGlobals "_law_roll" = some (some (.ref f16))) (l16 : K.lookup f16 = some ⟨oc16, od16, .func (PySem.W.fnOf "_law_roll" "_law_roll" (defArgs (topS 30)) (defBody (topS 30)) (defScope (topS 30)) .none kV16 dc16 pm16 an16 cd16 ct16), sl16⟩) (c16 : PySem.W.codeIn K cd16 "_law_roll" = true) (k16 : PySem.W.keepIn K (.ref f16) = true)
    (a17 : PySem.W.nsIn K mainGlobals "soonest" = some (some (.ref f17))) (l17 : K.lookup f17 = some ⟨oc17, od17, .func (PySem.W.fnOf "soonest" "soonest" (defArgs (topS 27)) (defBody (topS 27)) (defScope (topS 27)) .none kV17 dc17 pm17 an17 cd17 ct17), sl17⟩) (c17 : PySem.W.codeIn K cd17 "soonest" = true) (k17 : PySem.W.keepIn K (.ref f17) = true)
    (a18 : PySem.W.nsIn K mainGlobals "_law_cut" = some (some (.ref f18))) (l18 : K.lookup f18 = some ⟨oc18, od18, .func (PySem.W.fnOf "_law_cut" "_law_cut" (defArgs (topS 33)) (defBody (topS 33)) (defScope (topS 33)) .none kV18 dc18 pm18 an18 cd18 ct18), sl18⟩) (c18 : PySem.W.codeIn K cd18 "_law_cut" = true) (k18 : PySem.W.keepIn K (.ref f18) = true)
    (a19 : PySem.W.nsIn K mainGlobals "_law_some" = some (some (.ref f19))) (l19 : K.lookup f19 = some ⟨oc19, od19, .func (PySem.W.fnOf "_law_some" "_law_some" (defArgs (topS 31)) (defBody (topS 31)) (defScope (topS 31)) .none kV19 dc19 pm19 an19 cd19 ct19), sl19⟩) (c19 : PySem.W.codeIn K cd19 "_law_some" = true) (k19 : PySem.W.keepIn K (.ref f19) = true)
    (a20 : PySem.W.nsIn K mainGlobals "_law_strength" = some (some (.ref f20))) (l20 : K.lookup f20 = some ⟨oc20, od20, .func (PySem.W.fnOf "_law_strength" "_law_strength" (defArgs (topS 34)) (defBody (topS 34)) (defScope (topS 34)) .none kV20 dc20 pm20 an20 cd20 ct20), sl20⟩) (c20 : PySem.W.codeIn K cd20 "_law_strength" = true) (k20 : PySem.W.keepIn K (.ref f20) = true)
    (a21 : PySem.W.nsIn K mainGlobals "_law_off" = some (some (.ref f21))) (l21 : K.lookup f21 = some ⟨oc21, od21, .func (PySem.W.fnOf "_law_off" "_law_off" (defArgs (topS 38)) (defBody (topS 38)) (defScope (topS 38)) .none kV21 dc21 pm21 an21 cd21 ct21), sl21⟩) (c21 : PySem.W.codeIn K cd21 "_law_off" = true) (k21 : PySem.W.keepIn K (.ref f21) = true)
    (a22 : PySem.W.nsIn K mainGlobals "_law_step" = some (some (.ref f22))) (l22 : K.lookup f22 = some ⟨oc22, od22, .func (PySem.W.fnOf "_law_step" "_law_step" (defArgs (topS 35)) (defBody (topS 35)) (defScope (topS 35)) .none kV22 dc22 pm22 an22 cd22 ct22), sl22⟩) (c22 : PySem.W.codeIn K cd22 "_law_step" = true) (k22 : PySem.W.keepIn K (.ref f22) = true)
    (a23 : PySem.W.nsIn K mainGlobals "_law_after" = some (some (.ref f23))) (l23 : K.lookup f23 = some ⟨oc23, od23, .func (PySem.W.fnOf "_law_after" "_law_after" (defArgs (topS 36)) (defBody (topS 36)) (defScope (topS 36)) .none kV23 dc23 pm23 an23 cd23 ct23), sl23⟩) (c23 : PySem.W.codeIn K cd23 "_law_after" = true) (k23 : PySem.W.keepIn K (.ref f23) = true)
    (a24 : PySem.W.nsIn K mainGlobals "fits_word" = some (some (.ref f24))) (l24 : K.lookup f24 = some ⟨oc24, od24, .func (PySem.W.fnOf "fits_word" "fits_word" (defArgs (topS 15)) (defBody (topS 15)) (defScope (topS 15)) .none kV24 dc24 pm24 an24 cd24 ct24), sl24⟩) (c24 : PySem.W.codeIn K cd24 "fits_word" = true) (k24 : PySem.W.keepIn K (.ref f24) = true)
    (a25 : PySem.W.nsIn K mainGlobals "need_word" = some (some (.ref f25))) (l25 : K.lookup f25 = some ⟨oc25, od25, .func (PySem.W.fnOf "need_word" "need_word" (defArgs (topS 16)) (defBody (topS 16)) (defScope (topS 16)) .none kV25 dc25 pm25 an25 cd25 ct25), sl25⟩) (c25 : PySem.W.codeIn K cd25 "need_word" = true) (k25 : PySem.W.keepIn K (.ref f25) = true)
    (a26 : PySem.W.nsIn K mainGlobals "after" = some (some (.ref f26))) (l26 : K.lookup f26 = some ⟨oc26, od26, .func (PySem.W.fnOf "after" "after" (defArgs (topS 24)) (defBody (topS 24)) (defScope (topS 24)) .none kV26 dc26 pm26 an26 cd26 ct26), sl26⟩) (c26 : PySem.W.codeIn K cd26 "after" = true) (k26 : PySem.W.keepIn K (.ref f26) = true)
    (a27 : PySem.W.nsIn K mainGlobals "law" = some (some (.ref f27))) (l27 : K.lookup f27 = some ⟨oc27, od27, .func (PySem.W.fnOf "law" "law" (defArgs (topS 39)) (defBody (topS 39)) (defScope (topS 39)) .none kV27 dc27 pm27 an27 cd27 ct27), sl27⟩) (c27 : PySem.W.codeIn K cd27 "law" = true) (k27 : PySem.W.keepIn K (.ref f27) = true) : ∀ fd ∈ T.fds, FnIn T K mg fd := by
  intro fd hf
  simp only [T, List.mem_cons, List.not_mem_nil, or_false] at hf
  rcases hf with rfl | rfl | rfl | rfl | rfl | rfl | rfl | rfl | rfl | rfl | rfl | rfl | rfl | rfl | rfl | rfl | rfl | rfl | rfl | rfl | rfl | rfl | rfl | rfl | rfl | rfl | rfl | rfl
  · exact fnIn_mk (fd := f_law_cup) X G a0 l0 c0 k0 (fun _ _ _ _ _ _ us hl => match us, hl with | [_], _ => rfl) ck_law_cup
  · exact fnIn_mk (fd := f_law_same) X G a1 l1 c1 k1 (fun _ _ _ _ _ _ us hl => match us, hl with | [_, _], _ => rfl) ck_law_same
  · exact fnIn_mk (fd := f_law_words) X G a2 l2 c2 k2 (fun _ _ _ _ _ _ us hl => match us, hl with | [_], _ => rfl) ck_law_words
  · exact fnIn_mk (fd := f_is_tuple_of) X G a3 l3 c3 k3 (fun _ _ _ _ _ _ us hl => match us, hl with | [_, _, _], _ => rfl) ck_is_tuple_of
  · exact fnIn_mk (fd := f_is_whole) X G a4 l4 c4 k4 (fun _ _ _ _ _ _ us hl => match us, hl with | [_, _, _], _ => rfl) ck_is_whole
  · exact fnIn_mk (fd := f_fits_strength) X G a5 l5 c5 k5 (fun _ _ _ _ _ _ us hl => match us, hl with | [_], _ => rfl) ck_fits_strength
  · exact fnIn_mk (fd := f_need_strength) X G a6 l6 c6 k6 (fun _ _ _ _ _ _ us hl => match us, hl with | [_], _ => rfl) ck_need_strength
  · exact fnIn_mk (fd := f_need_both) X G a7 l7 c7 k7 (fun _ _ _ _ _ _ us hl => match us, hl with | [_, _], _ => rfl) ck_need_both
  · exact fnIn_mk (fd := f_need_steps) X G a8 l8 c8 k8 (fun _ _ _ _ _ _ us hl => match us, hl with | [_], _ => rfl) ck_need_steps
  · exact fnIn_mk (fd := f_words_of) X G a9 l9 c9 k9 (fun _ _ _ _ _ _ us hl => match us, hl with | [_], _ => rfl) ck_words_of
  · exact fnIn_mk (fd := f_cut) X G a10 l10 c10 k10 (fun _ _ _ _ _ _ us hl => match us, hl with | [_, _], _ => rfl) ck_cut
  · exact fnIn_mk (fd := f_off_of) X G a11 l11 c11 k11 (fun _ _ _ _ _ _ us hl => match us, hl with | [_, _], _ => rfl) ck_off_of
  · exact fnIn_mk (fd := f_stepped) X G a12 l12 c12 k12 (fun _ _ _ _ _ _ us hl => match us, hl with | [_, _], _ => rfl) ck_stepped
  · exact fnIn_mk (fd := f_played) X G a13 l13 c13 k13 (fun _ _ _ _ _ _ us hl => match us, hl with | [_, _], _ => rfl) ck_played
  · exact fnIn_mk (fd := f_is_less) X G a14 l14 c14 k14 (fun _ _ _ _ _ _ us hl => match us, hl with | [_, _], _ => rfl) ck_is_less
  · exact fnIn_mk (fd := f_nearest) X G a15 l15 c15 k15 (fun _ _ _ _ _ _ us hl => match us, hl with | [_, _, _], _ => rfl) ck_nearest
  · exact fnIn_mk (fd := f_law_roll) X G a16 l16 c16 k16 (fun _ _ _ _ _ _ us hl => match us, hl with | [_, _], _ => rfl) ck_law_roll
  · exact fnIn_mk (fd := f_soonest) X G a17 l17 c17 k17 (fun _ _ _ _ _ _ us hl => match us, hl with | [_, _, _], _ => rfl) ck_soonest
  · exact fnIn_mk (fd := f_law_cut) X G a18 l18 c18 k18 (fun _ _ _ _ _ _ us hl => match us, hl with | [_, _], _ => rfl) ck_law_cut
  · exact fnIn_mk (fd := f_law_some) X G a19 l19 c19 k19 (fun _ _ _ _ _ _ us hl => match us, hl with | [_, _], _ => rfl) ck_law_some
  · exact fnIn_mk (fd := f_law_strength) X G a20 l20 c20 k20 (fun _ _ _ _ _ _ us hl => match us, hl with | [_], _ => rfl) ck_law_strength
  · exact fnIn_mk (fd := f_law_off) X G a21 l21 c21 k21 (fun _ _ _ _ _ _ us hl => match us, hl with | [_, _], _ => rfl) ck_law_off
  · exact fnIn_mk (fd := f_law_step) X G a22 l22 c22 k22 (fun _ _ _ _ _ _ us hl => match us, hl with | [_, _], _ => rfl) ck_law_step
  · exact fnIn_mk (fd := f_law_after) X G a23 l23 c23 k23 (fun _ _ _ _ _ _ us hl => match us, hl with | [_, _], _ => rfl) ck_law_after
  · exact fnIn_mk (fd := f_fits_word) X G a24 l24 c24 k24 (fun _ _ _ _ _ _ us hl => match us, hl with | [_], _ => rfl) ck_fits_word
  · exact fnIn_mk (fd := f_need_word) X G a25 l25 c25 k25 (fun _ _ _ _ _ _ us hl => match us, hl with | [_], _ => rfl) ck_need_word
  · exact fnIn_mk (fd := f_after) X G a26 l26 c26 k26 (fun _ _ _ _ _ _ us hl => match us, hl with | [_, _], _ => rfl) ck_after
  · exact fnIn_mk (fd := f_law) X G a27 l27 c27 k27 (fun _ _ _ _ _ _ us hl => match us, hl with | [_], _ => rfl) ck_law
def G : Nat → D := fun g => match g with | 0 => .int 64 | 1 => .int 8 | 2 => .int 1000 | 3 => .int 16 | _ => .non
theorem all_mk {l : PySem.W.OpenLaw} {w : World} {K : PySem.W.Frag} {h : Heap} {mg : Str → Option Value} {fa : Addr} (X : K.In h) (Gn : h.Ns mainGlobals mg) (hfa : mg "law" = some (.ref fa)) {f0 : Addr} {od0 an0 : Option Addr} {sl0 : Array (Option Value)} {oc0 kV0 dc0 pm0 cd0 ct0 : Value} {f1 : Addr} {od1 an1 : Option Addr} {sl1 : Array (Option Value)} {oc1 kV1 dc1 pm1 cd1 ct1 : Value} {f2 : Addr} {od2 an2 : Option Addr} {sl2 : Array (Option Value)} {oc2 kV2 dc2 pm2 cd2 ct2 : Value} {f3 : Addr} {od3 an3 : Option Addr} {sl3 : Array (Option Value)} {oc3 kV3 dc3 pm3 cd3 ct3 : Value} {f4 : Addr} {od4 an4 : Option Addr} {sl4 : Array (Option Value)} {oc4 kV4 dc4 pm4 cd4 ct4 : Value} {f5 : Addr} {od5 an5 : Option Addr} {sl5 : Array (Option Value)} {oc5 kV5 dc5 pm5 cd5 ct5 : Value} {f6 : Addr} {od6 an6 : Option Addr} {sl6 : Array (Option Value)} {oc6 kV6 dc6 pm6 cd6 ct6 : Value} {f7 : Addr} {od7 an7 : Option Addr} {sl7 : Array (Option Value)} {oc7 kV7 dc7 pm7 cd7 ct7 : Value} {f8 : Addr} {od8 an8 : Option Addr} {sl8 : Array (Option Value)} {oc8 kV8 dc8 pm8 cd8 ct8 : Value} {f9 : Addr} {od9 an9 : Option Addr} {sl9 : Array (Option Value)} {oc9 kV9 dc9 pm9 cd9 ct9 : Value} {f10 : Addr} {od10 an10 : Option Addr} {sl10 : Array (Option Value)} {oc10 kV10 dc10 pm10 cd10 ct10 : Value} {f11 : Addr} {od11 an11 : Option Addr} {sl11 : Array (Option Value)} {oc11 kV11 dc11 pm11 cd11 ct11 : Value} {f12 : Addr} {od12 an12 : Option Addr} {sl12 : Array (Option Value)} {oc12 kV12 dc12 pm12 cd12 ct12 : Value} {f13 : Addr} {od13 an13 : Option Addr} {sl13 : Array (Option Value)} {oc13 kV13 dc13 pm13 cd13 ct13 : Value} {f14 : Addr} {od14 an14 : Option Addr} {sl14 : Array (Option Value)} {oc14 kV14 dc14 pm14 cd14 ct14 : Value} {f15 : Addr} {od15 an15 : Option Addr} {sl15 : Array (Option Value)} {oc15 kV15 dc15 pm15 cd15 ct15 : Value} {f16 : Addr} {od16 an16 : Option Addr} {sl16 : Array (Option Value)} {oc16 kV16 dc16 pm16 cd16 ct16 : Value} {f17 : Addr} {od17 an17 : Option Addr} {sl17 : Array (Option Value)} {oc17 kV17 dc17 pm17 cd17 ct17 : Value} {f18 : Addr} {od18 an18 : Option Addr} {sl18 : Array (Option Value)} {oc18 kV18 dc18 pm18 cd18 ct18 : Value} {f19 : Addr} {od19 an19 : Option Addr} {sl19 : Array (Option Value)} {oc19 kV19 dc19 pm19 cd19 ct19 : Value} {f20 : Addr} {od20 an20 : Option Addr} {sl20 : Array (Option Value)} {oc20 kV20 dc20 pm20 cd20 ct20 : Value} {f21 : Addr} {od21 an21 : Option Addr} {sl21 : Array (Option Value)} {oc21 kV21 dc21 pm21 cd21 ct21 : Value} {f22 : Addr} {od22 an22 : Option Addr} {sl22 : Array (Option Value)} {oc22 kV22 dc22 pm22 cd22 ct22 : Value} {f23 : Addr} {od23 an23 : Option Addr} {sl23 : Array (Option Value)} {oc23 kV23 dc23 pm23 cd23 ct23 : Value} {f24 : Addr} {od24 an24 : Option Addr} {sl24 : Array (Option Value)} {oc24 kV24 dc24 pm24 cd24 ct24 : Value} {f25 : Addr} {od25 an25 : Option Addr} {sl25 : Array (Option Value)} {oc25 kV25 dc25 pm25 cd25 ct25 : Value} {f26 : Addr} {od26 an26 : Option Addr} {sl26 : Array (Option Value)} {oc26 kV26 dc26 pm26 cd26 ct26 : Value} {f27 : Addr} {od27 an27 : Option Addr} {sl27 : Array (Option Value)} {oc27 kV27 dc27 pm27 cd27 ct27 : Value} {t0 : Tok} {t1 : Tok} {t2 : Tok} {t3 : Tok}
    (a0 : PySem.W.nsIn K mainGlobals "_law_cup" = some (some (.ref f0))) (l0 : K.lookup f0 = some ⟨oc0, od0, .func (PySem.W.fnOf "_law_cup" "_law_cup" (defArgs (topS 29)) (defBody (topS 29)) (defScope (topS 29)) .none kV0 dc0 pm0 an0 cd0 ct0), sl0⟩) (c0 : PySem.W.codeIn K cd0 "_law_cup" = true) (k0 : PySem.W.keepIn K (.ref f0) = true)
    (a1 : PySem.W.nsIn K mainGlobals "_law_same" = some (some (.ref f1))) (l1 : K.lookup f1 = some ⟨oc1, od1, .func (PySem.W.fnOf "_law_same" "_law_same" (defArgs (topS 32)) (defBody (topS 32)) (defScope (topS 32)) .none kV1 dc1 pm1 an1 cd1 ct1), sl1⟩) (c1 : PySem.W.codeIn K cd1 "_law_same" = true) (k1 : PySem.W.keepIn K (.ref f1) = true)
    (a2 : PySem.W.nsIn K mainGlobals "_law_words" = some (some (.ref f2))) (l2 : K.lookup f2 = some ⟨oc2, od2, .func (PySem.W.fnOf "_law_words" "_law_words" (defArgs (topS 37)) (defBody (topS 37)) (defScope (topS 37)) .none kV2 dc2 pm2 an2 cd2 ct2), sl2⟩) (c2 : PySem.W.codeIn K cd2 "_law_words" = true) (k2 : PySem.W.keepIn K (.ref f2) = true)
    (a3 : PySem.W.nsIn K mainGlobals "is_tuple_of" = some (some (.ref f3))) (l3 : K.lookup f3 = some ⟨oc3, od3, .func (PySem.W.fnOf "is_tuple_of" "is_tuple_of" (defArgs (topS 7)) (defBody (topS 7)) (defScope (topS 7)) .none kV3 dc3 pm3 an3 cd3 ct3), sl3⟩) (c3 : PySem.W.codeIn K cd3 "is_tuple_of" = true) (k3 : PySem.W.keepIn K (.ref f3) = true)
    (a4 : PySem.W.nsIn K mainGlobals "is_whole" = some (some (.ref f4))) (l4 : K.lookup f4 = some ⟨oc4, od4, .func (PySem.W.fnOf "is_whole" "is_whole" (defArgs (topS 6)) (defBody (topS 6)) (defScope (topS 6)) .none kV4 dc4 pm4 an4 cd4 ct4), sl4⟩) (c4 : PySem.W.codeIn K cd4 "is_whole" = true) (k4 : PySem.W.keepIn K (.ref f4) = true)
    (a5 : PySem.W.nsIn K mainGlobals "fits_strength" = some (some (.ref f5))) (l5 : K.lookup f5 = some ⟨oc5, od5, .func (PySem.W.fnOf "fits_strength" "fits_strength" (defArgs (topS 13)) (defBody (topS 13)) (defScope (topS 13)) .none kV5 dc5 pm5 an5 cd5 ct5), sl5⟩) (c5 : PySem.W.codeIn K cd5 "fits_strength" = true) (k5 : PySem.W.keepIn K (.ref f5) = true)
    (a6 : PySem.W.nsIn K mainGlobals "need_strength" = some (some (.ref f6))) (l6 : K.lookup f6 = some ⟨oc6, od6, .func (PySem.W.fnOf "need_strength" "need_strength" (defArgs (topS 14)) (defBody (topS 14)) (defScope (topS 14)) .none kV6 dc6 pm6 an6 cd6 ct6), sl6⟩) (c6 : PySem.W.codeIn K cd6 "need_strength" = true) (k6 : PySem.W.keepIn K (.ref f6) = true)
    (a7 : PySem.W.nsIn K mainGlobals "need_both" = some (some (.ref f7))) (l7 : K.lookup f7 = some ⟨oc7, od7, .func (PySem.W.fnOf "need_both" "need_both" (defArgs (topS 17)) (defBody (topS 17)) (defScope (topS 17)) .none kV7 dc7 pm7 an7 cd7 ct7), sl7⟩) (c7 : PySem.W.codeIn K cd7 "need_both" = true) (k7 : PySem.W.keepIn K (.ref f7) = true)
    (a8 : PySem.W.nsIn K mainGlobals "need_steps" = some (some (.ref f8))) (l8 : K.lookup f8 = some ⟨oc8, od8, .func (PySem.W.fnOf "need_steps" "need_steps" (defArgs (topS 26)) (defBody (topS 26)) (defScope (topS 26)) .none kV8 dc8 pm8 an8 cd8 ct8), sl8⟩) (c8 : PySem.W.codeIn K cd8 "need_steps" = true) (k8 : PySem.W.keepIn K (.ref f8) = true)
    (a9 : PySem.W.nsIn K mainGlobals "words_of" = some (some (.ref f9))) (l9 : K.lookup f9 = some ⟨oc9, od9, .func (PySem.W.fnOf "words_of" "words_of" (defArgs (topS 23)) (defBody (topS 23)) (defScope (topS 23)) .none kV9 dc9 pm9 an9 cd9 ct9), sl9⟩) (c9 : PySem.W.codeIn K cd9 "words_of" = true) (k9 : PySem.W.keepIn K (.ref f9) = true)
    (a10 : PySem.W.nsIn K mainGlobals "cut" = some (some (.ref f10))) (l10 : K.lookup f10 = some ⟨oc10, od10, .func (PySem.W.fnOf "cut" "cut" (defArgs (topS 18)) (defBody (topS 18)) (defScope (topS 18)) .none kV10 dc10 pm10 an10 cd10 ct10), sl10⟩) (c10 : PySem.W.codeIn K cd10 "cut" = true) (k10 : PySem.W.keepIn K (.ref f10) = true)
    (a11 : PySem.W.nsIn K mainGlobals "off_of" = some (some (.ref f11))) (l11 : K.lookup f11 = some ⟨oc11, od11, .func (PySem.W.fnOf "off_of" "off_of" (defArgs (topS 21)) (defBody (topS 21)) (defScope (topS 21)) .none kV11 dc11 pm11 an11 cd11 ct11), sl11⟩) (c11 : PySem.W.codeIn K cd11 "off_of" = true) (k11 : PySem.W.keepIn K (.ref f11) = true)
    (a12 : PySem.W.nsIn K mainGlobals "stepped" = some (some (.ref f12))) (l12 : K.lookup f12 = some ⟨oc12, od12, .func (PySem.W.fnOf "stepped" "stepped" (defArgs (topS 19)) (defBody (topS 19)) (defScope (topS 19)) .none kV12 dc12 pm12 an12 cd12 ct12), sl12⟩) (c12 : PySem.W.codeIn K cd12 "stepped" = true) (k12 : PySem.W.keepIn K (.ref f12) = true)
    (a13 : PySem.W.nsIn K mainGlobals "played" = some (some (.ref f13))) (l13 : K.lookup f13 = some ⟨oc13, od13, .func (PySem.W.fnOf "played" "played" (defArgs (topS 20)) (defBody (topS 20)) (defScope (topS 20)) .none kV13 dc13 pm13 an13 cd13 ct13), sl13⟩) (c13 : PySem.W.codeIn K cd13 "played" = true) (k13 : PySem.W.keepIn K (.ref f13) = true)
    (a14 : PySem.W.nsIn K mainGlobals "is_less" = some (some (.ref f14))) (l14 : K.lookup f14 = some ⟨oc14, od14, .func (PySem.W.fnOf "is_less" "is_less" (defArgs (topS 22)) (defBody (topS 22)) (defScope (topS 22)) .none kV14 dc14 pm14 an14 cd14 ct14), sl14⟩) (c14 : PySem.W.codeIn K cd14 "is_less" = true) (k14 : PySem.W.keepIn K (.ref f14) = true)
    (a15 : PySem.W.nsIn K mainGlobals "nearest" = some (some (.ref f15))) (l15 : K.lookup f15 = some ⟨oc15, od15, .func (PySem.W.fnOf "nearest" "nearest" (defArgs (topS 25)) (defBody (topS 25)) (defScope (topS 25)) .none kV15 dc15 pm15 an15 cd15 ct15), sl15⟩) (c15 : PySem.W.codeIn K cd15 "nearest" = true) (k15 : PySem.W.keepIn K (.ref f15) = true)
    (a16 : PySem.W.nsIn K mainGlobals "_law_roll" = some (some (.ref f16))) (l16 : K.lookup f16 = some ⟨oc16, od16, .func (PySem.W.fnOf "_law_roll" "_law_roll" (defArgs (topS 30)) (defBody (topS 30)) (defScope (topS 30)) .none kV16 dc16 pm16 an16 cd16 ct16), sl16⟩) (c16 : PySem.W.codeIn K cd16 "_law_roll" = true) (k16 : PySem.W.keepIn K (.ref f16) = true)
    (a17 : PySem.W.nsIn K mainGlobals "soonest" = some (some (.ref f17))) (l17 : K.lookup f17 = some ⟨oc17, od17, .func (PySem.W.fnOf "soonest" "soonest" (defArgs (topS 27)) (defBody (topS 27)) (defScope (topS 27)) .none kV17 dc17 pm17 an17 cd17 ct17), sl17⟩) (c17 : PySem.W.codeIn K cd17 "soonest" = true) (k17 : PySem.W.keepIn K (.ref f17) = true)
    (a18 : PySem.W.nsIn K mainGlobals "_law_cut" = some (some (.ref f18))) (l18 : K.lookup f18 = some ⟨oc18, od18, .func (PySem.W.fnOf "_law_cut" "_law_cut" (defArgs (topS 33)) (defBody (topS 33)) (defScope (topS 33)) .none kV18 dc18 pm18 an18 cd18 ct18), sl18⟩) (c18 : PySem.W.codeIn K cd18 "_law_cut" = true) (k18 : PySem.W.keepIn K (.ref f18) = true)
    (a19 : PySem.W.nsIn K mainGlobals "_law_some" = some (some (.ref f19))) (l19 : K.lookup f19 = some ⟨oc19, od19, .func (PySem.W.fnOf "_law_some" "_law_some" (defArgs (topS 31)) (defBody (topS 31)) (defScope (topS 31)) .none kV19 dc19 pm19 an19 cd19 ct19), sl19⟩) (c19 : PySem.W.codeIn K cd19 "_law_some" = true) (k19 : PySem.W.keepIn K (.ref f19) = true)
    (a20 : PySem.W.nsIn K mainGlobals "_law_strength" = some (some (.ref f20))) (l20 : K.lookup f20 = some ⟨oc20, od20, .func (PySem.W.fnOf "_law_strength" "_law_strength" (defArgs (topS 34)) (defBody (topS 34)) (defScope (topS 34)) .none kV20 dc20 pm20 an20 cd20 ct20), sl20⟩) (c20 : PySem.W.codeIn K cd20 "_law_strength" = true) (k20 : PySem.W.keepIn K (.ref f20) = true)
    (a21 : PySem.W.nsIn K mainGlobals "_law_off" = some (some (.ref f21))) (l21 : K.lookup f21 = some ⟨oc21, od21, .func (PySem.W.fnOf "_law_off" "_law_off" (defArgs (topS 38)) (defBody (topS 38)) (defScope (topS 38)) .none kV21 dc21 pm21 an21 cd21 ct21), sl21⟩) (c21 : PySem.W.codeIn K cd21 "_law_off" = true) (k21 : PySem.W.keepIn K (.ref f21) = true)
    (a22 : PySem.W.nsIn K mainGlobals "_law_step" = some (some (.ref f22))) (l22 : K.lookup f22 = some ⟨oc22, od22, .func (PySem.W.fnOf "_law_step" "_law_step" (defArgs (topS 35)) (defBody (topS 35)) (defScope (topS 35)) .none kV22 dc22 pm22 an22 cd22 ct22), sl22⟩) (c22 : PySem.W.codeIn K cd22 "_law_step" = true) (k22 : PySem.W.keepIn K (.ref f22) = true)
    (a23 : PySem.W.nsIn K mainGlobals "_law_after" = some (some (.ref f23))) (l23 : K.lookup f23 = some ⟨oc23, od23, .func (PySem.W.fnOf "_law_after" "_law_after" (defArgs (topS 36)) (defBody (topS 36)) (defScope (topS 36)) .none kV23 dc23 pm23 an23 cd23 ct23), sl23⟩) (c23 : PySem.W.codeIn K cd23 "_law_after" = true) (k23 : PySem.W.keepIn K (.ref f23) = true)
    (a24 : PySem.W.nsIn K mainGlobals "fits_word" = some (some (.ref f24))) (l24 : K.lookup f24 = some ⟨oc24, od24, .func (PySem.W.fnOf "fits_word" "fits_word" (defArgs (topS 15)) (defBody (topS 15)) (defScope (topS 15)) .none kV24 dc24 pm24 an24 cd24 ct24), sl24⟩) (c24 : PySem.W.codeIn K cd24 "fits_word" = true) (k24 : PySem.W.keepIn K (.ref f24) = true)
    (a25 : PySem.W.nsIn K mainGlobals "need_word" = some (some (.ref f25))) (l25 : K.lookup f25 = some ⟨oc25, od25, .func (PySem.W.fnOf "need_word" "need_word" (defArgs (topS 16)) (defBody (topS 16)) (defScope (topS 16)) .none kV25 dc25 pm25 an25 cd25 ct25), sl25⟩) (c25 : PySem.W.codeIn K cd25 "need_word" = true) (k25 : PySem.W.keepIn K (.ref f25) = true)
    (a26 : PySem.W.nsIn K mainGlobals "after" = some (some (.ref f26))) (l26 : K.lookup f26 = some ⟨oc26, od26, .func (PySem.W.fnOf "after" "after" (defArgs (topS 24)) (defBody (topS 24)) (defScope (topS 24)) .none kV26 dc26 pm26 an26 cd26 ct26), sl26⟩) (c26 : PySem.W.codeIn K cd26 "after" = true) (k26 : PySem.W.keepIn K (.ref f26) = true)
    (a27 : PySem.W.nsIn K mainGlobals "law" = some (some (.ref f27))) (l27 : K.lookup f27 = some ⟨oc27, od27, .func (PySem.W.fnOf "law" "law" (defArgs (topS 39)) (defBody (topS 39)) (defScope (topS 39)) .none kV27 dc27 pm27 an27 cd27 ct27), sl27⟩) (c27 : PySem.W.codeIn K cd27 "law" = true) (k27 : PySem.W.keepIn K (.ref f27) = true)
    (z0 : PySem.W.nsIn K mainGlobals "len" = some none) (z1 : PySem.W.nsIn K mainGlobals "abs" = some none) (z2 : PySem.W.nsIn K mainGlobals "int" = some none) (z3 : PySem.W.nsIn K mainGlobals "tuple" = some none) (z4 : PySem.W.nsIn K mainGlobals "all" = some none) (z5 : PySem.W.nsIn K mainGlobals "any" = some none) (z6 : PySem.W.nsIn K mainGlobals "sum" = some none) (z7 : PySem.W.nsIn K mainGlobals "min" = some none) (z8 : PySem.W.nsIn K mainGlobals "max" = some none) (z9 : PySem.W.nsIn K mainGlobals "str" = some none) (z10 : PySem.W.nsIn K mainGlobals "bool" = some none) (z11 : PySem.W.nsIn K mainGlobals "list" = some none) (z12 : PySem.W.nsIn K mainGlobals "isinstance" = some none) (z13 : PySem.W.nsIn K mainGlobals "range" = some none) (z14 : PySem.W.nsIn K mainGlobals "enumerate" = some none) (z15 : PySem.W.nsIn K mainGlobals "zip" = some none) (y0 : PySem.W.nsIn K mainGlobals "PARTS" = some (some (.int 64 t0))) (y1 : PySem.W.nsIn K mainGlobals "NEAR" = some (some (.int 8 t1))) (y2 : PySem.W.nsIn K mainGlobals "FINE" = some (some (.int 1000 t2))) (y3 : PySem.W.nsIn K mainGlobals "WORD" = some (some (.int 16 t3))) (gg : PySem.W.nsIn K mainGlobals "gcd" = some (some (.builtin "math.gcd")))
    (law : ∀ ns : List Int, ns.length ≤ 63 → runP (phi T G 1000 5) G 1000 f_law [.scr ns] = some (.bl true)) :
    ∃ fd : FuncData, (∀ (s : Shared) (v : Value), BindsTo s fd ⟨[v], []⟩ [(("script" : Str), v)]) ∧ ∀ base : Heap, K.In base → base.Ns mainGlobals mg → FnOk l.prog w K mg base CX0 6 fa fd [("script" : Str)] (Sh.spLaw K 63) :=
  by
  have hc : ∀ (g : Nat) (x : Str), T.cons[g]? = some x → ∃ u v, mg x = some u ∧ RelV v u ∧ ∀ H, Rep K H (G g) v := by
    intro g x hg
    cases g with
    | zero => cases hg; exact con_int X Gn y0
    | succ g =>
    cases g with
    | zero => cases hg; exact con_int X Gn y1
    | succ g =>
    cases g with
    | zero => cases hg; exact con_int X Gn y2
    | succ g =>
    cases g with
    | zero => cases hg; exact con_int X Gn y3
    | succ g =>
    cases hg
  exact law_end (T := T) (G := G) (k := 6) (N := 1000) (n := 63) (g := 27) (gd := f_law) ⟨hc, blt_mk X Gn z0 z1 z2 z3 z4 z5 z6 z7 z8 z9 z10 z11 z12 z13 z14 z15, fun _ => PySem.W.mg_of X Gn gg⟩
    (fnsIn X Gn a0 l0 c0 k0 a1 l1 c1 k1 a2 l2 c2 k2 a3 l3 c3 k3 a4 l4 c4 k4 a5 l5 c5 k5 a6 l6 c6 k6 a7 l7 c7 k7 a8 l8 c8 k8 a9 l9 c9 k9 a10 l10 c10 k10 a11 l11 c11 k11 a12 l12 c12 k12 a13 l13 c13 k13 a14 l14 c14 k14 a15 l15 c15 k15 a16 l16 c16 k16 a17 l17 c17 k17 a18 l18 c18 k18 a19 l19 c19 k19 a20 l20 c20 k20 a21 l21 c21 k21 a22 l22 c22 k22 a23 l23 c23 k23 a24 l24 c24 k24 a25 l25 c25 k25 a26 l26 c26 k26 a27 l27 c27 k27) rfl hfa rfl fun ns hl => ⟨_, ph_law G 1000 5, law ns hl⟩
end L76

namespace L76
open PySem PySem.Spec PyProof.Rows L2 Sh
section
variable (N k : Nat)
theorem sp_is_tuple_of (Φ : Nat → FSpec) (xs : List D) (lo hi : Int) : runP Φ G N f_is_tuple_of [.tup xs, .int lo, .int hi] = some (.bl (decide (lo ≤ xs.length) && decide ((xs.length : Int) ≤ hi))) := by
  by_cases h : lo ≤ xs.length
  · have hd : decide (lo ≤ (xs.length : Int)) = true := decide_eq_true h
    simp [runP, f_is_tuple_of, b_is_tuple_of, envAt, evSs, evS, evE, evEs, valD, valsD, dTy, isD, f_lenT, b_leI, hd]
  · have hd : decide (lo ≤ (xs.length : Int)) = false := decide_eq_false h
    simp [runP, f_is_tuple_of, b_is_tuple_of, envAt, evSs, evS, evE, evEs, valD, valsD, dTy, isD, f_lenT, b_leI, hd]
theorem sp_is_whole (Φ : Nat → FSpec) (i lo hi : Int) : runP Φ G N f_is_whole [.int i, .int lo, .int hi] = some (.bl (decide (lo ≤ i) && decide (i ≤ hi))) := by
  by_cases h : lo ≤ i
  · have hd : decide (lo ≤ i) = true := decide_eq_true h
    simp [runP, f_is_whole, b_is_whole, envAt, evSs, evS, evE, evEs, valD, valsD, dTy, isD, b_leI, hd]
  · have hd : decide (lo ≤ i) = false := decide_eq_false h
    simp [runP, f_is_whole, b_is_whole, envAt, evSs, evS, evE, evEs, valD, valsD, dTy, isD, b_leI, hd]
/-- a strength -/
def Sg (m : Nat) (x : Nat × Nat) : Prop := 0 < x.2 ∧ x.2 ≤ m ∧ x.1 ≤ x.2 ∧ Nat.gcd x.1 x.2 = 1
theorem ix0 (x y : D) : atI [x, y] 0 = some x := rfl
theorem ix1 (x y : D) : atI [x, y] 1 = some y := rfl
theorem sp_fits_strength {x : Nat × Nat} (h : Sg 64 x) : runP (phi T G N (k + 1)) G N f_fits_strength [enc x] = some (.bl true) := by
  obtain ⟨a, b⟩ := x
  obtain ⟨h1, h2, h3, h4⟩ := h
  simp only [] at h1 h2 h3 h4
  have q0 : decide ((b : Int) ≤ 64) = true := decide_eq_true (by omega)
  have q1 : decide ((1 : Int) ≤ b) = true := decide_eq_true (by omega)
  have q2 : decide ((a : Int) ≤ b) = true := decide_eq_true (by omega)
  have q3 : decide ((0 : Int) ≤ a) = true := decide_eq_true (by omega)
  refine run_rt (hh := []) rfl ?_
  simp only [f_fits_strength, b_fits_strength, envAt, evSs, evS, evE, evEs, evIf, evPart, evC, mkL, valsD, valD, pureL, ixW, ixD, setsE, unsetE, Pat.bind, Sh.bindL, dTy, isD, isNon, List.map_cons, List.map_nil, List.length_cons, List.length_nil, List.getElem?_cons_zero, List.getElem?_cons_succ, List.set_cons_zero, List.set_cons_succ, List.replicate, List.cons_append, List.nil_append, Option.bind_eq_bind, Option.bind_some, Option.map_some, Bool.not_true, Bool.not_false, if_true, if_false, reduceIte, Bool.false_eq_true, reduceCtorEq, Nat.reduceAdd, Nat.reduceSub, Nat.reduceLeDiff, zeroW, cellArg, Option.isSome_some, line_lit, Bool.and_self, Bool.true_and, Bool.and_true, Bool.false_and, Bool.and_false, Bool.or_true, Bool.true_or, Bool.or_false, Bool.false_or, Int.natAbs_natCast, Int.cast_ofNat_Int, Int.reduceLE, Int.reduceLT, Int.reduceEq, decide_true, decide_false, Nat.reduceLT, Nat.reduceEqDiff, List.length_nil, wipeE, eq_self, enc, ixW, ixD, ix0, ix1, ph_is_tuple_of, ph_is_whole, sp_is_tuple_of, sp_is_whole, G, q0, q1, q2, q3, f_gcd, h4, b_eqI]
theorem sp_need_strength {x : Nat × Nat} (h : Sg 64 x) : runP (phi T G N (k + 2)) G N f_need_strength [enc x] = some .non := by
  refine run_nx (hh := []) (env := [some (.d (enc x))]) rfl ?_
  simp only [f_need_strength, b_need_strength, envAt, evSs, evS, evE, evEs, evIf, evPart, evC, mkL, valsD, valD, pureL, ixW, ixD, setsE, unsetE, Pat.bind, Sh.bindL, dTy, isD, isNon, List.map_cons, List.map_nil, List.length_cons, List.length_nil, List.getElem?_cons_zero, List.getElem?_cons_succ, List.set_cons_zero, List.set_cons_succ, List.replicate, List.cons_append, List.nil_append, Option.bind_eq_bind, Option.bind_some, Option.map_some, Bool.not_true, Bool.not_false, if_true, if_false, reduceIte, Bool.false_eq_true, reduceCtorEq, Nat.reduceAdd, Nat.reduceSub, Nat.reduceLeDiff, zeroW, cellArg, Option.isSome_some, line_lit, Bool.and_self, Bool.true_and, Bool.and_true, Bool.false_and, Bool.and_false, Bool.or_true, Bool.true_or, Bool.or_false, Bool.false_or, Int.natAbs_natCast, Int.cast_ofNat_Int, Int.reduceLE, Int.reduceLT, Int.reduceEq, decide_true, decide_false, Nat.reduceLT, Nat.reduceEqDiff, List.length_nil, wipeE, eq_self, ph_fits_strength, sp_fits_strength N k h]
theorem sp_need_both {x y : Nat × Nat} (h : Sg 64 x) (h' : Sg 64 y) : runP (phi T G N (k + 3)) G N f_need_both [enc x, enc y] = some .non := by
  refine run_nx (hh := []) (env := [some (.d (enc x)), some (.d (enc y))]) rfl ?_
  simp only [f_need_both, b_need_both, envAt, evSs, evS, evE, evEs, evIf, evPart, evC, mkL, valsD, valD, pureL, ixW, ixD, setsE, unsetE, Pat.bind, Sh.bindL, dTy, isD, isNon, List.map_cons, List.map_nil, List.length_cons, List.length_nil, List.getElem?_cons_zero, List.getElem?_cons_succ, List.set_cons_zero, List.set_cons_succ, List.replicate, List.cons_append, List.nil_append, Option.bind_eq_bind, Option.bind_some, Option.map_some, Bool.not_true, Bool.not_false, if_true, if_false, reduceIte, Bool.false_eq_true, reduceCtorEq, Nat.reduceAdd, Nat.reduceSub, Nat.reduceLeDiff, zeroW, cellArg, Option.isSome_some, line_lit, Bool.and_self, Bool.true_and, Bool.and_true, Bool.false_and, Bool.and_false, Bool.or_true, Bool.true_or, Bool.or_false, Bool.false_or, Int.natAbs_natCast, Int.cast_ofNat_Int, Int.reduceLE, Int.reduceLT, Int.reduceEq, decide_true, decide_false, Nat.reduceLT, Nat.reduceEqDiff, List.length_nil, wipeE, eq_self, ph_need_strength, sp_need_strength N k h, sp_need_strength N k h']
theorem sp_need_steps {n : Nat} (h : n ≤ 8) : runP (phi T G N (k + 1)) G N f_need_steps [.int n] = some .non := by
  have q1 : decide ((n : Int) ≤ 8) = true := decide_eq_true (by omega)
  have q2 : decide ((0 : Int) ≤ n) = true := decide_eq_true (by omega)
  refine run_nx (hh := []) (env := [some (.d (.int n))]) rfl ?_
  simp only [f_need_steps, b_need_steps, envAt, evSs, evS, evE, evEs, evIf, evPart, evC, mkL, valsD, valD, pureL, ixW, ixD, setsE, unsetE, Pat.bind, Sh.bindL, dTy, isD, isNon, List.map_cons, List.map_nil, List.length_cons, List.length_nil, List.getElem?_cons_zero, List.getElem?_cons_succ, List.set_cons_zero, List.set_cons_succ, List.replicate, List.cons_append, List.nil_append, Option.bind_eq_bind, Option.bind_some, Option.map_some, Bool.not_true, Bool.not_false, if_true, if_false, reduceIte, Bool.false_eq_true, reduceCtorEq, Nat.reduceAdd, Nat.reduceSub, Nat.reduceLeDiff, zeroW, cellArg, Option.isSome_some, line_lit, Bool.and_self, Bool.true_and, Bool.and_true, Bool.false_and, Bool.and_false, Bool.or_true, Bool.true_or, Bool.or_false, Bool.false_or, Int.natAbs_natCast, Int.cast_ofNat_Int, Int.reduceLE, Int.reduceLT, Int.reduceEq, decide_true, decide_false, Nat.reduceLT, Nat.reduceEqDiff, List.length_nil, wipeE, eq_self, ph_is_whole, sp_is_whole, G, q1, q2]
/-- a fraction, cut -/
theorem sp_cut (Φ : Nat → FSpec) {a b : Nat} (hb : 0 < b ∧ b < 1073741824) : runP Φ G N f_cut [.int a, .int b] = some (enc (cutP a b)) := by
  have hg : 0 < Nat.gcd a b := Nat.gcd_pos_of_pos_right _ hb.1
  have hgl : Nat.gcd a b ≤ b := Nat.le_of_dvd hb.1 (Nat.gcd_dvd_right a b)
  have q1 : (0 : Int) < (Nat.gcd a b : Nat) ∧ ((Nat.gcd a b : Nat) : Int) < 1073741824 := by omega
  refine run_rt (hh := []) rfl ?_
  simp only [f_cut, b_cut, envAt, evSs, evS, evE, evEs, evIf, evPart, evC, mkL, valsD, valD, pureL, ixW, ixD, setsE, unsetE, Pat.bind, Sh.bindL, dTy, isD, isNon, List.map_cons, List.map_nil, List.length_cons, List.length_nil, List.getElem?_cons_zero, List.getElem?_cons_succ, List.set_cons_zero, List.set_cons_succ, List.replicate, List.cons_append, List.nil_append, Option.bind_eq_bind, Option.bind_some, Option.map_some, Bool.not_true, Bool.not_false, if_true, if_false, reduceIte, Bool.false_eq_true, reduceCtorEq, Nat.reduceAdd, Nat.reduceSub, Nat.reduceLeDiff, zeroW, cellArg, Option.isSome_some, line_lit, Bool.and_self, Bool.true_and, Bool.and_true, Bool.false_and, Bool.and_false, Bool.or_true, Bool.true_or, Bool.or_false, Bool.false_or, Int.natAbs_natCast, Int.cast_ofNat_Int, Int.reduceLE, Int.reduceLT, Int.reduceEq, decide_true, decide_false, Nat.reduceLT, Nat.reduceEqDiff, List.length_nil, wipeE, eq_self, f_gcd, b_fdiv q1, enc, cutP, Int.natCast_ediv]
theorem sp_law_cut (Φ : Nat → FSpec) {a b : Nat} (hb : 0 < b ∧ b < 1073741824) : runP Φ G N f_law_cut [.int a, .int b] = some (enc (cutP a b)) := cut_ok Φ G N hb
def dif (a b : Nat) : Nat := (a - b) + (b - a)
theorem dif_abs (a b : Nat) : ((a : Int) - b).natAbs = dif a b := by unfold dif; omega
def offP (x y : Nat × Nat) : Nat × Nat := cutP (dif (x.1 * y.2) (y.1 * x.2)) (x.2 * y.2)
def stepP (x : Nat × Nat) (s : Nat) : Nat × Nat := cutP (x.1 + (if s = 102 then x.2 else 0)) (2 * x.2)
def afterP (x : Nat × Nat) (w : List Nat) : Nat × Nat := w.foldl stepP x
theorem nat64 {a : Nat} (h : a < 32768) : b64 (a : Int) = true := b64_of ⟨by omega, by omega⟩
theorem sp_off_of {x y : Nat × Nat} (hx : 0 < x.2 ∧ x.2 < 32768) (hy : 0 < y.2 ∧ y.2 < 32768) : runP (phi T G N (k + 1)) G N f_off_of [enc x, enc y] = some (enc (offP x y)) := by
  obtain ⟨a, b⟩ := x
  obtain ⟨c, d⟩ := y
  simp only [] at hx hy
  have hb : 0 < b * d ∧ b * d < 1073741824 := ⟨Nat.mul_pos hx.1 hy.1, by
    have := Nat.mul_lt_mul'' hx.2 hy.2
    omega⟩
  have e1 : (((a : Int) * d) - c * b).natAbs = dif (a * d) (c * b) := by rw [← dif_abs]; push_cast; rfl
  refine run_rt (hh := []) rfl ?_
  have hm : ((b : Int) * d) = ((b * d : Nat) : Int) := by push_cast; rfl
  simp only [f_off_of, b_off_of, envAt, evSs, evS, evE, evEs, evIf, evPart, evC, mkL, valsD, valD, pureL, ixW, ixD, setsE, unsetE, Pat.bind, Sh.bindL, dTy, isD, isNon, List.map_cons, List.map_nil, List.length_cons, List.length_nil, List.getElem?_cons_zero, List.getElem?_cons_succ, List.set_cons_zero, List.set_cons_succ, List.replicate, List.cons_append, List.nil_append, Option.bind_eq_bind, Option.bind_some, Option.map_some, Bool.not_true, Bool.not_false, if_true, if_false, reduceIte, Bool.false_eq_true, reduceCtorEq, Nat.reduceAdd, Nat.reduceSub, Nat.reduceLeDiff, zeroW, cellArg, Option.isSome_some, line_lit, Bool.and_self, Bool.true_and, Bool.and_true, Bool.false_and, Bool.and_false, Bool.or_true, Bool.true_or, Bool.or_false, Bool.false_or, Int.natAbs_natCast, Int.cast_ofNat_Int, Int.reduceLE, Int.reduceLT, Int.reduceEq, decide_true, decide_false, Nat.reduceLT, Nat.reduceEqDiff, List.length_nil, wipeE, eq_self, enc, ixW, ixD, ix0, ix1, b_mulR (nat64 hx.2), b_mulR (nat64 hy.2), b_subI, f_abs, e1]
  rw [hm]
  simp only [envAt, evSs, evS, evE, evEs, evIf, evPart, evC, mkL, valsD, valD, pureL, ixW, ixD, setsE, unsetE, Pat.bind, Sh.bindL, dTy, isD, isNon, List.map_cons, List.map_nil, List.length_cons, List.length_nil, List.getElem?_cons_zero, List.getElem?_cons_succ, List.set_cons_zero, List.set_cons_succ, List.replicate, List.cons_append, List.nil_append, Option.bind_eq_bind, Option.bind_some, Option.map_some, Bool.not_true, Bool.not_false, if_true, if_false, reduceIte, Bool.false_eq_true, reduceCtorEq, Nat.reduceAdd, Nat.reduceSub, Nat.reduceLeDiff, zeroW, cellArg, Option.isSome_some, line_lit, Bool.and_self, Bool.true_and, Bool.and_true, Bool.false_and, Bool.and_false, Bool.or_true, Bool.true_or, Bool.or_false, Bool.false_or, Int.natAbs_natCast, Int.cast_ofNat_Int, Int.reduceLE, Int.reduceLT, Int.reduceEq, decide_true, decide_false, Nat.reduceLT, Nat.reduceEqDiff, List.length_nil, wipeE, eq_self, ph_cut, sp_cut N _ hb, enc, offP]
theorem sp_law_off {x y : Nat × Nat} (hx : 0 < x.2 ∧ x.2 < 32768) (hy : 0 < y.2 ∧ y.2 < 32768) : runP (phi T G N (k + 1)) G N f_law_off [enc x, enc y] = some (enc (offP x y)) := by
  obtain ⟨a, b⟩ := x
  obtain ⟨c, d⟩ := y
  simp only [] at hx hy
  have hb : 0 < b * d ∧ b * d < 1073741824 := ⟨Nat.mul_pos hx.1 hy.1, by
    have := Nat.mul_lt_mul'' hx.2 hy.2
    omega⟩
  have e1 : (((a : Int) * d) - c * b).natAbs = dif (a * d) (c * b) := by rw [← dif_abs]; push_cast; rfl
  refine run_rt (hh := []) rfl ?_
  have hm : ((b : Int) * d) = ((b * d : Nat) : Int) := by push_cast; rfl
  simp only [f_law_off, b_law_off, envAt, evSs, evS, evE, evEs, evIf, evPart, evC, mkL, valsD, valD, pureL, ixW, ixD, setsE, unsetE, Pat.bind, Sh.bindL, dTy, isD, isNon, List.map_cons, List.map_nil, List.length_cons, List.length_nil, List.getElem?_cons_zero, List.getElem?_cons_succ, List.set_cons_zero, List.set_cons_succ, List.replicate, List.cons_append, List.nil_append, Option.bind_eq_bind, Option.bind_some, Option.map_some, Bool.not_true, Bool.not_false, if_true, if_false, reduceIte, Bool.false_eq_true, reduceCtorEq, Nat.reduceAdd, Nat.reduceSub, Nat.reduceLeDiff, zeroW, cellArg, Option.isSome_some, line_lit, Bool.and_self, Bool.true_and, Bool.and_true, Bool.false_and, Bool.and_false, Bool.or_true, Bool.true_or, Bool.or_false, Bool.false_or, Int.natAbs_natCast, Int.cast_ofNat_Int, Int.reduceLE, Int.reduceLT, Int.reduceEq, decide_true, decide_false, Nat.reduceLT, Nat.reduceEqDiff, List.length_nil, wipeE, eq_self, enc, ix0, ix1, b_mulR (nat64 hx.2), b_mulR (nat64 hy.2), b_subI, f_abs, e1]
  rw [hm]
  simp only [envAt, evSs, evS, evE, evEs, evIf, evPart, evC, mkL, valsD, valD, pureL, ixW, ixD, setsE, unsetE, Pat.bind, Sh.bindL, dTy, isD, isNon, List.map_cons, List.map_nil, List.length_cons, List.length_nil, List.getElem?_cons_zero, List.getElem?_cons_succ, List.set_cons_zero, List.set_cons_succ, List.replicate, List.cons_append, List.nil_append, Option.bind_eq_bind, Option.bind_some, Option.map_some, Bool.not_true, Bool.not_false, if_true, if_false, reduceIte, Bool.false_eq_true, reduceCtorEq, Nat.reduceAdd, Nat.reduceSub, Nat.reduceLeDiff, zeroW, cellArg, Option.isSome_some, line_lit, Bool.and_self, Bool.true_and, Bool.and_true, Bool.false_and, Bool.and_false, Bool.or_true, Bool.true_or, Bool.or_false, Bool.false_or, Int.natAbs_natCast, Int.cast_ofNat_Int, Int.reduceLE, Int.reduceLT, Int.reduceEq, decide_true, decide_false, Nat.reduceLT, Nat.reduceEqDiff, List.length_nil, wipeE, eq_self, ph_law_cut, sp_law_cut N _ hb, enc, offP]
theorem step_cast (a b s : Nat) : ((a : Int) + (if s = 102 then (b : Int) else 0)) = ((a + (if s = 102 then b else 0) : Nat) : Int) := by split <;> push_cast <;> rfl
theorem sp_stepped {x : Nat × Nat} (s : Nat) (hx : 0 < x.2 ∧ x.2 < 32768) : runP (phi T G N (k + 1)) G N f_stepped [enc x, .str [s]] = some (enc (stepP x s)) := by
  obtain ⟨a, b⟩ := x
  simp only [] at hx
  have hb : 0 < 2 * b ∧ 2 * b < 1073741824 := by omega
  have e2 : ((2 : Int) * b) = ((2 * b : Nat) : Int) := by push_cast; rfl
  refine run_rt (hh := []) rfl ?_
  by_cases h : s = 102
  · subst h
    have e1 : ((a : Int) + b) = ((a + b : Nat) : Int) := by push_cast; rfl
    simp only [f_stepped, b_stepped, envAt, evSs, evS, evE, evEs, evIf, evPart, evC, mkL, valsD, valD, pureL, ixW, ixD, setsE, unsetE, Pat.bind, Sh.bindL, dTy, isD, isNon, List.map_cons, List.map_nil, List.length_cons, List.length_nil, List.getElem?_cons_zero, List.getElem?_cons_succ, List.set_cons_zero, List.set_cons_succ, List.replicate, List.cons_append, List.nil_append, Option.bind_eq_bind, Option.bind_some, Option.map_some, Bool.not_true, Bool.not_false, if_true, if_false, reduceIte, Bool.false_eq_true, reduceCtorEq, Nat.reduceAdd, Nat.reduceSub, Nat.reduceLeDiff, zeroW, cellArg, Option.isSome_some, line_lit, Bool.and_self, Bool.true_and, Bool.and_true, Bool.false_and, Bool.and_false, Bool.or_true, Bool.true_or, Bool.or_false, Bool.false_or, Int.natAbs_natCast, Int.cast_ofNat_Int, Int.reduceLE, Int.reduceLT, Int.reduceEq, decide_true, decide_false, Nat.reduceLT, Nat.reduceEqDiff, List.length_nil, wipeE, eq_self, enc, ix0, ix1, b_eqS, beq_self_eq_true, b_addI, b_mulR (nat64 hx.2)]
    rw [e1, e2]
    simp only [envAt, evSs, evS, evE, evEs, evIf, evPart, evC, mkL, valsD, valD, pureL, ixW, ixD, setsE, unsetE, Pat.bind, Sh.bindL, dTy, isD, isNon, List.map_cons, List.map_nil, List.length_cons, List.length_nil, List.getElem?_cons_zero, List.getElem?_cons_succ, List.set_cons_zero, List.set_cons_succ, List.replicate, List.cons_append, List.nil_append, Option.bind_eq_bind, Option.bind_some, Option.map_some, Bool.not_true, Bool.not_false, if_true, if_false, reduceIte, Bool.false_eq_true, reduceCtorEq, Nat.reduceAdd, Nat.reduceSub, Nat.reduceLeDiff, zeroW, cellArg, Option.isSome_some, line_lit, Bool.and_self, Bool.true_and, Bool.and_true, Bool.false_and, Bool.and_false, Bool.or_true, Bool.true_or, Bool.or_false, Bool.false_or, Int.natAbs_natCast, Int.cast_ofNat_Int, Int.reduceLE, Int.reduceLT, Int.reduceEq, decide_true, decide_false, Nat.reduceLT, Nat.reduceEqDiff, List.length_nil, wipeE, eq_self, ph_cut, sp_cut N _ hb, enc, stepP]
  · have hs : ([s] == [102]) = false := by simp [h]
    have e1 : ((a : Int) + 0) = ((a + 0 : Nat) : Int) := by push_cast; rfl
    simp only [f_stepped, b_stepped, envAt, evSs, evS, evE, evEs, evIf, evPart, evC, mkL, valsD, valD, pureL, ixW, ixD, setsE, unsetE, Pat.bind, Sh.bindL, dTy, isD, isNon, List.map_cons, List.map_nil, List.length_cons, List.length_nil, List.getElem?_cons_zero, List.getElem?_cons_succ, List.set_cons_zero, List.set_cons_succ, List.replicate, List.cons_append, List.nil_append, Option.bind_eq_bind, Option.bind_some, Option.map_some, Bool.not_true, Bool.not_false, if_true, if_false, reduceIte, Bool.false_eq_true, reduceCtorEq, Nat.reduceAdd, Nat.reduceSub, Nat.reduceLeDiff, zeroW, cellArg, Option.isSome_some, line_lit, Bool.and_self, Bool.true_and, Bool.and_true, Bool.false_and, Bool.and_false, Bool.or_true, Bool.true_or, Bool.or_false, Bool.false_or, Int.natAbs_natCast, Int.cast_ofNat_Int, Int.reduceLE, Int.reduceLT, Int.reduceEq, decide_true, decide_false, Nat.reduceLT, Nat.reduceEqDiff, List.length_nil, wipeE, eq_self, enc, ix0, ix1, b_eqS, hs, b_addI, b_mulR (nat64 hx.2)]
    rw [e1, e2]
    simp only [envAt, evSs, evS, evE, evEs, evIf, evPart, evC, mkL, valsD, valD, pureL, ixW, ixD, setsE, unsetE, Pat.bind, Sh.bindL, dTy, isD, isNon, List.map_cons, List.map_nil, List.length_cons, List.length_nil, List.getElem?_cons_zero, List.getElem?_cons_succ, List.set_cons_zero, List.set_cons_succ, List.replicate, List.cons_append, List.nil_append, Option.bind_eq_bind, Option.bind_some, Option.map_some, Bool.not_true, Bool.not_false, if_true, if_false, reduceIte, Bool.false_eq_true, reduceCtorEq, Nat.reduceAdd, Nat.reduceSub, Nat.reduceLeDiff, zeroW, cellArg, Option.isSome_some, line_lit, Bool.and_self, Bool.true_and, Bool.and_true, Bool.false_and, Bool.and_false, Bool.or_true, Bool.true_or, Bool.or_false, Bool.false_or, Int.natAbs_natCast, Int.cast_ofNat_Int, Int.reduceLE, Int.reduceLT, Int.reduceEq, decide_true, decide_false, Nat.reduceLT, Nat.reduceEqDiff, List.length_nil, wipeE, eq_self, ph_cut, sp_cut N _ hb, enc, stepP, h]
theorem sp_law_step {x : Nat × Nat} (s : Nat) (hx : 0 < x.2 ∧ x.2 < 32768) : runP (phi T G N (k + 1)) G N f_law_step [enc x, .str [s]] = some (enc (stepP x s)) := by
  obtain ⟨a, b⟩ := x
  simp only [] at hx
  have hb : 0 < 2 * b ∧ 2 * b < 1073741824 := by omega
  have e2 : ((2 : Int) * b) = ((2 * b : Nat) : Int) := by push_cast; rfl
  refine run_rt (hh := []) rfl ?_
  by_cases h : s = 102
  · subst h
    have e1 : ((a : Int) + b) = ((a + b : Nat) : Int) := by push_cast; rfl
    simp only [f_law_step, b_law_step, envAt, evSs, evS, evE, evEs, evIf, evPart, evC, mkL, valsD, valD, pureL, ixW, ixD, setsE, unsetE, Pat.bind, Sh.bindL, dTy, isD, isNon, List.map_cons, List.map_nil, List.length_cons, List.length_nil, List.getElem?_cons_zero, List.getElem?_cons_succ, List.set_cons_zero, List.set_cons_succ, List.replicate, List.cons_append, List.nil_append, Option.bind_eq_bind, Option.bind_some, Option.map_some, Bool.not_true, Bool.not_false, if_true, if_false, reduceIte, Bool.false_eq_true, reduceCtorEq, Nat.reduceAdd, Nat.reduceSub, Nat.reduceLeDiff, zeroW, cellArg, Option.isSome_some, line_lit, Bool.and_self, Bool.true_and, Bool.and_true, Bool.false_and, Bool.and_false, Bool.or_true, Bool.true_or, Bool.or_false, Bool.false_or, Int.natAbs_natCast, Int.cast_ofNat_Int, Int.reduceLE, Int.reduceLT, Int.reduceEq, decide_true, decide_false, Nat.reduceLT, Nat.reduceEqDiff, List.length_nil, wipeE, eq_self, enc, ix0, ix1, b_eqS, beq_self_eq_true, b_addI, b_mulR (nat64 hx.2)]
    rw [e1, e2]
    simp only [envAt, evSs, evS, evE, evEs, evIf, evPart, evC, mkL, valsD, valD, pureL, ixW, ixD, setsE, unsetE, Pat.bind, Sh.bindL, dTy, isD, isNon, List.map_cons, List.map_nil, List.length_cons, List.length_nil, List.getElem?_cons_zero, List.getElem?_cons_succ, List.set_cons_zero, List.set_cons_succ, List.replicate, List.cons_append, List.nil_append, Option.bind_eq_bind, Option.bind_some, Option.map_some, Bool.not_true, Bool.not_false, if_true, if_false, reduceIte, Bool.false_eq_true, reduceCtorEq, Nat.reduceAdd, Nat.reduceSub, Nat.reduceLeDiff, zeroW, cellArg, Option.isSome_some, line_lit, Bool.and_self, Bool.true_and, Bool.and_true, Bool.false_and, Bool.and_false, Bool.or_true, Bool.true_or, Bool.or_false, Bool.false_or, Int.natAbs_natCast, Int.cast_ofNat_Int, Int.reduceLE, Int.reduceLT, Int.reduceEq, decide_true, decide_false, Nat.reduceLT, Nat.reduceEqDiff, List.length_nil, wipeE, eq_self, ph_law_cut, sp_law_cut N _ hb, enc, stepP]
  · have hs : ([s] == [102]) = false := by simp [h]
    have e1 : ((a : Int) + 0) = ((a + 0 : Nat) : Int) := by push_cast; rfl
    simp only [f_law_step, b_law_step, envAt, evSs, evS, evE, evEs, evIf, evPart, evC, mkL, valsD, valD, pureL, ixW, ixD, setsE, unsetE, Pat.bind, Sh.bindL, dTy, isD, isNon, List.map_cons, List.map_nil, List.length_cons, List.length_nil, List.getElem?_cons_zero, List.getElem?_cons_succ, List.set_cons_zero, List.set_cons_succ, List.replicate, List.cons_append, List.nil_append, Option.bind_eq_bind, Option.bind_some, Option.map_some, Bool.not_true, Bool.not_false, if_true, if_false, reduceIte, Bool.false_eq_true, reduceCtorEq, Nat.reduceAdd, Nat.reduceSub, Nat.reduceLeDiff, zeroW, cellArg, Option.isSome_some, line_lit, Bool.and_self, Bool.true_and, Bool.and_true, Bool.false_and, Bool.and_false, Bool.or_true, Bool.true_or, Bool.or_false, Bool.false_or, Int.natAbs_natCast, Int.cast_ofNat_Int, Int.reduceLE, Int.reduceLT, Int.reduceEq, decide_true, decide_false, Nat.reduceLT, Nat.reduceEqDiff, List.length_nil, wipeE, eq_self, enc, ix0, ix1, b_eqS, hs, b_addI, b_mulR (nat64 hx.2)]
    rw [e1, e2]
    simp only [envAt, evSs, evS, evE, evEs, evIf, evPart, evC, mkL, valsD, valD, pureL, ixW, ixD, setsE, unsetE, Pat.bind, Sh.bindL, dTy, isD, isNon, List.map_cons, List.map_nil, List.length_cons, List.length_nil, List.getElem?_cons_zero, List.getElem?_cons_succ, List.set_cons_zero, List.set_cons_succ, List.replicate, List.cons_append, List.nil_append, Option.bind_eq_bind, Option.bind_some, Option.map_some, Bool.not_true, Bool.not_false, if_true, if_false, reduceIte, Bool.false_eq_true, reduceCtorEq, Nat.reduceAdd, Nat.reduceSub, Nat.reduceLeDiff, zeroW, cellArg, Option.isSome_some, line_lit, Bool.and_self, Bool.true_and, Bool.and_true, Bool.false_and, Bool.and_false, Bool.or_true, Bool.true_or, Bool.or_false, Bool.false_or, Int.natAbs_natCast, Int.cast_ofNat_Int, Int.reduceLE, Int.reduceLT, Int.reduceEq, decide_true, decide_false, Nat.reduceLT, Nat.reduceEqDiff, List.length_nil, wipeE, eq_self, ph_law_cut, sp_law_cut N _ hb, enc, stepP, h]
/-- what a cut fraction keeps -/
theorem cutP_ok {a b : Nat} (hb : 0 < b) : 0 < (cutP a b).2 ∧ (cutP a b).2 ≤ b ∧ (cutP a b).1 * b = a * (cutP a b).2 ∧ Nat.gcd (cutP a b).1 (cutP a b).2 = 1 := by
  have hg : 0 < Nat.gcd a b := Nat.gcd_pos_of_pos_right _ hb
  obtain ⟨u, hu⟩ := Nat.gcd_dvd_left a b
  obtain ⟨v, hv⟩ := Nat.gcd_dvd_right a b
  have e1 : a / Nat.gcd a b = u := Nat.div_eq_of_eq_mul_right hg hu
  have e2 : b / Nat.gcd a b = v := Nat.div_eq_of_eq_mul_right hg hv
  refine ⟨Nat.div_pos (Nat.le_of_dvd hb (Nat.gcd_dvd_right a b)) hg, Nat.div_le_self _ _, ?_, ?_⟩
  · show a / Nat.gcd a b * b = a * (b / Nat.gcd a b)
    rw [e1, e2]
    calc u * b = u * (Nat.gcd a b * v) := by rw [← hv]
      _ = (Nat.gcd a b * u) * v := by rw [← Nat.mul_assoc, Nat.mul_comm u]
      _ = a * v := by rw [← hu]
  · exact Nat.gcd_div_gcd_div_gcd_of_pos_right hb
theorem cutP_le {a b : Nat} (hb : 0 < b) (h : a ≤ b) : (cutP a b).1 ≤ (cutP a b).2 := Nat.div_le_div_right h
/-- the parts of a step -/
theorem step_ok {x : Nat × Nat} {s m : Nat} (h : Sg m x) : Sg (2 * m) (stepP x s) := by
  obtain ⟨h1, h2, h3, _⟩ := h
  have hb : 0 < 2 * x.2 := by omega
  obtain ⟨q1, q2, _, q4⟩ := cutP_ok (a := x.1 + (if s = 102 then x.2 else 0)) hb
  refine ⟨q1, Nat.le_trans q2 (by omega), cutP_le hb ?_, q4⟩
  split <;> omega
theorem after_ok : ∀ (w : List Nat) {x : Nat × Nat} {m : Nat}, Sg m x → Sg (m * 2 ^ w.length) (afterP x w)
  | [], x, m, h => by simpa [afterP] using h
  | s :: w, x, m, h => by
    have := after_ok w (step_ok (s := s) h)
    rw [show 2 * m * 2 ^ w.length = m * 2 ^ (s :: w).length by rw [List.length_cons, Nat.pow_succ, Nat.mul_comm 2 m, Nat.mul_assoc, Nat.mul_comm 2]] at this
    exact this
theorem sp_played {x : Nat × Nat} {w : List Nat} {m : Nat} (hx : Sg m x) (hm : m * 2 ^ w.length ≤ 32767) (hw : w.length ≤ line) : runP (phi T G N (k + 2)) G N f_played [enc x, .str w] = some (enc (afterP x w)) := by
  refine run_rt (hh := []) rfl ?_
  have hf := (for_fold (Φ := phi T G N (k + 2)) (G := G) (N := N) (p := .nm 2) (it := .var 1) (body := .cons (.asg (.pat (.nm 0)) (.call 12 (.cons (.var 0) (.cons (.var 2) .nil)))) (.cons (.fgt [2]) .nil)) (h := [])
    (fun c : Nat => D.str [c]) (fun x : Nat × Nat => [some (.d (enc x)), some (.d (.str w)), none]) (fun _ => []) stepP (fun r x => ∃ m, Sg m x ∧ m * 2 ^ r.length ≤ 32767) w x rfl (itemsS hw) rfl ⟨m, hx, hm⟩
    (fun x s r ⟨m, h1, h2⟩ => ⟨_, rfl, by
      have hp := Nat.two_pow_pos (s :: r).length
      have hb : 0 < x.2 ∧ x.2 < 32768 := ⟨h1.1, by
        have := Nat.mul_le_mul h1.2.1 hp
        have h3 := h1.2.1
        omega⟩
      simp only [envAt, evSs, evS, evE, evEs, evIf, evPart, evC, mkL, valsD, valD, pureL, ixW, ixD, setsE, unsetE, Pat.bind, Sh.bindL, dTy, isD, isNon, List.map_cons, List.map_nil, List.length_cons, List.length_nil, List.getElem?_cons_zero, List.getElem?_cons_succ, List.set_cons_zero, List.set_cons_succ, List.replicate, List.cons_append, List.nil_append, Option.bind_eq_bind, Option.bind_some, Option.map_some, Bool.not_true, Bool.not_false, if_true, if_false, reduceIte, Bool.false_eq_true, reduceCtorEq, Nat.reduceAdd, Nat.reduceSub, Nat.reduceLeDiff, zeroW, cellArg, Option.isSome_some, line_lit, Bool.and_self, Bool.true_and, Bool.and_true, Bool.false_and, Bool.and_false, Bool.or_true, Bool.true_or, Bool.or_false, Bool.false_or, Int.natAbs_natCast, Int.cast_ofNat_Int, Int.reduceLE, Int.reduceLT, Int.reduceEq, decide_true, decide_false, Nat.reduceLT, Nat.reduceEqDiff, List.length_nil, wipeE, eq_self, ph_stepped, sp_stepped N k s hb], 2 * m, step_ok h1, by
        rw [List.length_cons, Nat.pow_succ] at h2
        rw [Nat.mul_comm 2 m, Nat.mul_assoc, Nat.mul_comm 2]; exact h2⟩)).1
  show evSs _ G N b_played [some (.d (enc x)), some (.d (.str w)), none] [] = _
  unfold b_played
  rw [ss_nx hf]
  rfl
theorem sp_law_after {x : Nat × Nat} {w : List Nat} {m : Nat} (hx : Sg m x) (hm : m * 2 ^ w.length ≤ 32767) (hw : w.length ≤ line) : runP (phi T G N (k + 2)) G N f_law_after [enc x, .str w] = some (enc (afterP x w)) := by
  refine run_rt (hh := []) rfl ?_
  have hf := (for_fold (Φ := phi T G N (k + 2)) (G := G) (N := N) (p := .nm 2) (it := .var 1) (body := .cons (.asg (.pat (.nm 0)) (.call 22 (.cons (.var 0) (.cons (.var 2) .nil)))) (.cons (.fgt [2]) .nil)) (h := [])
    (fun c : Nat => D.str [c]) (fun x : Nat × Nat => [some (.d (enc x)), some (.d (.str w)), none]) (fun _ => []) stepP (fun r x => ∃ m, Sg m x ∧ m * 2 ^ r.length ≤ 32767) w x rfl (itemsS hw) rfl ⟨m, hx, hm⟩
    (fun x s r ⟨m, h1, h2⟩ => ⟨_, rfl, by
      have hp := Nat.two_pow_pos (s :: r).length
      have hb : 0 < x.2 ∧ x.2 < 32768 := ⟨h1.1, by
        have := Nat.mul_le_mul h1.2.1 hp
        have h3 := h1.2.1
        omega⟩
      simp only [envAt, evSs, evS, evE, evEs, evIf, evPart, evC, mkL, valsD, valD, pureL, ixW, ixD, setsE, unsetE, Pat.bind, Sh.bindL, dTy, isD, isNon, List.map_cons, List.map_nil, List.length_cons, List.length_nil, List.getElem?_cons_zero, List.getElem?_cons_succ, List.set_cons_zero, List.set_cons_succ, List.replicate, List.cons_append, List.nil_append, Option.bind_eq_bind, Option.bind_some, Option.map_some, Bool.not_true, Bool.not_false, if_true, if_false, reduceIte, Bool.false_eq_true, reduceCtorEq, Nat.reduceAdd, Nat.reduceSub, Nat.reduceLeDiff, zeroW, cellArg, Option.isSome_some, line_lit, Bool.and_self, Bool.true_and, Bool.and_true, Bool.false_and, Bool.and_false, Bool.or_true, Bool.true_or, Bool.or_false, Bool.false_or, Int.natAbs_natCast, Int.cast_ofNat_Int, Int.reduceLE, Int.reduceLT, Int.reduceEq, decide_true, decide_false, Nat.reduceLT, Nat.reduceEqDiff, List.length_nil, wipeE, eq_self, ph_law_step, sp_law_step N k s hb], 2 * m, step_ok h1, by
        rw [List.length_cons, Nat.pow_succ] at h2
        rw [Nat.mul_comm 2 m, Nat.mul_assoc, Nat.mul_comm 2]; exact h2⟩)).1
  show evSs _ G N b_law_after [some (.d (enc x)), some (.d (.str w)), none] [] = _
  unfold b_law_after
  rw [ss_nx hf]
  rfl
/-- all words of a length, in their order -/
def wstep (ws : List (List Nat)) : List (List Nat) := ws.flatMap fun w => [w ++ [102], w ++ [119]]
def wordsP (n : Nat) : List (List Nat) := it wstep n [[]]
theorem wstep_len (ws : List (List Nat)) : (wstep ws).length = 2 * ws.length := by
  induction ws with
  | nil => rfl
  | cons w ws ih =>
    unfold wstep at ih ⊢
    rw [List.flatMap_cons, List.length_append, ih, List.length_cons, List.length_cons, List.length_cons, List.length_nil]; omega
theorem wstep_mem {ws : List (List Nat)} {w : List Nat} (h : w ∈ wstep ws) : ∃ v ∈ ws, ∃ s, (s = 102 ∨ s = 119) ∧ w = v ++ [s] := by
  obtain ⟨v, hv, hw⟩ := List.mem_flatMap.mp h
  simp only [List.mem_cons, List.not_mem_nil, or_false] at hw
  rcases hw with rfl | rfl
  · exact ⟨v, hv, 102, .inl rfl, rfl⟩
  · exact ⟨v, hv, 119, .inr rfl, rfl⟩
/-- how many words, and how long -/
def Ws (n : Nat) (ws : List (List Nat)) : Prop := ws.length = 2 ^ n ∧ ∀ w ∈ ws, w.length = n
theorem ws_step {n : Nat} {ws : List (List Nat)} (h : Ws n ws) : Ws (n + 1) (wstep ws) := by
  refine ⟨by rw [wstep_len, h.1, Nat.pow_succ]; omega, fun w hw => ?_⟩
  obtain ⟨v, hv, s, _, rfl⟩ := wstep_mem hw
  rw [List.length_append, h.2 v hv]; rfl
theorem ws_it : ∀ (j n : Nat) (ws : List (List Nat)), Ws n ws → Ws (n + j) (it wstep j ws)
  | 0, n, ws, h => h
  | j + 1, n, ws, h => by
    have := ws_it j (n + 1) (wstep ws) (ws_step h)
    rw [show n + 1 + j = n + (j + 1) by omega] at this
    exact this
theorem ws_words (n : Nat) : Ws n (wordsP n) := by
  have := ws_it n 0 [[]] ⟨rfl, fun w hw => by simp at hw; subst hw; rfl⟩
  rw [Nat.zero_add] at this
  exact this
def wsD (ws : List (List Nat)) : D := .lst (ws.map D.str)
theorem sp_words_of (Φ : Nat → FSpec) {n : Nat} (hn : n ≤ 8) : runP Φ G N f_words_of [.int n] = some (wsD (wordsP n)) := by
  refine run_rt (hh := []) rfl ?_
  have hf := (for_fold (Φ := Φ) (G := G) (N := N) (p := .nm 2) (it := .rng (.cons (.var 0) .nil)) (body := (.cons (.asg (.pat (.nm 1)) (.mkl false (.comp2 [3, 4] [4] (.nm 3) (.var 1) .nil (.nm 4) (.lit (.str [102, 119])) .nil (.bin .add (.var 3) (.var 4))))) (.cons (.fgt [2]) .nil))) (h := [])
    (fun c : Nat => D.int c) (fun ws => [some (.d (.int n)), some (.d (wsD ws)), none, none, none]) (fun _ => []) (fun ws _ => wstep ws) (fun r ws => ∃ j, Ws j ws ∧ j + r.length ≤ 8) (List.range n) [[]] (rng_1 rfl rfl (by omega)) rfl rfl
    ⟨0, ⟨rfl, fun w hw => by simp at hw; subst hw; rfl⟩, by rw [List.length_range]; omega⟩
    (fun ws s r ⟨j, h1, h2⟩ => ⟨_, rfl, by
      rw [List.length_cons] at h2
      have hj : 2 ^ j ≤ 2 ^ 8 := Nat.pow_le_pow_right (by decide) (by omega)
      have hc := comp2_map (Φ := Φ) (G := G) (own := [3, 4]) (vs1 := [4]) (p := .nm 3) (p1 := .nm 4) (it := .var 1) (it1 := .lit (.str [102, 119])) (elt := .bin .add (.var 3) (.var 4)) (env := [some (.d (.int n)), some (.d (wsD ws)), some (.d (.int s)), none, none]) (h := []) (h0 := []) D.str ws (fun c : Nat => D.str [c]) (fun _ => [102, 119]) (fun w c => D.str (w ++ [c])) rfl rfl
        (fun w hw => ⟨_, _, rfl, rfl, rfl, fun c hc => ⟨_, rfl, by
          have hl := h1.2 w hw
          have hll : w.length + [c].length ≤ line := by rw [hl, List.length_cons, List.length_nil, line_lit]; omega
          simp only [envAt, evSs, evS, evE, evEs, evIf, evPart, evC, mkL, valsD, valD, pureL, ixW, ixD, setsE, unsetE, Pat.bind, Sh.bindL, dTy, isD, isNon, List.map_cons, List.map_nil, List.length_cons, List.length_nil, List.getElem?_cons_zero, List.getElem?_cons_succ, List.set_cons_zero, List.set_cons_succ, List.replicate, List.cons_append, List.nil_append, Option.bind_eq_bind, Option.bind_some, Option.map_some, Bool.not_true, Bool.not_false, if_true, if_false, reduceIte, Bool.false_eq_true, reduceCtorEq, Nat.reduceAdd, Nat.reduceSub, Nat.reduceLeDiff, zeroW, cellArg, Option.isSome_some, line_lit, Bool.and_self, Bool.true_and, Bool.and_true, Bool.false_and, Bool.and_false, Bool.or_true, Bool.true_or, Bool.or_false, Bool.false_or, Int.natAbs_natCast, Int.cast_ofNat_Int, Int.reduceLE, Int.reduceLT, Int.reduceEq, decide_true, decide_false, Nat.reduceLT, Nat.reduceEqDiff, List.length_nil, wipeE, eq_self, b_addS hll]⟩⟩) (by
          have e := wstep_len ws
          have e2 : (ws.flatMap fun b => [102, 119].map fun c => D.str (b ++ [c])).length = (wstep ws).length := by
            rw [show (ws.flatMap fun b => [102, 119].map fun c => D.str (b ++ [c])) = (wstep ws).map D.str by unfold wstep; rw [List.map_flatMap]; rfl, List.length_map]
          rw [e2, e, h1.1, line_lit]; omega)
      have e3 : (D.lst (ws.flatMap fun b => [102, 119].map fun c => D.str (b ++ [c]))) = wsD (wstep ws) := by unfold wsD wstep; rw [List.map_flatMap]; rfl
      rw [e3] at hc
      simp only [evSs, evS, Pat.bind, List.set_cons_zero, List.set_cons_succ, Option.bind_eq_bind, hc, Option.bind_some, unsetE], j + 1, ws_step h1, by rw [List.length_cons] at h2; omega⟩)).1
  rw [fold_it, List.length_range] at hf
  show evSs _ G N b_words_of [some (.d (.int n)), none, none, none, none] [] = _
  unfold b_words_of
  rw [ss_nx (e1 := [some (.d (.int n)), some (.d (wsD [[]])), none, none, none]) (h1 := []) rfl, ss_nx hf]
  rfl
theorem fold_app (ws : List (List Nat)) : ∀ acc : List (List Nat), ws.foldl (fun a w => a ++ [w ++ [102], w ++ [119]]) acc = acc ++ wstep ws := by
  induction ws with
  | nil => intro acc; exact (List.append_nil _).symm
  | cons w ws ih =>
    intro acc
    rw [List.foldl_cons, ih, List.append_assoc]
    rfl
theorem sp_law_words (Φ : Nat → FSpec) {n : Nat} (hn : n ≤ 8) : runP Φ G N f_law_words [.int n] = some (wsD (wordsP n)) := by
  refine run_rt (hh := []) rfl ?_
  have hf := (for_fold (Φ := Φ) (G := G) (N := N) (p := .nm 2) (it := .rng (.cons (.var 0) .nil)) (body := (.cons (.asg (.pat (.nm 3)) (.mkl false (.disp .nil))) (.cons (.for (.nm 4) (.var 1) (.cons (.asg (.pat (.nm 3)) (.bin .add (.var 3) (.mkl false (.disp (.cons (.bin .add (.var 4) (.lit (.str [102]))) (.cons (.bin .add (.var 4) (.lit (.str [119]))) .nil)))))) (.cons (.fgt [4]) .nil))) (.cons (.asg (.pat (.nm 1)) (.var 3)) (.cons (.fgt [2, 3, 4]) .nil))))) (h := [])
    (fun c : Nat => D.int c) (fun ws => [some (.d (.int n)), some (.d (wsD ws)), none, none, none]) (fun _ => []) (fun ws _ => wstep ws) (fun r ws => ∃ j, Ws j ws ∧ j + r.length ≤ 8) (List.range n) [[]] (rng_1 rfl rfl (by omega)) rfl rfl
    ⟨0, ⟨rfl, fun w hw => by simp at hw; subst hw; rfl⟩, by rw [List.length_range]; omega⟩
    (fun ws s r ⟨j, h1, h2⟩ => ⟨_, rfl, by
      rw [List.length_cons] at h2
      have hj : 2 ^ j ≤ 2 ^ 8 := Nat.pow_le_pow_right (by decide) (by omega)
      have hg := (for_fold (Φ := Φ) (G := G) (N := N) (p := .nm 4) (it := .var 1) (body := (.cons (.asg (.pat (.nm 3)) (.bin .add (.var 3) (.mkl false (.disp (.cons (.bin .add (.var 4) (.lit (.str [102]))) (.cons (.bin .add (.var 4) (.lit (.str [119]))) .nil)))))) (.cons (.fgt [4]) .nil))) (h := [])
        D.str (fun acc => [some (.d (.int n)), some (.d (wsD ws)), some (.d (.int s)), some (.d (wsD acc)), none]) (fun _ => []) (fun a w => a ++ [w ++ [102], w ++ [119]]) (fun q acc => acc.length + 2 * q.length ≤ 512 ∧ ∀ w ∈ q, w.length = j) ws [] rfl rfl rfl
        ⟨by rw [h1.1, List.length_nil]; omega, h1.2⟩
        (fun acc w q ⟨g1, g2⟩ => ⟨_, rfl, by
          have hl := g2 w List.mem_cons_self
          rw [List.length_cons] at g1
          have hll : ∀ c : Nat, w.length + [c].length ≤ line := fun c => by rw [hl, List.length_cons, List.length_nil, line_lit]; omega
          have hla : (acc.map D.str).length + [D.str (w ++ [102]), D.str (w ++ [119])].length ≤ line := by rw [List.length_map, List.length_cons, List.length_cons, List.length_nil, line_lit]; omega
          simp only [envAt, evSs, evS, evE, evEs, evIf, evPart, evC, mkL, valsD, valD, pureL, ixW, ixD, setsE, unsetE, Pat.bind, Sh.bindL, dTy, isD, isNon, List.map_cons, List.map_nil, List.length_cons, List.length_nil, List.getElem?_cons_zero, List.getElem?_cons_succ, List.set_cons_zero, List.set_cons_succ, List.replicate, List.cons_append, List.nil_append, Option.bind_eq_bind, Option.bind_some, Option.map_some, Bool.not_true, Bool.not_false, if_true, if_false, reduceIte, Bool.false_eq_true, reduceCtorEq, Nat.reduceAdd, Nat.reduceSub, Nat.reduceLeDiff, zeroW, cellArg, Option.isSome_some, line_lit, Bool.and_self, Bool.true_and, Bool.and_true, Bool.false_and, Bool.and_false, Bool.or_true, Bool.true_or, Bool.or_false, Bool.false_or, Int.natAbs_natCast, Int.cast_ofNat_Int, Int.reduceLE, Int.reduceLT, Int.reduceEq, decide_true, decide_false, Nat.reduceLT, Nat.reduceEqDiff, List.length_nil, wipeE, eq_self, b_addS (hll _), wsD, b_addL hla, List.map_append], by rw [List.length_append, List.length_cons, List.length_cons, List.length_nil]; rw [List.length_cons] at g1; omega, fun v hv => g2 v (List.mem_cons_of_mem _ hv)⟩)).1
      rw [fold_app, List.nil_append] at hg
      rw [ss_nx (e1 := [some (.d (.int n)), some (.d (wsD ws)), some (.d (.int s)), some (.d (wsD [])), none]) (h1 := []) rfl, ss_nx hg]
      rfl, j + 1, ws_step h1, by rw [List.length_cons] at h2; omega⟩)).1
  rw [fold_it, List.length_range] at hf
  show evSs _ G N b_law_words [some (.d (.int n)), none, none, none, none] [] = _
  unfold b_law_words
  rw [ss_nx (e1 := [some (.d (.int n)), some (.d (wsD [[]])), none, none, none]) (h1 := []) rfl, ss_nx hf]
  rfl
def lessP (x y : Nat × Nat) : Bool := decide (x.1 * y.2 < y.1 * x.2)
theorem less_cast (a b c d : Nat) : decide ((a : Int) * d < c * b) = decide (a * d < c * b) := by
  refine decide_eq_decide.mpr ?_
  rw [show (a : Int) * d = ((a * d : Nat) : Int) by push_cast; rfl, show (c : Int) * b = ((c * b : Nat) : Int) by push_cast; rfl]
  exact Int.ofNat_lt
theorem nat64' {a : Nat} (h : a < 1073741824) : b64 (a : Int) = true := b64_of ⟨by omega, by omega⟩
theorem sp_is_less (Φ : Nat → FSpec) {x y : Nat × Nat} (hx : x.2 < 1073741824) (hy : y.2 < 1073741824) : runP Φ G N f_is_less [enc x, enc y] = some (.bl (lessP x y)) := by
  obtain ⟨a, b⟩ := x
  obtain ⟨c, d⟩ := y
  simp only [] at hx hy
  refine run_rt (hh := []) rfl ?_
  simp only [f_is_less, b_is_less, envAt, evSs, evS, evE, evEs, evIf, evPart, evC, mkL, valsD, valD, pureL, ixW, ixD, setsE, unsetE, Pat.bind, Sh.bindL, dTy, isD, isNon, List.map_cons, List.map_nil, List.length_cons, List.length_nil, List.getElem?_cons_zero, List.getElem?_cons_succ, List.set_cons_zero, List.set_cons_succ, List.replicate, List.cons_append, List.nil_append, Option.bind_eq_bind, Option.bind_some, Option.map_some, Bool.not_true, Bool.not_false, if_true, if_false, reduceIte, Bool.false_eq_true, reduceCtorEq, Nat.reduceAdd, Nat.reduceSub, Nat.reduceLeDiff, zeroW, cellArg, Option.isSome_some, line_lit, Bool.and_self, Bool.true_and, Bool.and_true, Bool.false_and, Bool.and_false, Bool.or_true, Bool.true_or, Bool.or_false, Bool.false_or, Int.natAbs_natCast, Int.cast_ofNat_Int, Int.reduceLE, Int.reduceLT, Int.reduceEq, decide_true, decide_false, Nat.reduceLT, Nat.reduceEqDiff, List.length_nil, wipeE, eq_self, enc, ix0, ix1, b_mulR (nat64' hx), b_mulR (nat64' hy), b_ltI, less_cast, lessP]
end
end L76

namespace L76
open PySem PySem.Spec PyProof.Rows L2 Sh
section
variable (N k : Nat)
abbrev Best := Option ((Nat × Nat) × List Nat)
def encB : Best → D
  | none => .non
  | some (o, w) => .tup [enc o, .str w]
def bestS (start goal : Nat × Nat) (b : Best) (w : List Nat) : Best := match b with
  | none => some (offP (afterP start w) goal, w)
  | some (o, v) => if lessP (offP (afterP start w) goal) o = true then some (offP (afterP start w) goal, w) else some (o, v)
def nearestP (start goal : Nat × Nat) (n : Nat) : Best := (wordsP n).foldl (bestS start goal) none
theorem sg_lt {m n : Nat} {x : Nat × Nat} {w : List Nat} (h : Sg m x) (hn : m * 2 ^ n ≤ 16384) (hw : w.length = n) : 0 < (afterP x w).2 ∧ (afterP x w).2 < 32768 := by
  have := after_ok w h
  rw [hw] at this
  exact ⟨this.1, by have := this.2.1; omega⟩
theorem off_lt {x y : Nat × Nat} (hx : 0 < x.2 ∧ x.2 < 32768) (hy : 0 < y.2 ∧ y.2 < 32768) : 0 < (offP x y).2 ∧ (offP x y).2 < 1073741824 := by
  have hb : 0 < x.2 * y.2 := Nat.mul_pos hx.1 hy.1
  have hb2 : x.2 * y.2 < 32768 * 32768 := Nat.mul_lt_mul'' hx.2 hy.2
  obtain ⟨q1, q2, _⟩ := cutP_ok (a := dif (x.1 * y.2) (y.1 * x.2)) hb
  exact ⟨q1, by show (cutP _ _).2 < _; omega⟩
/-- the best so far keeps its bounds -/
def BestOk (b : Best) : Prop := ∀ o w, b = some (o, w) → 0 < o.2 ∧ o.2 < 1073741824
theorem best_ok {start goal : Nat × Nat} {b : Best} {w : List Nat} (hb : BestOk b) (hx : 0 < (afterP start w).2 ∧ (afterP start w).2 < 32768) (hy : 0 < goal.2 ∧ goal.2 < 32768) : BestOk (bestS start goal b w) := by
  intro o v e
  unfold bestS at e
  split at e
  · cases e; exact off_lt hx hy
  · split at e
    · cases e; exact off_lt hx hy
    · cases e; exact hb _ _ rfl
theorem sp_nearest {start goal : Nat × Nat} {m n : Nat} (hs : Sg m start) (hm : m ≤ 64) (hg : Sg 64 goal) (hn : m * 2 ^ n ≤ 16384) (h8 : n ≤ 8) : runP (phi T G N (k + 4)) G N f_nearest [enc start, enc goal, .int n] = some (encB (nearestP start goal n)) := by
  refine run_rt (hh := []) rfl ?_
  have hs64 : Sg 64 start := ⟨hs.1, Nat.le_trans hs.2.1 hm, hs.2.2.1, hs.2.2.2⟩
  have hgl : 0 < goal.2 ∧ goal.2 < 32768 := ⟨hg.1, by have := hg.2.1; omega⟩
  have hW := ws_words n
  have hf := (for_fold (Φ := phi T G N (k + 4)) (G := G) (N := N) (p := .nm 4) (it := .call 9 (.cons (.var 2) .nil)) (body := (.cons (.asg (.pat (.nm 5)) (.call 11 (.cons (.call 13 (.cons (.var 0) (.cons (.var 4) .nil))) (.cons (.var 1) .nil)))) (.cons (.ite (.or (.bin .is (.var 3) (.lit .non)) (.call 14 (.cons (.var 5) (.cons (.ix (.var 3) (.lit (.int 0))) .nil)))) (.cons (.asg (.pat (.nm 3)) (.tup (.cons (.var 5) (.cons (.var 4) .nil)))) .nil) .nil) (.cons (.fgt [4, 5]) .nil)))) (h := []) (x := wsD (wordsP n))
    D.str (fun b => [some (.d (enc start)), some (.d (enc goal)), some (.d (.int n)), some (.d (encB b)), none, none]) (fun _ => []) (bestS start goal) (fun r b => (∀ w ∈ r, w.length = n) ∧ BestOk b) (wordsP n) none
    (by simp only [envAt, evSs, evS, evE, evEs, evIf, evPart, evC, mkL, valsD, valD, pureL, ixW, ixD, setsE, unsetE, Pat.bind, Sh.bindL, dTy, isD, isNon, List.map_cons, List.map_nil, List.length_cons, List.length_nil, List.getElem?_cons_zero, List.getElem?_cons_succ, List.set_cons_zero, List.set_cons_succ, List.replicate, List.cons_append, List.nil_append, Option.bind_eq_bind, Option.bind_some, Option.map_some, Bool.not_true, Bool.not_false, if_true, if_false, reduceIte, Bool.false_eq_true, reduceCtorEq, Nat.reduceAdd, Nat.reduceSub, Nat.reduceLeDiff, zeroW, cellArg, Option.isSome_some, line_lit, Bool.and_self, Bool.true_and, Bool.and_true, Bool.false_and, Bool.and_false, Bool.or_true, Bool.true_or, Bool.or_false, Bool.false_or, Int.natAbs_natCast, Int.cast_ofNat_Int, Int.reduceLE, Int.reduceLT, Int.reduceEq, decide_true, decide_false, Nat.reduceLT, Nat.reduceEqDiff, List.length_nil, wipeE, eq_self, ph_words_of, sp_words_of N _ h8]) rfl rfl ⟨hW.2, fun _ _ z => by cases z⟩
    (fun b w r ⟨h1, h2⟩ => ⟨_, rfl, by
      have hw := h1 w List.mem_cons_self
      have ha := sg_lt hs hn hw
      have hwl : w.length ≤ line := by rw [hw, line_lit]; omega
      have hm2 : m * 2 ^ w.length ≤ 32767 := by rw [hw]; omega
      have ho := off_lt ha hgl
      have e1 := sp_played N (k + 1) hs hm2 hwl
      have e2 := sp_off_of N (k + 2) ha hgl
      cases b with
      | none => simp only [envAt, evSs, evS, evE, evEs, evIf, evPart, evC, mkL, valsD, valD, pureL, ixW, ixD, setsE, unsetE, Pat.bind, Sh.bindL, dTy, isD, isNon, List.map_cons, List.map_nil, List.length_cons, List.length_nil, List.getElem?_cons_zero, List.getElem?_cons_succ, List.set_cons_zero, List.set_cons_succ, List.replicate, List.cons_append, List.nil_append, Option.bind_eq_bind, Option.bind_some, Option.map_some, Bool.not_true, Bool.not_false, if_true, if_false, reduceIte, Bool.false_eq_true, reduceCtorEq, Nat.reduceAdd, Nat.reduceSub, Nat.reduceLeDiff, zeroW, cellArg, Option.isSome_some, line_lit, Bool.and_self, Bool.true_and, Bool.and_true, Bool.false_and, Bool.and_false, Bool.or_true, Bool.true_or, Bool.or_false, Bool.false_or, Int.natAbs_natCast, Int.cast_ofNat_Int, Int.reduceLE, Int.reduceLT, Int.reduceEq, decide_true, decide_false, Nat.reduceLT, Nat.reduceEqDiff, List.length_nil, wipeE, eq_self, ph_played, e1, ph_off_of, e2, encB, b_isN, bestS]
      | some p =>
        obtain ⟨o, v⟩ := p
        have e3 := sp_is_less N (phi T G N (k + 3)) ho.2 (h2 o v rfl).2
        cases hl : lessP (offP (afterP start w) goal) o with
        | true => simp only [envAt, evSs, evS, evE, evEs, evIf, evPart, evC, mkL, valsD, valD, pureL, ixW, ixD, setsE, unsetE, Pat.bind, Sh.bindL, dTy, isD, isNon, List.map_cons, List.map_nil, List.length_cons, List.length_nil, List.getElem?_cons_zero, List.getElem?_cons_succ, List.set_cons_zero, List.set_cons_succ, List.replicate, List.cons_append, List.nil_append, Option.bind_eq_bind, Option.bind_some, Option.map_some, Bool.not_true, Bool.not_false, if_true, if_false, reduceIte, Bool.false_eq_true, reduceCtorEq, Nat.reduceAdd, Nat.reduceSub, Nat.reduceLeDiff, zeroW, cellArg, Option.isSome_some, line_lit, Bool.and_self, Bool.true_and, Bool.and_true, Bool.false_and, Bool.and_false, Bool.or_true, Bool.true_or, Bool.or_false, Bool.false_or, Int.natAbs_natCast, Int.cast_ofNat_Int, Int.reduceLE, Int.reduceLT, Int.reduceEq, decide_true, decide_false, Nat.reduceLT, Nat.reduceEqDiff, List.length_nil, wipeE, eq_self, ph_played, e1, ph_off_of, e2, encB, b_isN, ix0, ph_is_less, e3, hl, bestS]
        | false => simp only [envAt, evSs, evS, evE, evEs, evIf, evPart, evC, mkL, valsD, valD, pureL, ixW, ixD, setsE, unsetE, Pat.bind, Sh.bindL, dTy, isD, isNon, List.map_cons, List.map_nil, List.length_cons, List.length_nil, List.getElem?_cons_zero, List.getElem?_cons_succ, List.set_cons_zero, List.set_cons_succ, List.replicate, List.cons_append, List.nil_append, Option.bind_eq_bind, Option.bind_some, Option.map_some, Bool.not_true, Bool.not_false, if_true, if_false, reduceIte, Bool.false_eq_true, reduceCtorEq, Nat.reduceAdd, Nat.reduceSub, Nat.reduceLeDiff, zeroW, cellArg, Option.isSome_some, line_lit, Bool.and_self, Bool.true_and, Bool.and_true, Bool.false_and, Bool.and_false, Bool.or_true, Bool.true_or, Bool.or_false, Bool.false_or, Int.natAbs_natCast, Int.cast_ofNat_Int, Int.reduceLE, Int.reduceLT, Int.reduceEq, decide_true, decide_false, Nat.reduceLT, Nat.reduceEqDiff, List.length_nil, wipeE, eq_self, ph_played, e1, ph_off_of, e2, encB, b_isN, ix0, ph_is_less, e3, hl, bestS], fun v hv => h1 v (List.mem_cons_of_mem _ hv), best_ok h2 (sg_lt hs hn (h1 w List.mem_cons_self)) hgl⟩)).1
  show evSs _ G N b_nearest [some (.d (enc start)), some (.d (enc goal)), some (.d (.int n)), none, none, none] [] = _
  unfold b_nearest
  rw [ss_nx (e1 := [some (.d (enc start)), some (.d (enc goal)), some (.d (.int n)), none, none, none]) (h1 := []) (by simp only [envAt, evSs, evS, evE, evEs, evIf, evPart, evC, mkL, valsD, valD, pureL, ixW, ixD, setsE, unsetE, Pat.bind, Sh.bindL, dTy, isD, isNon, List.map_cons, List.map_nil, List.length_cons, List.length_nil, List.getElem?_cons_zero, List.getElem?_cons_succ, List.set_cons_zero, List.set_cons_succ, List.replicate, List.cons_append, List.nil_append, Option.bind_eq_bind, Option.bind_some, Option.map_some, Bool.not_true, Bool.not_false, if_true, if_false, reduceIte, Bool.false_eq_true, reduceCtorEq, Nat.reduceAdd, Nat.reduceSub, Nat.reduceLeDiff, zeroW, cellArg, Option.isSome_some, line_lit, Bool.and_self, Bool.true_and, Bool.and_true, Bool.false_and, Bool.and_false, Bool.or_true, Bool.true_or, Bool.or_false, Bool.false_or, Int.natAbs_natCast, Int.cast_ofNat_Int, Int.reduceLE, Int.reduceLT, Int.reduceEq, decide_true, decide_false, Nat.reduceLT, Nat.reduceEqDiff, List.length_nil, wipeE, eq_self, ph_need_both, sp_need_both N k hs64 hg]),
    ss_nx (e1 := [some (.d (enc start)), some (.d (enc goal)), some (.d (.int n)), none, none, none]) (h1 := []) (by simp only [envAt, evSs, evS, evE, evEs, evIf, evPart, evC, mkL, valsD, valD, pureL, ixW, ixD, setsE, unsetE, Pat.bind, Sh.bindL, dTy, isD, isNon, List.map_cons, List.map_nil, List.length_cons, List.length_nil, List.getElem?_cons_zero, List.getElem?_cons_succ, List.set_cons_zero, List.set_cons_succ, List.replicate, List.cons_append, List.nil_append, Option.bind_eq_bind, Option.bind_some, Option.map_some, Bool.not_true, Bool.not_false, if_true, if_false, reduceIte, Bool.false_eq_true, reduceCtorEq, Nat.reduceAdd, Nat.reduceSub, Nat.reduceLeDiff, zeroW, cellArg, Option.isSome_some, line_lit, Bool.and_self, Bool.true_and, Bool.and_true, Bool.false_and, Bool.and_false, Bool.or_true, Bool.true_or, Bool.or_false, Bool.false_or, Int.natAbs_natCast, Int.cast_ofNat_Int, Int.reduceLE, Int.reduceLT, Int.reduceEq, decide_true, decide_false, Nat.reduceLT, Nat.reduceEqDiff, List.length_nil, wipeE, eq_self, ph_need_steps, sp_need_steps N (k + 2) h8]),
    ss_nx (e1 := [some (.d (enc start)), some (.d (enc goal)), some (.d (.int n)), some (.d (encB none)), none, none]) (h1 := []) rfl, ss_nx hf]
  rfl
end
end L76

namespace L76
open PySem PySem.Spec PyProof.Rows L2 Sh
mutual
def sm : D → Bool
  | .tup xs => smL xs && decide (xs.length ≤ line)
  | .int _ => true
  | .str _ => true
  | .non => true
  | .bl _ => true
  | _ => false
def smL : List D → Bool
  | [] => true
  | x :: r => sm x && smL r
end
theorem smL_mem : ∀ {xs : List D}, smL xs = true → ∀ x ∈ xs, sm x = true
  | [], _, x, h => by cases h
  | y :: ys, h, x, hx => by
    simp only [smL, Bool.and_eq_true] at h
    rcases List.mem_cons.mp hx with rfl | hx
    · exact h.1
    · exact smL_mem h.2 x hx
theorem depL_mem : ∀ {xs : List D}, ∀ x ∈ xs, dep x ≤ depL xs
  | y :: ys, x, hx => by
    simp only [depL]
    rcases List.mem_cons.mp hx with rfl | hx
    · exact Nat.le_max_left _ _
    · exact Nat.le_trans (depL_mem x hx) (Nat.le_max_right _ _)
theorem all_true {β : Type} : ∀ (l : List β), (l.map fun _ => true).all id = true
  | [] => rfl
  | _ :: l => by rw [List.map_cons, List.all_cons, all_true l]; rfl
section
variable (N : Nat)
theorem same_ok : ∀ (n : Nat) (d : D), sm d = true → dep d ≤ n → ∀ k, runP (phi T G N (k + n)) G N f_law_same [d, d] = some (.bl true)
  | n, .non, _, _, k => by
    refine run_rt (hh := []) rfl ?_
    simp only [f_law_same, b_law_same, envAt, evSs, evS, evE, evEs, evIf, evPart, evC, mkL, valsD, valD, pureL, ixW, ixD, setsE, unsetE, Pat.bind, Sh.bindL, dTy, isD, isNon, List.map_cons, List.map_nil, List.length_cons, List.length_nil, List.getElem?_cons_zero, List.getElem?_cons_succ, List.set_cons_zero, List.set_cons_succ, List.replicate, List.cons_append, List.nil_append, Option.bind_eq_bind, Option.bind_some, Option.map_some, Bool.not_true, Bool.not_false, if_true, if_false, reduceIte, Bool.false_eq_true, reduceCtorEq, Nat.reduceAdd, Nat.reduceSub, Nat.reduceLeDiff, zeroW, cellArg, Option.isSome_some, line_lit, Bool.and_self, Bool.true_and, Bool.and_true, Bool.false_and, Bool.and_false, Bool.or_true, Bool.true_or, Bool.or_false, Bool.false_or, Int.natAbs_natCast, Int.cast_ofNat_Int, Int.reduceLE, Int.reduceLT, Int.reduceEq, decide_true, decide_false, Nat.reduceLT, Nat.reduceEqDiff, List.length_nil, wipeE, eq_self, b_isN]
  | n, .bl b, _, _, k => by
    refine run_rt (hh := []) rfl ?_
    cases b <;> simp only [f_law_same, b_law_same, envAt, evSs, evS, evE, evEs, evIf, evPart, evC, mkL, valsD, valD, pureL, ixW, ixD, setsE, unsetE, Pat.bind, Sh.bindL, dTy, isD, isNon, List.map_cons, List.map_nil, List.length_cons, List.length_nil, List.getElem?_cons_zero, List.getElem?_cons_succ, List.set_cons_zero, List.set_cons_succ, List.replicate, List.cons_append, List.nil_append, Option.bind_eq_bind, Option.bind_some, Option.map_some, Bool.not_true, Bool.not_false, if_true, if_false, reduceIte, Bool.false_eq_true, reduceCtorEq, Nat.reduceAdd, Nat.reduceSub, Nat.reduceLeDiff, zeroW, cellArg, Option.isSome_some, line_lit, Bool.and_self, Bool.true_and, Bool.and_true, Bool.false_and, Bool.and_false, Bool.or_true, Bool.true_or, Bool.or_false, Bool.false_or, Int.natAbs_natCast, Int.cast_ofNat_Int, Int.reduceLE, Int.reduceLT, Int.reduceEq, decide_true, decide_false, Nat.reduceLT, Nat.reduceEqDiff, List.length_nil, wipeE, eq_self, b_isN, b_isB]
  | n, .int i, _, _, k => by
    refine run_rt (hh := []) rfl ?_
    simp only [f_law_same, b_law_same, envAt, evSs, evS, evE, evEs, evIf, evPart, evC, mkL, valsD, valD, pureL, ixW, ixD, setsE, unsetE, Pat.bind, Sh.bindL, dTy, isD, isNon, List.map_cons, List.map_nil, List.length_cons, List.length_nil, List.getElem?_cons_zero, List.getElem?_cons_succ, List.set_cons_zero, List.set_cons_succ, List.replicate, List.cons_append, List.nil_append, Option.bind_eq_bind, Option.bind_some, Option.map_some, Bool.not_true, Bool.not_false, if_true, if_false, reduceIte, Bool.false_eq_true, reduceCtorEq, Nat.reduceAdd, Nat.reduceSub, Nat.reduceLeDiff, zeroW, cellArg, Option.isSome_some, line_lit, Bool.and_self, Bool.true_and, Bool.and_true, Bool.false_and, Bool.and_false, Bool.or_true, Bool.true_or, Bool.or_false, Bool.false_or, Int.natAbs_natCast, Int.cast_ofNat_Int, Int.reduceLE, Int.reduceLT, Int.reduceEq, decide_true, decide_false, Nat.reduceLT, Nat.reduceEqDiff, List.length_nil, wipeE, eq_self, b_isN, f_int1, b_eqI]
  | n, .str s, _, _, k => by
    refine run_rt (hh := []) rfl ?_
    simp only [f_law_same, b_law_same, envAt, evSs, evS, evE, evEs, evIf, evPart, evC, mkL, valsD, valD, pureL, ixW, ixD, setsE, unsetE, Pat.bind, Sh.bindL, dTy, isD, isNon, List.map_cons, List.map_nil, List.length_cons, List.length_nil, List.getElem?_cons_zero, List.getElem?_cons_succ, List.set_cons_zero, List.set_cons_succ, List.replicate, List.cons_append, List.nil_append, Option.bind_eq_bind, Option.bind_some, Option.map_some, Bool.not_true, Bool.not_false, if_true, if_false, reduceIte, Bool.false_eq_true, reduceCtorEq, Nat.reduceAdd, Nat.reduceSub, Nat.reduceLeDiff, zeroW, cellArg, Option.isSome_some, line_lit, Bool.and_self, Bool.true_and, Bool.and_true, Bool.false_and, Bool.and_false, Bool.or_true, Bool.true_or, Bool.or_false, Bool.false_or, Int.natAbs_natCast, Int.cast_ofNat_Int, Int.reduceLE, Int.reduceLT, Int.reduceEq, decide_true, decide_false, Nat.reduceLT, Nat.reduceEqDiff, List.length_nil, wipeE, eq_self, b_isN, f_str1, b_eqS, beq_self_eq_true]
  | 0, .tup xs, _, h, _ => by simp only [dep] at h; omega
  | n + 1, .tup xs, h, hd, k => by
    simp only [sm, Bool.and_eq_true, decide_eq_true_eq] at h
    simp only [dep] at hd
    refine run_rt (hh := []) rfl ?_
    have hc := comp_map (Φ := phi T G N (k + (n + 1))) (G := G) (own := [2]) (p := .nm 2) (it := .rng (.cons (.bif .len (.cons (.var 1) .nil)) .nil)) (elt := .call 1 (.cons (.ix (.var 0) (.var 2)) (.cons (.ix (.var 1) (.var 2)) .nil))) (env := [some (.d (.tup xs)), some (.d (.tup xs)), none]) (h := []) (h0 := [])
      (fun c : Nat => D.int c) (List.range xs.length) (fun _ => D.bl true) (rng_1 (n := xs.length) (by simp only [envAt, evSs, evS, evE, evEs, evIf, evPart, evC, mkL, valsD, valD, pureL, ixW, ixD, setsE, unsetE, Pat.bind, Sh.bindL, dTy, isD, isNon, List.map_cons, List.map_nil, List.length_cons, List.length_nil, List.getElem?_cons_zero, List.getElem?_cons_succ, List.set_cons_zero, List.set_cons_succ, List.replicate, List.cons_append, List.nil_append, Option.bind_eq_bind, Option.bind_some, Option.map_some, Bool.not_true, Bool.not_false, if_true, if_false, reduceIte, Bool.false_eq_true, reduceCtorEq, Nat.reduceAdd, Nat.reduceSub, Nat.reduceLeDiff, zeroW, cellArg, Option.isSome_some, line_lit, Bool.and_self, Bool.true_and, Bool.and_true, Bool.false_and, Bool.and_false, Bool.or_true, Bool.true_or, Bool.or_false, Bool.false_or, Int.natAbs_natCast, Int.cast_ofNat_Int, Int.reduceLE, Int.reduceLT, Int.reduceEq, decide_true, decide_false, Nat.reduceLT, Nat.reduceEqDiff, List.length_nil, wipeE, eq_self, f_lenT]) rfl (by have := h.2; rw [line_lit] at this; exact this)) rfl
      (fun c hc => ⟨_, rfl, by
        have hl := List.mem_range.mp hc
        have hx : atI xs (c : Int) = some xs[c] := Sh.atI_nat (List.getElem?_eq_getElem hl)
        have hm : xs[c] ∈ xs := List.getElem_mem hl
        have ih := same_ok n xs[c] (smL_mem h.1 _ hm) (by have := depL_mem _ hm; omega) k
        simp only [envAt, evSs, evS, evE, evEs, evIf, evPart, evC, mkL, valsD, valD, pureL, ixW, ixD, setsE, unsetE, Pat.bind, Sh.bindL, dTy, isD, isNon, List.map_cons, List.map_nil, List.length_cons, List.length_nil, List.getElem?_cons_zero, List.getElem?_cons_succ, List.set_cons_zero, List.set_cons_succ, List.replicate, List.cons_append, List.nil_append, Option.bind_eq_bind, Option.bind_some, Option.map_some, Bool.not_true, Bool.not_false, if_true, if_false, reduceIte, Bool.false_eq_true, reduceCtorEq, Nat.reduceAdd, Nat.reduceSub, Nat.reduceLeDiff, zeroW, cellArg, Option.isSome_some, line_lit, Bool.and_self, Bool.true_and, Bool.and_true, Bool.false_and, Bool.and_false, Bool.or_true, Bool.true_or, Bool.or_false, Bool.false_or, Int.natAbs_natCast, Int.cast_ofNat_Int, Int.reduceLE, Int.reduceLT, Int.reduceEq, decide_true, decide_false, Nat.reduceLT, Nat.reduceEqDiff, List.length_nil, wipeE, eq_self, hx]
        rw [show k + (n + 1) = (k + n) + 1 from rfl]
        simp only [ph_law_same, ih, envAt, evSs, evS, evE, evEs, evIf, evPart, evC, mkL, valsD, valD, pureL, ixW, ixD, setsE, unsetE, Pat.bind, Sh.bindL, dTy, isD, isNon, List.map_cons, List.map_nil, List.length_cons, List.length_nil, List.getElem?_cons_zero, List.getElem?_cons_succ, List.set_cons_zero, List.set_cons_succ, List.replicate, List.cons_append, List.nil_append, Option.bind_eq_bind, Option.bind_some, Option.map_some, Bool.not_true, Bool.not_false, if_true, if_false, reduceIte, Bool.false_eq_true, reduceCtorEq, Nat.reduceAdd, Nat.reduceSub, Nat.reduceLeDiff, zeroW, cellArg, Option.isSome_some, line_lit, Bool.and_self, Bool.true_and, Bool.and_true, Bool.false_and, Bool.and_false, Bool.or_true, Bool.true_or, Bool.or_false, Bool.false_or, Int.natAbs_natCast, Int.cast_ofNat_Int, Int.reduceLE, Int.reduceLT, Int.reduceEq, decide_true, decide_false, Nat.reduceLT, Nat.reduceEqDiff, List.length_nil, wipeE, eq_self]⟩) (by rw [List.length_range]; exact h.2)
    have ha : bifD .all [.lst ((List.range xs.length).map fun _ => D.bl true)] = some (.bl true) := by
      have := f_all ((List.range xs.length).map fun _ => true)
      rw [List.map_map, all_true] at this
      exact this
    show evSs _ G N b_law_same [some (.d (.tup xs)), some (.d (.tup xs)), none] [] = _
    unfold b_law_same
    refine ss_rt ?_
    rw [ite_t (h1 := []) (by simp only [envAt, evSs, evS, evE, evEs, evIf, evPart, evC, mkL, valsD, valD, pureL, ixW, ixD, setsE, unsetE, Pat.bind, Sh.bindL, dTy, isD, isNon, List.map_cons, List.map_nil, List.length_cons, List.length_nil, List.getElem?_cons_zero, List.getElem?_cons_succ, List.set_cons_zero, List.set_cons_succ, List.replicate, List.cons_append, List.nil_append, Option.bind_eq_bind, Option.bind_some, Option.map_some, Bool.not_true, Bool.not_false, if_true, if_false, reduceIte, Bool.false_eq_true, reduceCtorEq, Nat.reduceAdd, Nat.reduceSub, Nat.reduceLeDiff, zeroW, cellArg, Option.isSome_some, line_lit, Bool.and_self, Bool.true_and, Bool.and_true, Bool.false_and, Bool.and_false, Bool.or_true, Bool.true_or, Bool.or_false, Bool.false_or, Int.natAbs_natCast, Int.cast_ofNat_Int, Int.reduceLE, Int.reduceLT, Int.reduceEq, decide_true, decide_false, Nat.reduceLT, Nat.reduceEqDiff, List.length_nil, wipeE, eq_self]), ss_nx (e1 := [some (.d (.tup xs)), some (.d (.tup xs)), none]) (h1 := []) (by
      rw [ite_f (h1 := []) (by simp only [envAt, evSs, evS, evE, evEs, evIf, evPart, evC, mkL, valsD, valD, pureL, ixW, ixD, setsE, unsetE, Pat.bind, Sh.bindL, dTy, isD, isNon, List.map_cons, List.map_nil, List.length_cons, List.length_nil, List.getElem?_cons_zero, List.getElem?_cons_succ, List.set_cons_zero, List.set_cons_succ, List.replicate, List.cons_append, List.nil_append, Option.bind_eq_bind, Option.bind_some, Option.map_some, Bool.not_true, Bool.not_false, if_true, if_false, reduceIte, Bool.false_eq_true, reduceCtorEq, Nat.reduceAdd, Nat.reduceSub, Nat.reduceLeDiff, zeroW, cellArg, Option.isSome_some, line_lit, Bool.and_self, Bool.true_and, Bool.and_true, Bool.false_and, Bool.and_false, Bool.or_true, Bool.true_or, Bool.or_false, Bool.false_or, Int.natAbs_natCast, Int.cast_ofNat_Int, Int.reduceLE, Int.reduceLT, Int.reduceEq, decide_true, decide_false, Nat.reduceLT, Nat.reduceEqDiff, List.length_nil, wipeE, eq_self, f_lenT, b_neI])]; rfl)]
    exact ss_rt (s_ret (bif1 hc rfl ha))
  | _, .lst _, h, _, _ => by simp [sm] at h
  | _, .dct _ _, h, _, _ => by simp [sm] at h
  | _, .scr _, h, _, _ => by simp [sm] at h
end
end L76

/-! k76: the fractions -/
namespace L76
open PySem PySem.Spec PyProof.Rows L2 Sh
theorem dif_mul (a b c : Nat) : dif (a * c) (b * c) = dif a b * c := by
  unfold dif; rw [Nat.add_mul, Nat.sub_mul, Nat.sub_mul]
theorem dif_add (a b c : Nat) : dif (a + c) (b + c) = dif a b := by unfold dif; omega
/-- how near a fraction is to the goal, in parts of p -/
def nearB (p : Nat) (goal y : Nat × Nat) : Prop := dif (y.1 * goal.2) (goal.1 * y.2) * p ≤ y.2 * goal.2
theorem near_off {p : Nat} {goal y : Nat × Nat} (hy : 0 < y.2) (hg : 0 < goal.2) : nearB p goal y ↔ (offP y goal).1 * p ≤ (offP y goal).2 := by
  have hb : 0 < y.2 * goal.2 := Nat.mul_pos hy hg
  obtain ⟨q1, _, q3, _⟩ := cutP_ok (a := dif (y.1 * goal.2) (goal.1 * y.2)) hb
  unfold nearB
  show _ ↔ (cutP (dif (y.1 * goal.2) (goal.1 * y.2)) (y.2 * goal.2)).1 * p ≤ (cutP (dif (y.1 * goal.2) (goal.1 * y.2)) (y.2 * goal.2)).2
  generalize cutP (dif (y.1 * goal.2) (goal.1 * y.2)) (y.2 * goal.2) = c at *
  generalize dif (y.1 * goal.2) (goal.1 * y.2) = D at *
  generalize y.2 * goal.2 = B at *
  constructor
  · intro h
    refine Nat.le_of_mul_le_mul_right ?_ hb
    calc c.1 * p * B = c.1 * B * p := by ac_rfl
      _ = D * c.2 * p := by rw [q3]
      _ = D * p * c.2 := by ac_rfl
      _ ≤ B * c.2 := Nat.mul_le_mul_right _ h
      _ = c.2 * B := Nat.mul_comm _ _
  · intro h
    refine Nat.le_of_mul_le_mul_right ?_ q1
    calc D * p * c.2 = D * c.2 * p := by ac_rfl
      _ = c.1 * B * p := by rw [q3]
      _ = c.1 * p * B := by ac_rfl
      _ ≤ c.2 * B := Nat.mul_le_mul_right _ h
      _ = B * c.2 := Nat.mul_comm _ _
theorem step_near {p : Nat} {g y : Nat × Nat} {s : Nat} (hy : 0 < y.2) (hg : 0 < g.2) (g' : Nat) (hs : 2 * g.1 = g' + (if s = 102 then g.2 else 0)) (h : nearB p (g', g.2) y) : nearB (2 * p) g (stepP y s) := by
  have hb : 0 < 2 * y.2 := by omega
  obtain ⟨q1, _, q3, _⟩ := cutP_ok (a := y.1 + (if s = 102 then y.2 else 0)) hb
  unfold nearB at h ⊢
  unfold stepP
  generalize cutP (y.1 + (if s = 102 then y.2 else 0)) (2 * y.2) = z at *
  simp only [] at h
  refine Nat.le_of_mul_le_mul_right ?_ hb
  have e : dif (z.1 * g.2) (g.1 * z.2) * (2 * y.2) = dif (y.1 * g.2) (g' * y.2) * z.2 := by
    rw [← dif_mul, ← dif_mul]
    have e1 : z.1 * g.2 * (2 * y.2) = (y.1 + (if s = 102 then y.2 else 0)) * z.2 * g.2 := by rw [← q3]; ac_rfl
    have e2 : g.1 * z.2 * (2 * y.2) = (g' + (if s = 102 then g.2 else 0)) * y.2 * z.2 := by rw [← hs]; ac_rfl
    rw [e1, e2]
    by_cases c : s = 102
    · rw [if_pos c, if_pos c, Nat.add_mul, Nat.add_mul, Nat.add_mul, Nat.add_mul]
      have e3 : g.2 * y.2 * z.2 = y.2 * z.2 * g.2 := by ac_rfl
      rw [e3, dif_add]
      have e4 : y.1 * z.2 * g.2 = y.1 * g.2 * z.2 := by ac_rfl
      rw [e4]
    · rw [if_neg c, if_neg c, Nat.add_zero, Nat.add_zero]
      have e4 : y.1 * z.2 * g.2 = y.1 * g.2 * z.2 := by ac_rfl
      rw [e4]
  calc dif (z.1 * g.2) (g.1 * z.2) * (2 * p) * (2 * y.2) = dif (z.1 * g.2) (g.1 * z.2) * (2 * y.2) * (2 * p) := by ac_rfl
    _ = dif (y.1 * g.2) (g' * y.2) * p * (2 * z.2) := by rw [e]; ac_rfl
    _ ≤ y.2 * g.2 * (2 * z.2) := Nat.mul_le_mul_right _ h
    _ = z.2 * g.2 * (2 * y.2) := by ac_rfl
theorem words_succ (n : Nat) : wordsP (n + 1) = wstep (wordsP n) := it_succ _ _ _
theorem after_snoc (x : Nat × Nat) (w : List Nat) (s : Nat) : afterP x (w ++ [s]) = stepP (afterP x w) s := by
  unfold afterP; rw [List.foldl_append]; rfl
theorem mem_step {ws : List (List Nat)} {w : List Nat} {s : Nat} (h : w ∈ ws) (hs : s = 102 ∨ s = 119) : w ++ [s] ∈ wstep ws := by
  refine List.mem_flatMap.mpr ⟨w, h, ?_⟩
  rcases hs with rfl | rfl <;> simp
/-- there is a word whose end is within one part of 2^n of the goal -/
theorem near_ex {x : Nat × Nat} {m : Nat} (hx : Sg m x) : ∀ (n : Nat) (g : Nat × Nat), 0 < g.2 → g.1 ≤ g.2 → ∃ w ∈ wordsP n, nearB (2 ^ n) g (afterP x w)
  | 0, g, h0, h1 => ⟨[], by simp [wordsP, it], by
    obtain ⟨q1, _, q3, _⟩ := hx
    unfold nearB
    show dif (x.1 * g.2) (g.1 * x.2) * 2 ^ 0 ≤ x.2 * g.2
    have a1 : x.1 * g.2 ≤ x.2 * g.2 := Nat.mul_le_mul_right _ q3
    have a2 : g.1 * x.2 ≤ g.2 * x.2 := Nat.mul_le_mul_right _ h1
    rw [Nat.mul_comm g.2] at a2
    unfold dif
    omega⟩
  | n + 1, g, h0, h1 => by
    by_cases c : g.2 ≤ 2 * g.1
    · obtain ⟨w, hw, hn⟩ := near_ex hx n (2 * g.1 - g.2, g.2) h0 (by show 2 * g.1 - g.2 ≤ g.2; omega)
      refine ⟨w ++ [102], by rw [words_succ]; exact mem_step hw (.inl rfl), ?_⟩
      rw [after_snoc, Nat.pow_succ, Nat.mul_comm]
      exact step_near (after_ok w hx).1 h0 (2 * g.1 - g.2) (by rw [if_pos rfl]; omega) hn
    · obtain ⟨w, hw, hn⟩ := near_ex hx n (2 * g.1, g.2) h0 (by show 2 * g.1 ≤ g.2; omega)
      refine ⟨w ++ [119], by rw [words_succ]; exact mem_step hw (.inr rfl), ?_⟩
      rw [after_snoc, Nat.pow_succ, Nat.mul_comm]
      exact step_near (after_ok w hx).1 h0 (2 * g.1) (by rw [if_neg (by decide)]; rfl) hn
/-- the best of the words -/
theorem best_min {start goal : Nat × Nat} (hpos : ∀ w, 0 < (offP (afterP start w) goal).2) : ∀ (ws : List (List Nat)) (b : Best) (seen : List (List Nat)), (∀ o w, b = some (o, w) → o = offP (afterP start w) goal ∧ ∀ v ∈ seen, o.1 * (offP (afterP start v) goal).2 ≤ (offP (afterP start v) goal).1 * o.2) → (b = none → seen = []) →
    ∀ o w, ws.foldl (bestS start goal) b = some (o, w) → o = offP (afterP start w) goal ∧ ∀ v ∈ seen ++ ws, o.1 * (offP (afterP start v) goal).2 ≤ (offP (afterP start v) goal).1 * o.2
  | [], b, seen, h1, h2, o, w, e => by rw [List.append_nil]; exact h1 o w e
  | x :: ws, b, seen, h1, h2, o, w, e => by
    rw [List.foldl_cons] at e
    have := best_min hpos ws (bestS start goal b x) (seen ++ [x]) ?_ ?_ o w e
    · rw [List.append_assoc] at this; exact this
    · intro o' w' e'
      unfold bestS at e'
      split at e'
      · cases e'
        refine ⟨rfl, fun v hv => ?_⟩
        rw [h2 rfl] at hv
        simp at hv
        subst hv
        exact Nat.le_of_eq (by rw [Nat.mul_comm])
      · rename_i o1 v1
        obtain ⟨k1, k2⟩ := h1 o1 v1 rfl
        split at e'
        · rename_i hl
          cases e'
          refine ⟨rfl, fun v hv => ?_⟩
          simp only [lessP, decide_eq_true_eq] at hl
          rcases List.mem_append.mp hv with hv | hv
          · have a := k2 v hv
            have p1 : 0 < o1.2 := by rw [k1]; exact hpos _
            refine Nat.le_of_mul_le_mul_right ?_ p1
            generalize offP (afterP start x) goal = ox at *
            generalize offP (afterP start v) goal = ov at *
            calc ox.1 * ov.2 * o1.2 = ox.1 * o1.2 * ov.2 := by ac_rfl
              _ ≤ o1.1 * ox.2 * ov.2 := Nat.mul_le_mul_right _ (Nat.le_of_lt hl)
              _ = o1.1 * ov.2 * ox.2 := by ac_rfl
              _ ≤ ov.1 * o1.2 * ox.2 := Nat.mul_le_mul_right _ a
              _ = ov.1 * ox.2 * o1.2 := by ac_rfl
          · simp at hv
            subst hv
            exact Nat.le_of_eq (by rw [Nat.mul_comm])
        · rename_i hl
          cases e'
          refine ⟨k1, fun v hv => ?_⟩
          rcases List.mem_append.mp hv with hv | hv
          · exact k2 v hv
          · simp at hv
            subst hv
            simp only [lessP, decide_eq_true_eq, Nat.not_lt] at hl
            exact hl
    · intro hb
      unfold bestS at hb
      split at hb
      · cases hb
      · split at hb <;> cases hb
theorem best_some {start goal : Nat × Nat} : ∀ (ws : List (List Nat)) (p : (Nat × Nat) × List Nat), ∃ q, ws.foldl (bestS start goal) (some p) = some q
  | [], p => ⟨p, rfl⟩
  | x :: ws, p => by
    rw [List.foldl_cons]
    unfold bestS
    obtain ⟨o, v⟩ := p
    simp only []
    split
    · exact best_some ws _
    · exact best_some ws _
end L76

/-! k76: soonest, after -/
namespace L76
open PySem PySem.Spec PyProof.Rows L2 Sh
theorem best_mem {start goal : Nat × Nat} : ∀ (ws : List (List Nat)) (b : Best) (o : Nat × Nat) (w : List Nat), ws.foldl (bestS start goal) b = some (o, w) → w ∈ ws ∨ b = some (o, w)
  | [], b, o, w, e => .inr e
  | x :: ws, b, o, w, e => by
    rw [List.foldl_cons] at e
    rcases best_mem ws _ o w e with h | h
    · exact .inl (List.mem_cons_of_mem _ h)
    · unfold bestS at h
      split at h
      · cases h; exact .inl List.mem_cons_self
      · split at h
        · cases h; exact .inl List.mem_cons_self
        · exact .inr h
theorem off_pos {start goal : Nat × Nat} {m : Nat} (hs : Sg m start) (hg : 0 < goal.2) (w : List Nat) : 0 < (offP (afterP start w) goal).2 :=
  (cutP_ok (Nat.mul_pos (after_ok w hs).1 hg)).1
theorem nearest_ok {start goal : Nat × Nat} {m m' n : Nat} (hs : Sg m start) (hg : Sg m' goal) : ∃ o w, nearestP start goal n = some (o, w) ∧ w ∈ wordsP n ∧ o = offP (afterP start w) goal ∧ o.1 * 2 ^ n ≤ o.2 := by
  have hW := ws_words n
  have hp := Nat.two_pow_pos n
  obtain ⟨o, w, e⟩ : ∃ o w, nearestP start goal n = some (o, w) := by
    unfold nearestP
    cases h : wordsP n with
    | nil => have := hW.1; rw [h, List.length_nil] at this; omega
    | cons x ws =>
      rw [List.foldl_cons]
      obtain ⟨q, hq⟩ := best_some (start := start) (goal := goal) ws (offP (afterP start x) goal, x)
      exact ⟨q.1, q.2, hq⟩
  obtain ⟨h1, h2⟩ := best_min (off_pos hs hg.1) (wordsP n) none [] (fun _ _ z => by cases z) (fun _ => rfl) o w e
  refine ⟨o, w, e, ?_, h1, ?_⟩
  · rcases best_mem _ _ _ _ e with h | h
    · exact h
    · cases h
  · obtain ⟨v, hv, hn⟩ := near_ex hs n goal hg.1 hg.2.2.1
    have a := h2 v hv
    have b := (near_off (after_ok v hs).1 hg.1).mp hn
    have p1 := off_pos hs hg.1 v
    refine Nat.le_of_mul_le_mul_right ?_ p1
    generalize offP (afterP start v) goal = ov at *
    calc o.1 * 2 ^ n * ov.2 = o.1 * ov.2 * 2 ^ n := by ac_rfl
      _ ≤ ov.1 * o.2 * 2 ^ n := Nat.mul_le_mul_right _ a
      _ = ov.1 * 2 ^ n * o.2 := by ac_rfl
      _ ≤ ov.2 * o.2 := Nat.mul_le_mul_right _ b
      _ = o.2 * ov.2 := Nat.mul_comm _ _
/-- some word of n steps ends within 1/fine -/
def nr (start goal : Nat × Nat) (fine n : Nat) : Bool := (wordsP n).any fun w => decide ((offP (afterP start w) goal).1 * fine ≤ (offP (afterP start w) goal).2)
theorem first_of {p : Nat → Bool} : ∀ n, p n = true → ∃ j, j ≤ n ∧ p j = true ∧ ∀ i, i < j → p i = false
  | 0, h => ⟨0, Nat.le_refl _, h, fun i hi => absurd hi (Nat.not_lt_zero i)⟩
  | n + 1, h => by
    by_cases c : ∃ i, i ≤ n ∧ p i = true
    · obtain ⟨i, hi, hp⟩ := c
      have aux : ∀ k i, i ≤ k → p i = true → ∃ j, j ≤ i ∧ p j = true ∧ ∀ l, l < j → p l = false := by
        intro k
        induction k with
        | zero => intro i hi hp; exact ⟨i, Nat.le_refl _, hp, fun l hl => by omega⟩
        | succ k ih =>
          intro i hi hp
          by_cases c : ∃ l, l < i ∧ p l = true
          · obtain ⟨l, hl, hpl⟩ := c
            obtain ⟨j, h1, h2, h3⟩ := ih l (by omega) hpl
            exact ⟨j, by omega, h2, h3⟩
          · exact ⟨i, Nat.le_refl _, hp, fun l hl => by
              cases hq : p l with
              | false => rfl
              | true => exact absurd ⟨l, hl, hq⟩ c⟩
      obtain ⟨j, h1, h2, h3⟩ := aux i i (Nat.le_refl _) hp
      exact ⟨j, by omega, h2, h3⟩
    · exact ⟨n + 1, Nat.le_refl _, h, fun i hi => by
        cases hq : p i with
        | false => rfl
        | true => exact absurd ⟨i, by omega, hq⟩ c⟩
theorem nr_ex {start goal : Nat × Nat} {m m' fine n : Nat} (hs : Sg m start) (hg : Sg m' goal) (hf : fine ≤ 2 ^ n) : nr start goal fine n = true := by
  obtain ⟨v, hv, hn⟩ := near_ex hs n goal hg.1 hg.2.2.1
  have b := (near_off (after_ok v hs).1 hg.1).mp hn
  unfold nr
  rw [List.any_eq_true]
  exact ⟨v, hv, decide_eq_true (Nat.le_trans (Nat.mul_le_mul_left _ hf) b)⟩
def lineP (start : Nat × Nat) (j : Nat) : List (Nat × Nat) := (wordsP j).map (afterP start)
theorem line_succ (start : Nat × Nat) (j : Nat) : lineP start (j + 1) = (lineP start j).flatMap fun x => [102, 119].map fun c => stepP x c := by
  unfold lineP
  rw [words_succ]
  generalize wordsP j = ws
  induction ws with
  | nil => rfl
  | cons w ws ih =>
    unfold wstep at ih ⊢
    simp only [List.flatMap_cons, List.map_append, List.map_cons, List.map_nil, after_snoc] at ih ⊢
    rw [ih]
theorem line_all (start goal : Nat × Nat) (fine j : Nat) : ((lineP start j).map fun x => lessP (1, fine) (offP x goal)).all id = !nr start goal fine j := by
  unfold lineP nr
  generalize wordsP j = ws
  induction ws with
  | nil => rfl
  | cons w ws ih =>
    rw [List.map_cons, List.map_cons, List.all_cons, ih, List.any_cons, Bool.not_or]
    congr 1
    show lessP (1, fine) (offP (afterP start w) goal) = _
    unfold lessP
    rw [← decide_not]
    refine decide_eq_decide.mpr ?_
    simp only [Nat.one_mul, Nat.not_le]
section
variable (N k : Nat)
theorem line_sg {start : Nat × Nat} {m j : Nat} (hs : Sg m start) (hm : m * 2 ^ j ≤ 16384) : ∀ x ∈ lineP start j, 0 < x.2 ∧ x.2 < 32768 := by
  intro x hx
  obtain ⟨w, hw, rfl⟩ := List.mem_map.mp hx
  exact sg_lt hs hm ((ws_words j).2 w hw)
theorem sp_soonest {start goal : Nat × Nat} {m fine n : Nat} (hN : 10 ≤ N) (hs : Sg m start) (hm : m ≤ 64) (hg : Sg 64 goal) (hn : m * 2 ^ n ≤ 16384) (h8 : n ≤ 8) (hf : 1 ≤ fine ∧ fine ≤ 1000) (h1 : nr start goal fine n = true) (h2 : ∀ j, j < n → nr start goal fine j = false) :
    runP (phi T G N (k + 4)) G N f_soonest [enc start, enc goal, .int fine] = some (.int n) := by
  refine run_rt (hh := []) rfl ?_
  have hs64 : Sg 64 start := ⟨hs.1, Nat.le_trans hs.2.1 hm, hs.2.2.1, hs.2.2.2⟩
  have hgl : 0 < goal.2 ∧ goal.2 < 32768 := ⟨hg.1, by have := hg.2.1; omega⟩
  have hmj : ∀ j, j ≤ n → m * 2 ^ j ≤ 16384 := fun j hj => Nat.le_trans (Nat.mul_le_mul_left _ (Nat.pow_le_pow_right (by decide) hj)) hn
  have hlen : ∀ j, j ≤ 9 → (lineP start j).length ≤ 512 := fun j hj => by
    unfold lineP
    rw [List.length_map, (ws_words j).1]
    exact Nat.le_trans (Nat.pow_le_pow_right (by decide) hj) (by decide)
  have hw := while_s N (Φ := phi T G N (k + 4)) (G := G) (c := .bif .all (.cons (.mkl false (.comp [5] (.nm 5) (.var 4) .nil (.call 14 (.cons (.tup (.cons (.lit (.int 1)) (.cons (.var 2) .nil))) (.cons (.call 11 (.cons (.var 5) (.cons (.var 1) .nil))) .nil))))) .nil))
    (body := .cons (.par [3, 4] (.cons (.bin .add (.var 3) (.lit (.int 1))) (.cons (.mkl false (.comp2 [5, 6] [6] (.nm 5) (.var 4) .nil (.nm 6) (.lit (.str [102, 119])) .nil (.call 12 (.cons (.var 5) (.cons (.var 6) .nil))))) .nil))) .nil)
    (fun j => [some (.d (enc start)), some (.d (enc goal)), some (.d (.int fine)), some (.d (.int j)), some (.d (.lst ((lineP start j).map enc))), none, none]) [] n (fun j => !nr start goal fine j)
    (fun j hj => by
      have hc := comp_map (Φ := phi T G N (k + 4)) (G := G) (own := [5]) (p := .nm 5) (it := .var 4) (elt := .call 14 (.cons (.tup (.cons (.lit (.int 1)) (.cons (.var 2) .nil))) (.cons (.call 11 (.cons (.var 5) (.cons (.var 1) .nil))) .nil)))
        (env := [some (.d (enc start)), some (.d (enc goal)), some (.d (.int fine)), some (.d (.int j)), some (.d (.lst ((lineP start j).map enc))), none, none]) (h := []) (h0 := []) (x := .lst ((lineP start j).map enc)) enc (lineP start j) (fun x => D.bl (lessP (1, fine) (offP x goal))) rfl rfl
        (fun x hx => ⟨_, rfl, by
          have hx2 := line_sg hs (hmj j hj) x hx
          have e1 : D.tup [.int 1, .int fine] = enc (1, fine) := rfl
          have e2 := sp_off_of N (k + 2) hx2 hgl
          have e3 := sp_is_less N (phi T G N (k + 3)) (x := (1, fine)) (y := offP x goal) (by show fine < _; omega) (off_lt hx2 hgl).2
          simp only [envAt, evSs, evS, evE, evEs, evIf, evPart, evC, mkL, valsD, valD, pureL, ixW, ixD, setsE, unsetE, Pat.bind, Sh.bindL, dTy, isD, isNon, List.map_cons, List.map_nil, List.length_cons, List.length_nil, List.getElem?_cons_zero, List.getElem?_cons_succ, List.set_cons_zero, List.set_cons_succ, List.replicate, List.cons_append, List.nil_append, Option.bind_eq_bind, Option.bind_some, Option.map_some, Bool.not_true, Bool.not_false, if_true, if_false, reduceIte, Bool.false_eq_true, reduceCtorEq, Nat.reduceAdd, Nat.reduceSub, Nat.reduceLeDiff, zeroW, cellArg, Option.isSome_some, line_lit, Bool.and_self, Bool.true_and, Bool.and_true, Bool.false_and, Bool.and_false, Bool.or_true, Bool.true_or, Bool.or_false, Bool.false_or, Int.natAbs_natCast, Int.cast_ofNat_Int, Int.reduceLE, Int.reduceLT, Int.reduceEq, decide_true, decide_false, Nat.reduceLT, Nat.reduceEqDiff, List.length_nil, wipeE, eq_self, e1, ph_off_of, e2, ph_is_less, e3]⟩) (by have := hlen j (by omega); rw [line_lit]; omega)
      have ha := f_all ((lineP start j).map fun x => lessP (1, fine) (offP x goal))
      rw [line_all, List.map_map] at ha
      exact bif1 hc rfl ha)
    (fun j hj => by simp only [h2 j hj, Bool.not_false]) (by simp only [h1, Bool.not_true])
    (fun j hj => by
      have hc := comp2_map (Φ := phi T G N (k + 4)) (G := G) (own := [5, 6]) (vs1 := [6]) (p := .nm 5) (p1 := .nm 6) (it := .var 4) (it1 := .lit (.str [102, 119])) (elt := .call 12 (.cons (.var 5) (.cons (.var 6) .nil)))
        (env := [some (.d (enc start)), some (.d (enc goal)), some (.d (.int fine)), some (.d (.int j)), some (.d (.lst ((lineP start j).map enc))), none, none]) (h := []) (h0 := []) (x := .lst ((lineP start j).map enc)) enc (lineP start j) (fun c : Nat => D.str [c]) (fun _ => [102, 119]) (fun x c => enc (stepP x c)) rfl rfl
        (fun x hx => ⟨_, _, rfl, rfl, rfl, fun c hc => ⟨_, rfl, by
          have hx2 := line_sg hs (hmj j (by omega)) x hx
          simp only [envAt, evSs, evS, evE, evEs, evIf, evPart, evC, mkL, valsD, valD, pureL, ixW, ixD, setsE, unsetE, Pat.bind, Sh.bindL, dTy, isD, isNon, List.map_cons, List.map_nil, List.length_cons, List.length_nil, List.getElem?_cons_zero, List.getElem?_cons_succ, List.set_cons_zero, List.set_cons_succ, List.replicate, List.cons_append, List.nil_append, Option.bind_eq_bind, Option.bind_some, Option.map_some, Bool.not_true, Bool.not_false, if_true, if_false, reduceIte, Bool.false_eq_true, reduceCtorEq, Nat.reduceAdd, Nat.reduceSub, Nat.reduceLeDiff, zeroW, cellArg, Option.isSome_some, line_lit, Bool.and_self, Bool.true_and, Bool.and_true, Bool.false_and, Bool.and_false, Bool.or_true, Bool.true_or, Bool.or_false, Bool.false_or, Int.natAbs_natCast, Int.cast_ofNat_Int, Int.reduceLE, Int.reduceLT, Int.reduceEq, decide_true, decide_false, Nat.reduceLT, Nat.reduceEqDiff, List.length_nil, wipeE, eq_self, ph_stepped, sp_stepped N (k + 2) c hx2]⟩⟩) (by
          have e : ((lineP start j).flatMap fun x => [102, 119].map fun c => enc (stepP x c)) = (lineP start (j + 1)).map enc := by
            rw [line_succ, List.map_flatMap]; rfl
          rw [e, List.length_map]
          have := hlen (j + 1) (by omega); rw [line_lit]; omega)
      have e : ((lineP start j).flatMap fun x => [102, 119].map fun c => enc (stepP x c)) = (lineP start (j + 1)).map enc := by
        rw [line_succ, List.map_flatMap]; rfl
      rw [e] at hc
      have e2 : ((j : Int) + 1) = ((j + 1 : Nat) : Int) := by push_cast; rfl
      have hb : evE (phi T G N (k + 4)) G (.bin .add (.var 3) (.lit (.int 1))) [some (.d (enc start)), some (.d (enc goal)), some (.d (.int fine)), some (.d (.int j)), some (.d (.lst ((lineP start j).map enc))), none, none] [] = some (.d (.int ((j + 1 : Nat) : Int)), []) := by simp only [envAt, evSs, evS, evE, evEs, evIf, evPart, evC, mkL, valsD, valD, pureL, ixW, ixD, setsE, unsetE, Pat.bind, Sh.bindL, dTy, isD, isNon, List.map_cons, List.map_nil, List.length_cons, List.length_nil, List.getElem?_cons_zero, List.getElem?_cons_succ, List.set_cons_zero, List.set_cons_succ, List.replicate, List.cons_append, List.nil_append, Option.bind_eq_bind, Option.bind_some, Option.map_some, Bool.not_true, Bool.not_false, if_true, if_false, reduceIte, Bool.false_eq_true, reduceCtorEq, Nat.reduceAdd, Nat.reduceSub, Nat.reduceLeDiff, zeroW, cellArg, Option.isSome_some, line_lit, Bool.and_self, Bool.true_and, Bool.and_true, Bool.false_and, Bool.and_false, Bool.or_true, Bool.true_or, Bool.or_false, Bool.false_or, Int.natAbs_natCast, Int.cast_ofNat_Int, Int.reduceLE, Int.reduceLT, Int.reduceEq, decide_true, decide_false, Nat.reduceLT, Nat.reduceEqDiff, List.length_nil, wipeE, eq_self, b_addI, e2]
      simp only [evSs, evS, evEs, hb, hc, Option.bind_eq_bind, Option.bind_some, setsE, List.set_cons_zero, List.set_cons_succ]) (by omega)
  have q1 : decide ((1 : Int) ≤ fine) = true := decide_eq_true (by omega)
  have q2 : decide ((fine : Int) ≤ 1000) = true := decide_eq_true (by omega)
  show evSs _ G N b_soonest [some (.d (enc start)), some (.d (enc goal)), some (.d (.int fine)), none, none, none, none] [] = _
  unfold b_soonest
  rw [ss_nx (e1 := [some (.d (enc start)), some (.d (enc goal)), some (.d (.int fine)), none, none, none, none]) (h1 := []) (by simp only [envAt, evSs, evS, evE, evEs, evIf, evPart, evC, mkL, valsD, valD, pureL, ixW, ixD, setsE, unsetE, Pat.bind, Sh.bindL, dTy, isD, isNon, List.map_cons, List.map_nil, List.length_cons, List.length_nil, List.getElem?_cons_zero, List.getElem?_cons_succ, List.set_cons_zero, List.set_cons_succ, List.replicate, List.cons_append, List.nil_append, Option.bind_eq_bind, Option.bind_some, Option.map_some, Bool.not_true, Bool.not_false, if_true, if_false, reduceIte, Bool.false_eq_true, reduceCtorEq, Nat.reduceAdd, Nat.reduceSub, Nat.reduceLeDiff, zeroW, cellArg, Option.isSome_some, line_lit, Bool.and_self, Bool.true_and, Bool.and_true, Bool.false_and, Bool.and_false, Bool.or_true, Bool.true_or, Bool.or_false, Bool.false_or, Int.natAbs_natCast, Int.cast_ofNat_Int, Int.reduceLE, Int.reduceLT, Int.reduceEq, decide_true, decide_false, Nat.reduceLT, Nat.reduceEqDiff, List.length_nil, wipeE, eq_self, ph_need_both, sp_need_both N k hs64 hg]),
    ss_nx (e1 := [some (.d (enc start)), some (.d (enc goal)), some (.d (.int fine)), none, none, none, none]) (h1 := []) (by simp only [envAt, evSs, evS, evE, evEs, evIf, evPart, evC, mkL, valsD, valD, pureL, ixW, ixD, setsE, unsetE, Pat.bind, Sh.bindL, dTy, isD, isNon, List.map_cons, List.map_nil, List.length_cons, List.length_nil, List.getElem?_cons_zero, List.getElem?_cons_succ, List.set_cons_zero, List.set_cons_succ, List.replicate, List.cons_append, List.nil_append, Option.bind_eq_bind, Option.bind_some, Option.map_some, Bool.not_true, Bool.not_false, if_true, if_false, reduceIte, Bool.false_eq_true, reduceCtorEq, Nat.reduceAdd, Nat.reduceSub, Nat.reduceLeDiff, zeroW, cellArg, Option.isSome_some, line_lit, Bool.and_self, Bool.true_and, Bool.and_true, Bool.false_and, Bool.and_false, Bool.or_true, Bool.true_or, Bool.or_false, Bool.false_or, Int.natAbs_natCast, Int.cast_ofNat_Int, Int.reduceLE, Int.reduceLT, Int.reduceEq, decide_true, decide_false, Nat.reduceLT, Nat.reduceEqDiff, List.length_nil, wipeE, eq_self, ph_is_whole, sp_is_whole, G, q1, q2]),
    ss_nx (e1 := [some (.d (enc start)), some (.d (enc goal)), some (.d (.int fine)), some (.d (.int ((0 : Nat) : Int))), some (.d (.lst ((lineP start 0).map enc))), none, none]) (h1 := []) rfl, ss_nx hw]
  exact ss_rt rfl
theorem fw_mem {c : Nat} (h : c = 102 ∨ c = 119) : binD .mem (.str [c]) (.str [102, 119]) = some (.bl true) := by
  have e : ∀ x y, binD .mem (.str x) (.str y) = some (.bl (inS x y)) := fun _ _ => rfl
  have h1 : inS [102] [102, 119] = true := by decide +kernel
  have h2 : inS [119] [102, 119] = true := by decide +kernel
  rcases h with rfl | rfl
  · rw [e, h1]
  · rw [e, h2]
theorem words_fw : ∀ (n : Nat) (w : List Nat), w ∈ wordsP n → ∀ c ∈ w, c = 102 ∨ c = 119
  | 0, w, h, c, hc => by simp [wordsP, it] at h; subst h; cases hc
  | n + 1, w, h, c, hc => by
    rw [words_succ] at h
    obtain ⟨v, hv, s, hs, rfl⟩ := wstep_mem h
    rcases List.mem_append.mp hc with hc | hc
    · exact words_fw n v hv c hc
    · simp at hc; subst hc; exact hs
theorem sp_fits_word (Φ : Nat → FSpec) {w : List Nat} (hl : w.length ≤ 16) (hc : ∀ c ∈ w, c = 102 ∨ c = 119) : runP Φ G N f_fits_word [.str w] = some (.bl true) := by
  refine run_rt (hh := []) rfl ?_
  have hw : w.length ≤ line := by rw [line_lit]; omega
  have q1 : decide ((w.length : Int) ≤ 16) = true := decide_eq_true (by omega)
  have h := comp_map (Φ := Φ) (G := G) (own := [1]) (p := .nm 1) (it := .var 0) (elt := .bin .mem (.var 1) (.lit (.str [102, 119]))) (env := [some (.d (.str w)), none]) (h := []) (h0 := []) (x := .str w) (fun c : Nat => D.str [c]) w (fun _ => D.bl true) rfl (itemsS hw)
    (fun c hc' => ⟨_, rfl, by simp only [envAt, evSs, evS, evE, evEs, evIf, evPart, evC, mkL, valsD, valD, pureL, ixW, ixD, setsE, unsetE, Pat.bind, Sh.bindL, dTy, isD, isNon, List.map_cons, List.map_nil, List.length_cons, List.length_nil, List.getElem?_cons_zero, List.getElem?_cons_succ, List.set_cons_zero, List.set_cons_succ, List.replicate, List.cons_append, List.nil_append, Option.bind_eq_bind, Option.bind_some, Option.map_some, Bool.not_true, Bool.not_false, if_true, if_false, reduceIte, Bool.false_eq_true, reduceCtorEq, Nat.reduceAdd, Nat.reduceSub, Nat.reduceLeDiff, zeroW, cellArg, Option.isSome_some, line_lit, Bool.and_self, Bool.true_and, Bool.and_true, Bool.false_and, Bool.and_false, Bool.or_true, Bool.true_or, Bool.or_false, Bool.false_or, Int.natAbs_natCast, Int.cast_ofNat_Int, Int.reduceLE, Int.reduceLT, Int.reduceEq, decide_true, decide_false, Nat.reduceLT, Nat.reduceEqDiff, List.length_nil, wipeE, eq_self, fw_mem (hc c hc')]⟩) hw
  have ha := f_all (w.map fun _ => true)
  rw [List.map_map, all_true] at ha
  have h2 := bif1 (b := .all) h rfl ha
  show evSs Φ G N b_fits_word [some (.d (.str w)), none] [] = _
  unfold b_fits_word
  refine ss_rt (s_ret ?_)
  simp only [evE, evEs] at h2 ⊢
  simp only [envAt, evSs, evS, evE, evEs, evIf, evPart, evC, mkL, valsD, valD, pureL, ixW, ixD, setsE, unsetE, Pat.bind, Sh.bindL, dTy, isD, isNon, List.map_cons, List.map_nil, List.length_cons, List.length_nil, List.getElem?_cons_zero, List.getElem?_cons_succ, List.set_cons_zero, List.set_cons_succ, List.replicate, List.cons_append, List.nil_append, Option.bind_eq_bind, Option.bind_some, Option.map_some, Bool.not_true, Bool.not_false, if_true, if_false, reduceIte, Bool.false_eq_true, reduceCtorEq, Nat.reduceAdd, Nat.reduceSub, Nat.reduceLeDiff, zeroW, cellArg, Option.isSome_some, line_lit, Bool.and_self, Bool.true_and, Bool.and_true, Bool.false_and, Bool.and_false, Bool.or_true, Bool.true_or, Bool.or_false, Bool.false_or, Int.natAbs_natCast, Int.cast_ofNat_Int, Int.reduceLE, Int.reduceLT, Int.reduceEq, decide_true, decide_false, Nat.reduceLT, Nat.reduceEqDiff, List.length_nil, wipeE, eq_self, f_lenS hw, b_leI, G, q1] at h2 ⊢
  exact h2
theorem sp_after {start : Nat × Nat} {m : Nat} {w : List Nat} (hs : Sg m start) (hm : m ≤ 64) (hn : m * 2 ^ w.length ≤ 32767) (hl : w.length ≤ 16) (hc : ∀ c ∈ w, c = 102 ∨ c = 119) : runP (phi T G N (k + 3)) G N f_after [enc start, .str w] = some (enc (afterP start w)) := by
  have hs64 : Sg 64 start := ⟨hs.1, Nat.le_trans hs.2.1 hm, hs.2.2.1, hs.2.2.2⟩
  have e0 : runP (phi T G N (k + 2)) G N f_need_word [.str w] = some .non := by
    refine run_nx (hh := []) (env := [some (.d (.str w))]) rfl ?_
    simp only [f_need_word, b_need_word, envAt, evSs, evS, evE, evEs, evIf, evPart, evC, mkL, valsD, valD, pureL, ixW, ixD, setsE, unsetE, Pat.bind, Sh.bindL, dTy, isD, isNon, List.map_cons, List.map_nil, List.length_cons, List.length_nil, List.getElem?_cons_zero, List.getElem?_cons_succ, List.set_cons_zero, List.set_cons_succ, List.replicate, List.cons_append, List.nil_append, Option.bind_eq_bind, Option.bind_some, Option.map_some, Bool.not_true, Bool.not_false, if_true, if_false, reduceIte, Bool.false_eq_true, reduceCtorEq, Nat.reduceAdd, Nat.reduceSub, Nat.reduceLeDiff, zeroW, cellArg, Option.isSome_some, line_lit, Bool.and_self, Bool.true_and, Bool.and_true, Bool.false_and, Bool.and_false, Bool.or_true, Bool.true_or, Bool.or_false, Bool.false_or, Int.natAbs_natCast, Int.cast_ofNat_Int, Int.reduceLE, Int.reduceLT, Int.reduceEq, decide_true, decide_false, Nat.reduceLT, Nat.reduceEqDiff, List.length_nil, wipeE, eq_self, ph_fits_word, sp_fits_word N _ hl hc]
  refine run_rt (hh := []) rfl ?_
  simp only [f_after, b_after, envAt, evSs, evS, evE, evEs, evIf, evPart, evC, mkL, valsD, valD, pureL, ixW, ixD, setsE, unsetE, Pat.bind, Sh.bindL, dTy, isD, isNon, List.map_cons, List.map_nil, List.length_cons, List.length_nil, List.getElem?_cons_zero, List.getElem?_cons_succ, List.set_cons_zero, List.set_cons_succ, List.replicate, List.cons_append, List.nil_append, Option.bind_eq_bind, Option.bind_some, Option.map_some, Bool.not_true, Bool.not_false, if_true, if_false, reduceIte, Bool.false_eq_true, reduceCtorEq, Nat.reduceAdd, Nat.reduceSub, Nat.reduceLeDiff, zeroW, cellArg, Option.isSome_some, line_lit, Bool.and_self, Bool.true_and, Bool.and_true, Bool.false_and, Bool.and_false, Bool.or_true, Bool.true_or, Bool.or_false, Bool.false_or, Int.natAbs_natCast, Int.cast_ofNat_Int, Int.reduceLE, Int.reduceLT, Int.reduceEq, decide_true, decide_false, Nat.reduceLT, Nat.reduceEqDiff, List.length_nil, wipeE, eq_self, ph_need_strength, sp_need_strength N k hs64, ph_need_word, e0, ph_played, sp_played N k hs hn (by rw [line_lit]; omega)]
end
end L76

/-! k76: the law -/
namespace L76
open PySem PySem.Spec PyProof.Rows L2 Sh
def hcup (c : Int × Int) : DH := [.lst ((cupD c).map W.d)]
theorem call_c {Φ : Nat → FSpec} {G : Nat → D} {f : Nat} {es : Es} {env : Sh.Env} {h : DH} {ws : List W} {c c' : Int × Int} {g : List W → List D → Option (D × List D)} {r : D} (he : evEs Φ G es env h = some (ws, hcup c)) (hf : Φ f = .cell g) (hn : cellArg ws = some 0) (hg : g (ws.map zeroW) (cupD c) = some (r, cupD c')) :
    evE Φ G (.call f es) env h = some (.d r, hcup c') := by
  simp only [evE, he, hf, hn, Option.bind_eq_bind, Option.bind_some, hcup, List.getElem?_cons_zero, pureL_ds, hg, List.set_cons_zero]
theorem run_cup {Φ : Nat → FSpec} {G : Nat → D} {N : Nat} {fd : FD} {ws : List W} {c c' : Int × Int} {d : D} (hl : ws.length = fd.np) (e : evSs Φ G N fd.body (envAt fd.N.length ws) (hcup c) = some (.rt (.d d) (hcup c'))) : runC Φ G N fd ws (cupD c) = some (d, cupD c') := run_c (hh := []) hl e
theorem for_inv {Φ : Nat → FSpec} {G : Nat → D} {N : Nat} {β : Type} {p : Pat} {it : E} {body : Ss} {env : Sh.Env} {h h1 : DH} {x : D} (f : β → D) (I : List β → Sh.Env → DH → Prop) (bs : List β) (hit : evE Φ G it env h = some (.d x, h1)) (hx : itemsD x = some (bs.map f)) (h0 : I bs env h1)
    (ht : ∀ b r env h, I (b :: r) env h → ∃ env1 env2 h2, p.bind (f b) env = some env1 ∧ evSs Φ G N body env1 h = some (.nx env2 h2) ∧ I r env2 h2) : ∃ env' h', evS Φ G N (.for p it body) env h = some (.nx env' h') ∧ I [] env' h' := by
  have key : ∀ (bs : List β) (env : Sh.Env) (h : DH), I bs env h → ∃ env' h', forD (fun x env h => do let env1 ← p.bind x env; evSs Φ G N body env1 h) (bs.map f) env h = some (.nx env' h') ∧ I [] env' h' := by
    intro bs
    induction bs with
    | nil => intro env h i; exact ⟨env, h, rfl, i⟩
    | cons b bs ih =>
      intro env h i
      obtain ⟨env1, env2, h2, e1, e2, i2⟩ := ht b bs env h i
      obtain ⟨env', h', e3, i3⟩ := ih env2 h2 i2
      refine ⟨env', h', ?_, i3⟩
      simp only [Option.bind_eq_bind] at e3 ⊢
      simp only [List.map_cons, forD, e1, e2, Option.bind_eq_bind, Option.bind_some]
      exact e3
  obtain ⟨env', h', e, i⟩ := key bs env h1 h0
  refine ⟨env', h', ?_, i⟩
  simp only [evS, hit, Option.bind_eq_bind, Option.bind_some, hx]
  exact e
section
variable (N k : Nat)
/-- a roll: a number below many -/
theorem roll_e (Φ : Nat → FSpec) {c : Int × Int} {m : Nat} (hc : cupOk c) (hm : 0 < m ∧ m < 1073741824) : ∃ (r : Nat) (c' : Int × Int), r < m ∧ cupOk c' ∧ runC Φ G N f_law_roll [.ref 0, .d (.int m)] (cupD c) = some (.int r, cupD c') := by
  have hr : (0 : Int) < 2147483399 ∧ (2147483399 : Int) < 2 ^ 63 := by decide
  have h := rollN_ok (p := 30911) (q := 7901) (r := 2147483399) (s := 241) (t := 2147483563) (u := 827) (m := m) hc (by omega) hr
  have e := roll_ok (nm := "_law_roll") Φ G N (p := 30911) (q := 7901) (r := 2147483399) (s := 241) (t := 2147483563) (u := 827) (m := m) hc (by omega) (b64_of (by decide)) hr (by decide) (by decide)
  obtain ⟨h1, h2, h3⟩ := h
  generalize rollN 30911 7901 2147483399 241 2147483563 827 c m = q at *
  refine ⟨q.1.toNat, q.2, by omega, h3, ?_⟩
  rw [Int.toNat_of_nonneg h1]
  exact e
theorem some_e {ts : List Nat} {c : Int × Int} (hc : cupOk c) (ht : 0 < ts.length ∧ ts.length < 1073741824) : ∃ (t : Nat) (c' : Int × Int), t ∈ ts ∧ cupOk c' ∧ runC (phi T G N (k + 1)) G N f_law_some [.ref 0, .d (.lst (ts.map fun t : Nat => D.int t))] (cupD c) = some (.int t, cupD c') := by
  obtain ⟨r, c', hr, hc', e⟩ := roll_e N (phi T G N k) hc ht
  have hx : atI (ts.map fun t : Nat => D.int t) (r : Int) = some (.int (ts[r] : Nat)) := Sh.atI_nat (by rw [List.getElem?_map, List.getElem?_eq_getElem hr]; rfl)
  refine ⟨ts[r], c', List.getElem_mem hr, hc', run_cup rfl ?_⟩
  have hcall := call_c (Φ := phi T G N (k + 1)) (G := G) (f := 16) (es := .cons (.var 0) (.cons (.bif .len (.cons (.var 1) .nil)) .nil)) (env := [some (.ref 0), some (.d (.lst (ts.map fun t : Nat => D.int t)))]) (h := hcup c) (c := c) (c' := c') (ws := [.ref 0, .d (.int ts.length)]) (r := .int r)
    (by simp only [envAt, evSs, evS, evE, evEs, evIf, evPart, evC, mkL, valsD, valD, pureL, ixW, ixD, setsE, unsetE, Pat.bind, Sh.bindL, dTy, isD, isNon, List.map_cons, List.map_nil, List.length_cons, List.length_nil, List.getElem?_cons_zero, List.getElem?_cons_succ, List.set_cons_zero, List.set_cons_succ, List.replicate, List.cons_append, List.nil_append, Option.bind_eq_bind, Option.bind_some, Option.map_some, Bool.not_true, Bool.not_false, if_true, if_false, reduceIte, Bool.false_eq_true, reduceCtorEq, Nat.reduceAdd, Nat.reduceSub, Nat.reduceLeDiff, zeroW, cellArg, Option.isSome_some, line_lit, Bool.and_self, Bool.true_and, Bool.and_true, Bool.false_and, Bool.and_false, Bool.or_true, Bool.true_or, Bool.or_false, Bool.false_or, Int.natAbs_natCast, Int.cast_ofNat_Int, Int.reduceLE, Int.reduceLT, Int.reduceEq, decide_true, decide_false, Nat.reduceLT, Nat.reduceEqDiff, List.length_nil, wipeE, eq_self, f_lenL, List.length_map]) (ph_law_roll G N k) rfl e
  show evSs _ G N b_law_some [some (.ref 0), some (.d (.lst (ts.map fun t : Nat => D.int t)))] (hcup c) = _
  unfold b_law_some
  refine ss_rt (s_ret ?_)
  simp only [envAt, evSs, evS, ev_var, ev_lit, ev_con, ev_bin, ev_not, ev_or, ev_and, ev_ite, ev_tup, ev_ix, ev_bif, ev_disp, evEs, evIf, evPart, mkL, valsD, valD, pureL, ixW, ixD, setsE, unsetE, Pat.bind, Sh.bindL, dTy, isD, isNon, List.map_cons, List.map_nil, List.length_cons, List.length_nil, List.getElem?_cons_zero, List.getElem?_cons_succ, List.set_cons_zero, List.set_cons_succ, List.replicate, List.cons_append, List.nil_append, Option.bind_eq_bind, Option.bind_some, Option.map_some, Bool.not_true, Bool.not_false, if_true, if_false, reduceIte, Bool.false_eq_true, reduceCtorEq, Nat.reduceAdd, Nat.reduceSub, Nat.reduceLeDiff, zeroW, cellArg, Option.isSome_some, line_lit, Bool.and_self, Bool.true_and, Bool.and_true, Bool.false_and, Bool.and_false, Bool.or_true, Bool.true_or, Bool.or_false, Bool.false_or, Int.natAbs_natCast, Int.cast_ofNat_Int, Int.reduceLE, Int.reduceLT, Int.reduceEq, decide_true, decide_false, Nat.reduceLT, Nat.reduceEqDiff, List.length_nil, wipeE, eq_self, hcall, hx]
theorem strength_e {c : Int × Int} (hc : cupOk c) : ∃ (x : Nat × Nat) (c' : Int × Int), Sg 64 x ∧ cupOk c' ∧ runC (phi T G N (k + 2)) G N f_law_strength [.ref 0] (cupD c) = some (enc x, cupD c') := by
  obtain ⟨t, c1, ht, hc1, e1⟩ := some_e N k (ts := [3, 16, 64]) hc (by decide)
  have ht2 : 0 < t ∧ t ≤ 64 := by simp only [List.mem_cons, List.not_mem_nil, or_false] at ht; omega
  obtain ⟨p, c2, hp, hc2, e2⟩ := roll_e N (phi T G N (k + 1)) (m := t) hc1 (by omega)
  obtain ⟨a, c3, ha, hc3, e3⟩ := roll_e N (phi T G N (k + 1)) (m := 1 + p + 1) hc2 (by omega)
  have hb : 0 < 1 + p ∧ 1 + p < 1073741824 := by omega
  obtain ⟨q1, q2, _, q4⟩ := cutP_ok (a := a) hb.1
  refine ⟨cutP a (1 + p), c3, ⟨q1, by omega, cutP_le hb.1 (by omega), q4⟩, hc3, run_cup rfl ?_⟩
  have k1 := call_c (Φ := phi T G N (k + 2)) (G := G) (f := 19) (es := (.cons (.var 0) (.cons (.mkl false (.disp (.cons (.lit (.int 3)) (.cons (.lit (.int 16)) (.cons (.lit (.int 64)) .nil))))) .nil))) (env := [some (.ref 0), none]) (h := hcup c) (c := c) (c' := c1) (ws := [.ref 0, .d (.lst ([3, 16, 64].map fun t : Nat => D.int t))]) (r := .int t)
    (by simp only [envAt, evSs, evS, evE, evEs, evIf, evPart, evC, mkL, valsD, valD, pureL, ixW, ixD, setsE, unsetE, Pat.bind, Sh.bindL, dTy, isD, isNon, List.map_cons, List.map_nil, List.length_cons, List.length_nil, List.getElem?_cons_zero, List.getElem?_cons_succ, List.set_cons_zero, List.set_cons_succ, List.replicate, List.cons_append, List.nil_append, Option.bind_eq_bind, Option.bind_some, Option.map_some, Bool.not_true, Bool.not_false, if_true, if_false, reduceIte, Bool.false_eq_true, reduceCtorEq, Nat.reduceAdd, Nat.reduceSub, Nat.reduceLeDiff, zeroW, cellArg, Option.isSome_some, line_lit, Bool.and_self, Bool.true_and, Bool.and_true, Bool.false_and, Bool.and_false, Bool.or_true, Bool.true_or, Bool.or_false, Bool.false_or, Int.natAbs_natCast, Int.cast_ofNat_Int, Int.reduceLE, Int.reduceLT, Int.reduceEq, decide_true, decide_false, Nat.reduceLT, Nat.reduceEqDiff, List.length_nil, wipeE, eq_self]) (ph_law_some G N (k + 1)) rfl e1
  have k2 := call_c (Φ := phi T G N (k + 2)) (G := G) (f := 16) (es := .cons (.var 0) (.cons (.call 19 (.cons (.var 0) (.cons (.mkl false (.disp (.cons (.lit (.int 3)) (.cons (.lit (.int 16)) (.cons (.lit (.int 64)) .nil))))) .nil))) .nil)) (env := [some (.ref 0), none]) (h := hcup c) (c := c1) (c' := c2) (ws := [.ref 0, .d (.int t)]) (r := .int p)
    (by simp only [envAt, evSs, evS, ev_var, ev_lit, ev_con, ev_bin, ev_not, ev_or, ev_and, ev_ite, ev_tup, ev_ix, ev_bif, ev_disp, evEs, evIf, evPart, mkL, valsD, valD, pureL, ixW, ixD, setsE, unsetE, Pat.bind, Sh.bindL, dTy, isD, isNon, List.map_cons, List.map_nil, List.length_cons, List.length_nil, List.getElem?_cons_zero, List.getElem?_cons_succ, List.set_cons_zero, List.set_cons_succ, List.replicate, List.cons_append, List.nil_append, Option.bind_eq_bind, Option.bind_some, Option.map_some, Bool.not_true, Bool.not_false, if_true, if_false, reduceIte, Bool.false_eq_true, reduceCtorEq, Nat.reduceAdd, Nat.reduceSub, Nat.reduceLeDiff, zeroW, cellArg, Option.isSome_some, line_lit, Bool.and_self, Bool.true_and, Bool.and_true, Bool.false_and, Bool.and_false, Bool.or_true, Bool.true_or, Bool.or_false, Bool.false_or, Int.natAbs_natCast, Int.cast_ofNat_Int, Int.reduceLE, Int.reduceLT, Int.reduceEq, decide_true, decide_false, Nat.reduceLT, Nat.reduceEqDiff, List.length_nil, wipeE, eq_self, k1]) (ph_law_roll G N (k + 1)) rfl e2
  have ec : ((1 : Int) + p) = ((1 + p : Nat) : Int) := by push_cast; rfl
  have ec2 : (((1 + p : Nat) : Int) + 1) = ((1 + p + 1 : Nat) : Int) := by push_cast; rfl
  have k3 := call_c (Φ := phi T G N (k + 2)) (G := G) (f := 16) (es := .cons (.var 0) (.cons (.bin .add (.var 1) (.lit (.int 1))) .nil)) (env := [some (.ref 0), some (.d (.int ((1 + p : Nat) : Int)))]) (h := hcup c2) (c := c2) (c' := c3) (ws := [.ref 0, .d (.int ((1 + p + 1 : Nat) : Int))]) (r := .int a)
    (by simp only [envAt, evSs, evS, evE, evEs, evIf, evPart, evC, mkL, valsD, valD, pureL, ixW, ixD, setsE, unsetE, Pat.bind, Sh.bindL, dTy, isD, isNon, List.map_cons, List.map_nil, List.length_cons, List.length_nil, List.getElem?_cons_zero, List.getElem?_cons_succ, List.set_cons_zero, List.set_cons_succ, List.replicate, List.cons_append, List.nil_append, Option.bind_eq_bind, Option.bind_some, Option.map_some, Bool.not_true, Bool.not_false, if_true, if_false, reduceIte, Bool.false_eq_true, reduceCtorEq, Nat.reduceAdd, Nat.reduceSub, Nat.reduceLeDiff, zeroW, cellArg, Option.isSome_some, line_lit, Bool.and_self, Bool.true_and, Bool.and_true, Bool.false_and, Bool.and_false, Bool.or_true, Bool.true_or, Bool.or_false, Bool.false_or, Int.natAbs_natCast, Int.cast_ofNat_Int, Int.reduceLE, Int.reduceLT, Int.reduceEq, decide_true, decide_false, Nat.reduceLT, Nat.reduceEqDiff, List.length_nil, wipeE, eq_self, b_addI]; rw [ec2]) (ph_law_roll G N (k + 1)) rfl e3
  show evSs _ G N b_law_strength [some (.ref 0), none] (hcup c) = _
  unfold b_law_strength
  rw [ss_nx (e1 := [some (.ref 0), some (.d (.int ((1 + p : Nat) : Int)))]) (h1 := hcup c2) (by
    rw [s_nm (w := .d (.int ((1 + p : Nat) : Int))) (h1 := hcup c2)]
    · rfl
    · simp only [envAt, evSs, evS, ev_var, ev_lit, ev_con, ev_bin, ev_not, ev_or, ev_and, ev_ite, ev_tup, ev_ix, ev_bif, ev_disp, evEs, evIf, evPart, mkL, valsD, valD, pureL, ixW, ixD, setsE, unsetE, Pat.bind, Sh.bindL, dTy, isD, isNon, List.map_cons, List.map_nil, List.length_cons, List.length_nil, List.getElem?_cons_zero, List.getElem?_cons_succ, List.set_cons_zero, List.set_cons_succ, List.replicate, List.cons_append, List.nil_append, Option.bind_eq_bind, Option.bind_some, Option.map_some, Bool.not_true, Bool.not_false, if_true, if_false, reduceIte, Bool.false_eq_true, reduceCtorEq, Nat.reduceAdd, Nat.reduceSub, Nat.reduceLeDiff, zeroW, cellArg, Option.isSome_some, line_lit, Bool.and_self, Bool.true_and, Bool.and_true, Bool.false_and, Bool.and_false, Bool.or_true, Bool.true_or, Bool.or_false, Bool.false_or, Int.natAbs_natCast, Int.cast_ofNat_Int, Int.reduceLE, Int.reduceLT, Int.reduceEq, decide_true, decide_false, Nat.reduceLT, Nat.reduceEqDiff, List.length_nil, wipeE, eq_self, k2, b_addI, ec])]
  exact ss_rt (s_ret (call_p (ws := [.d (.int a), .d (.int ((1 + p : Nat) : Int))]) (by simp only [envAt, evSs, evS, ev_var, ev_lit, ev_con, ev_bin, ev_not, ev_or, ev_and, ev_ite, ev_tup, ev_ix, ev_bif, ev_disp, evEs, evIf, evPart, mkL, valsD, valD, pureL, ixW, ixD, setsE, unsetE, Pat.bind, Sh.bindL, dTy, isD, isNon, List.map_cons, List.map_nil, List.length_cons, List.length_nil, List.getElem?_cons_zero, List.getElem?_cons_succ, List.set_cons_zero, List.set_cons_succ, List.replicate, List.cons_append, List.nil_append, Option.bind_eq_bind, Option.bind_some, Option.map_some, Bool.not_true, Bool.not_false, if_true, if_false, reduceIte, Bool.false_eq_true, reduceCtorEq, Nat.reduceAdd, Nat.reduceSub, Nat.reduceLeDiff, zeroW, cellArg, Option.isSome_some, line_lit, Bool.and_self, Bool.true_and, Bool.and_true, Bool.false_and, Bool.and_false, Bool.or_true, Bool.true_or, Bool.or_false, Bool.false_or, Int.natAbs_natCast, Int.cast_ofNat_Int, Int.reduceLE, Int.reduceLT, Int.reduceEq, decide_true, decide_false, Nat.reduceLT, Nat.reduceEqDiff, List.length_nil, wipeE, eq_self, k3]) (ph_law_cut G N (k + 1)) rfl (sp_law_cut N _ hb)))
/-! ### the law's parts -/
theorem shp_nil : shp (.lst []) = true := rfl
theorem b_neNil {xs : List D} (h : shp (.lst xs) = true) : binD .ne (.lst xs) (.lst []) = some (.bl (!xs.isEmpty)) := by
  show (if shp (.lst xs) && shp (.lst []) then some (D.bl (!eqD (.lst xs) (.lst []))) else none) = _
  rw [h, shp_nil]
  cases xs <;> simp [eqD, eqDL]
theorem b_eqNil {xs : List D} (h : shp (.lst xs) = true) : binD .eq (.lst xs) (.lst []) = some (.bl xs.isEmpty) := by
  show (if shp (.lst xs) && shp (.lst []) then some (D.bl (eqD (.lst xs) (.lst []))) else none) = _
  rw [h, shp_nil]
  cases xs <;> simp [eqD, eqDL]
theorem flatL_map {β : Type} (f : β → D) (h : ∀ b, flat (f b) = true) : ∀ l : List β, flatL (l.map f) = true
  | [] => rfl
  | b :: l => by simp only [List.map_cons, flatL, h b, flatL_map f h l, Bool.and_self]
theorem depL_map {β : Type} (f : β → D) (c : Nat) (h : ∀ b, dep (f b) ≤ c) : ∀ l : List β, depL (l.map f) ≤ c
  | [] => Nat.zero_le _
  | b :: l => by simp only [List.map_cons, depL]; exact Nat.max_le.mpr ⟨h b, depL_map f c h l⟩
theorem shp_lst {β : Type} (f : β → D) (h : ∀ b, flat (f b) = true) (h2 : ∀ b, dep (f b) ≤ 50) (l : List β) : shp (.lst (l.map f)) = true := by
  have := depL_map f 50 h2 l
  unfold shp
  rw [Bool.and_eq_true]
  exact ⟨by rw [flat]; exact flatL_map f h l, decide_eq_true (by rw [dep]; omega)⟩
theorem shp_enc (l : List (Nat × Nat)) : shp (.lst (l.map enc)) = true := shp_lst enc (fun _ => rfl) (fun _ => by simp [enc, dep, depL]) l
theorem shp_int (l : List Nat) : shp (.lst (l.map fun n : Nat => D.int n)) = true := shp_lst _ (fun _ => rfl) (fun _ => by simp [dep]) l
/-- the law's own sizes -/
def goodS (start goal : Nat × Nat) (fine : Nat) (g : List Nat) (j : Nat) : List Nat := if g = [] then (if nr start goal fine j = true then [j] else []) else g
theorem good_fold {start goal : Nat × Nat} {fine n : Nat} (h1 : nr start goal fine n = true) (h2 : ∀ j, j < n → nr start goal fine j = false) : ∀ m, (List.range m).foldl (goodS start goal fine) [] = if n < m then [n] else []
  | 0 => by simp
  | m + 1 => by
    rw [List.range_succ, List.foldl_append, good_fold h1 h2 m]
    simp only [List.foldl_cons, List.foldl_nil]
    by_cases c : n < m
    · have e : n < m + 1 := by omega
      simp [goodS, c, e]
    · by_cases c2 : n = m
      · subst c2
        simp [goodS, h1]
      · have h3 : m < n := by omega
        have e : ¬ n < m + 1 := by omega
        simp [goodS, h2 m h3, c, e]
theorem mulS (c : Nat) (n : Nat) (h : n ≤ 1000) : binD .mul (.str [c]) (.int n) = some (.str (List.replicate n c)) := by
  show (if lo63 n && hi63 n && decide ([c].length * (n : Int).toNat ≤ line) then some (D.str (List.replicate (n : Int).toNat [c]).flatten) else none) = _
  have g1 : lo63 (n : Int) = true := lo63_iff.mpr (by omega)
  have g2 : hi63 (n : Int) = true := hi63_iff.mpr (by omega)
  have g3 : decide ([c].length * (n : Int).toNat ≤ line) = true := decide_eq_true (by rw [Int.toNat_natCast, List.length_cons, List.length_nil, line_lit]; omega)
  rw [g1, g2, g3, Bool.and_self, Bool.and_self, if_pos rfl, Int.toNat_natCast]
  clear g1 g2 g3
  congr 2
  induction n with
  | zero => rfl
  | succ n ih => rw [List.replicate_succ, List.flatten_cons, ih (by omega)]; rfl
end
end L76

/-! k76: a turn of the law -/
namespace L76
open PySem PySem.Spec PyProof.Rows L2 Sh
abbrev le (scr : List Int) (t s g n f b w o td gd sz os wh : Option W) : Sh.Env := [some (.d (.scr scr)), some (.ref 0), t, s, g, n, f, b, w, o, td, gd, sz, os, wh]
section
variable (N k : Nat)
theorem draw_e (scr : List Int) (t : Option W) {c : Int × Int} (hc : cupOk c) : ∃ (x y : Nat × Nat) (s f : Nat) (c' : Int × Int), Sg 64 x ∧ Sg 64 y ∧ s ≤ 5 ∧ 1 ≤ f ∧ f ≤ 60 ∧ cupOk c' ∧
    evS (phi T G N (k + 5)) G N (.par [3, 4, 5, 6] (.cons (.call 20 (.cons (.var 1) .nil)) (.cons (.call 20 (.cons (.var 1) .nil)) (.cons (.call 16 (.cons (.var 1) (.cons (.lit (.int 6)) .nil))) (.cons (.bin .add (.lit (.int 1)) (.call 16 (.cons (.var 1) (.cons (.call 19 (.cons (.var 1) (.cons (.mkl false (.disp (.cons (.lit (.int 5)) (.cons (.lit (.int 60)) .nil)))) .nil))) .nil)))) .nil)))))
      (le scr t none none none none none none none none none none none none) (hcup c) = some (.nx (le scr t (some (.d (enc x))) (some (.d (enc y))) (some (.d (.int s))) (some (.d (.int f))) none none none none none none none none) (hcup c')) := by
  obtain ⟨x, c1, hx, hc1, e1⟩ := strength_e N (k + 2) hc
  obtain ⟨y, c2, hy, hc2, e2⟩ := strength_e N (k + 2) hc1
  obtain ⟨s, c3, hs, hc3, e3⟩ := roll_e N (phi T G N (k + 4)) (m := 6) hc2 (by omega)
  obtain ⟨q, c4, hq, hc4, e4⟩ := some_e N (k + 3) (ts := [5, 60]) hc3 (by decide)
  have hq2 : 0 < q ∧ q ≤ 60 := by simp only [List.mem_cons, List.not_mem_nil, or_false] at hq; omega
  obtain ⟨f, c5, hf, hc5, e5⟩ := roll_e N (phi T G N (k + 4)) (m := q) hc4 (by omega)
  refine ⟨x, y, s, 1 + f, c5, hx, hy, by omega, by omega, by omega, hc5, ?_⟩
  have k1 := call_c (Φ := phi T G N (k + 5)) (G := G) (f := 20) (es := .cons (.var 1) .nil) (env := le scr t none none none none none none none none none none none none) (h := hcup c) (c := c) (c' := c1) (ws := [.ref 0]) (r := enc x)
    (by simp only [envAt, evSs, evS, evE, evEs, evIf, evPart, evC, mkL, valsD, valD, pureL, ixW, ixD, setsE, unsetE, Pat.bind, Sh.bindL, dTy, isD, isNon, List.map_cons, List.map_nil, List.length_cons, List.length_nil, List.getElem?_cons_zero, List.getElem?_cons_succ, List.set_cons_zero, List.set_cons_succ, List.replicate, List.cons_append, List.nil_append, Option.bind_eq_bind, Option.bind_some, Option.map_some, Bool.not_true, Bool.not_false, if_true, if_false, reduceIte, Bool.false_eq_true, reduceCtorEq, Nat.reduceAdd, Nat.reduceSub, Nat.reduceLeDiff, zeroW, cellArg, Option.isSome_some, line_lit, Bool.and_self, Bool.true_and, Bool.and_true, Bool.false_and, Bool.and_false, Bool.or_true, Bool.true_or, Bool.or_false, Bool.false_or, Int.natAbs_natCast, Int.cast_ofNat_Int, Int.reduceLE, Int.reduceLT, Int.reduceEq, decide_true, decide_false, Nat.reduceLT, Nat.reduceEqDiff, List.length_nil, wipeE, eq_self]) (ph_law_strength G N (k + 4)) rfl e1
  have k2 := call_c (Φ := phi T G N (k + 5)) (G := G) (f := 20) (es := .cons (.var 1) .nil) (env := le scr t none none none none none none none none none none none none) (h := hcup c1) (c := c1) (c' := c2) (ws := [.ref 0]) (r := enc y)
    (by simp only [envAt, evSs, evS, evE, evEs, evIf, evPart, evC, mkL, valsD, valD, pureL, ixW, ixD, setsE, unsetE, Pat.bind, Sh.bindL, dTy, isD, isNon, List.map_cons, List.map_nil, List.length_cons, List.length_nil, List.getElem?_cons_zero, List.getElem?_cons_succ, List.set_cons_zero, List.set_cons_succ, List.replicate, List.cons_append, List.nil_append, Option.bind_eq_bind, Option.bind_some, Option.map_some, Bool.not_true, Bool.not_false, if_true, if_false, reduceIte, Bool.false_eq_true, reduceCtorEq, Nat.reduceAdd, Nat.reduceSub, Nat.reduceLeDiff, zeroW, cellArg, Option.isSome_some, line_lit, Bool.and_self, Bool.true_and, Bool.and_true, Bool.false_and, Bool.and_false, Bool.or_true, Bool.true_or, Bool.or_false, Bool.false_or, Int.natAbs_natCast, Int.cast_ofNat_Int, Int.reduceLE, Int.reduceLT, Int.reduceEq, decide_true, decide_false, Nat.reduceLT, Nat.reduceEqDiff, List.length_nil, wipeE, eq_self]) (ph_law_strength G N (k + 4)) rfl e2
  have k3 := call_c (Φ := phi T G N (k + 5)) (G := G) (f := 16) (es := .cons (.var 1) (.cons (.lit (.int 6)) .nil)) (env := le scr t none none none none none none none none none none none none) (h := hcup c2) (c := c2) (c' := c3) (ws := [.ref 0, .d (.int 6)]) (r := .int s)
    (by simp only [envAt, evSs, evS, evE, evEs, evIf, evPart, evC, mkL, valsD, valD, pureL, ixW, ixD, setsE, unsetE, Pat.bind, Sh.bindL, dTy, isD, isNon, List.map_cons, List.map_nil, List.length_cons, List.length_nil, List.getElem?_cons_zero, List.getElem?_cons_succ, List.set_cons_zero, List.set_cons_succ, List.replicate, List.cons_append, List.nil_append, Option.bind_eq_bind, Option.bind_some, Option.map_some, Bool.not_true, Bool.not_false, if_true, if_false, reduceIte, Bool.false_eq_true, reduceCtorEq, Nat.reduceAdd, Nat.reduceSub, Nat.reduceLeDiff, zeroW, cellArg, Option.isSome_some, line_lit, Bool.and_self, Bool.true_and, Bool.and_true, Bool.false_and, Bool.and_false, Bool.or_true, Bool.true_or, Bool.or_false, Bool.false_or, Int.natAbs_natCast, Int.cast_ofNat_Int, Int.reduceLE, Int.reduceLT, Int.reduceEq, decide_true, decide_false, Nat.reduceLT, Nat.reduceEqDiff, List.length_nil, wipeE, eq_self]) (ph_law_roll G N (k + 4)) rfl e3
  have k4 := call_c (Φ := phi T G N (k + 5)) (G := G) (f := 19) (es := (.cons (.var 1) (.cons (.mkl false (.disp (.cons (.lit (.int 5)) (.cons (.lit (.int 60)) .nil)))) .nil))) (env := le scr t none none none none none none none none none none none none) (h := hcup c3) (c := c3) (c' := c4) (ws := [.ref 0, .d (.lst ([5, 60].map fun t : Nat => D.int t))]) (r := .int q)
    (by simp only [envAt, evSs, evS, evE, evEs, evIf, evPart, evC, mkL, valsD, valD, pureL, ixW, ixD, setsE, unsetE, Pat.bind, Sh.bindL, dTy, isD, isNon, List.map_cons, List.map_nil, List.length_cons, List.length_nil, List.getElem?_cons_zero, List.getElem?_cons_succ, List.set_cons_zero, List.set_cons_succ, List.replicate, List.cons_append, List.nil_append, Option.bind_eq_bind, Option.bind_some, Option.map_some, Bool.not_true, Bool.not_false, if_true, if_false, reduceIte, Bool.false_eq_true, reduceCtorEq, Nat.reduceAdd, Nat.reduceSub, Nat.reduceLeDiff, zeroW, cellArg, Option.isSome_some, line_lit, Bool.and_self, Bool.true_and, Bool.and_true, Bool.false_and, Bool.and_false, Bool.or_true, Bool.true_or, Bool.or_false, Bool.false_or, Int.natAbs_natCast, Int.cast_ofNat_Int, Int.reduceLE, Int.reduceLT, Int.reduceEq, decide_true, decide_false, Nat.reduceLT, Nat.reduceEqDiff, List.length_nil, wipeE, eq_self]) (ph_law_some G N (k + 4)) rfl e4
  have k5 := call_c (Φ := phi T G N (k + 5)) (G := G) (f := 16) (es := (.cons (.var 1) (.cons (.call 19 (.cons (.var 1) (.cons (.mkl false (.disp (.cons (.lit (.int 5)) (.cons (.lit (.int 60)) .nil)))) .nil))) .nil))) (env := le scr t none none none none none none none none none none none none) (h := hcup c3) (c := c4) (c' := c5) (ws := [.ref 0, .d (.int q)]) (r := .int f)
    (by simp only [envAt, evSs, evS, ev_var, ev_lit, ev_con, ev_bin, ev_not, ev_or, ev_and, ev_ite, ev_tup, ev_ix, ev_bif, ev_disp, evEs, evIf, evPart, mkL, valsD, valD, pureL, ixW, ixD, setsE, unsetE, Pat.bind, Sh.bindL, dTy, isD, isNon, List.map_cons, List.map_nil, List.length_cons, List.length_nil, List.getElem?_cons_zero, List.getElem?_cons_succ, List.set_cons_zero, List.set_cons_succ, List.replicate, List.cons_append, List.nil_append, Option.bind_eq_bind, Option.bind_some, Option.map_some, Bool.not_true, Bool.not_false, if_true, if_false, reduceIte, Bool.false_eq_true, reduceCtorEq, Nat.reduceAdd, Nat.reduceSub, Nat.reduceLeDiff, zeroW, cellArg, Option.isSome_some, line_lit, Bool.and_self, Bool.true_and, Bool.and_true, Bool.false_and, Bool.and_false, Bool.or_true, Bool.true_or, Bool.or_false, Bool.false_or, Int.natAbs_natCast, Int.cast_ofNat_Int, Int.reduceLE, Int.reduceLT, Int.reduceEq, decide_true, decide_false, Nat.reduceLT, Nat.reduceEqDiff, List.length_nil, wipeE, eq_self, k4]) (ph_law_roll G N (k + 4)) rfl e5
  have ec : ((1 : Int) + f) = ((1 + f : Nat) : Int) := by push_cast; rfl
  simp only [envAt, evSs, evS, ev_var, ev_lit, ev_con, ev_bin, ev_not, ev_or, ev_and, ev_ite, ev_tup, ev_ix, ev_bif, ev_disp, evEs, evIf, evPart, mkL, valsD, valD, pureL, ixW, ixD, setsE, unsetE, Pat.bind, Sh.bindL, dTy, isD, isNon, List.map_cons, List.map_nil, List.length_cons, List.length_nil, List.getElem?_cons_zero, List.getElem?_cons_succ, List.set_cons_zero, List.set_cons_succ, List.replicate, List.cons_append, List.nil_append, Option.bind_eq_bind, Option.bind_some, Option.map_some, Bool.not_true, Bool.not_false, if_true, if_false, reduceIte, Bool.false_eq_true, reduceCtorEq, Nat.reduceAdd, Nat.reduceSub, Nat.reduceLeDiff, zeroW, cellArg, Option.isSome_some, line_lit, Bool.and_self, Bool.true_and, Bool.and_true, Bool.false_and, Bool.and_false, Bool.or_true, Bool.true_or, Bool.or_false, Bool.false_or, Int.natAbs_natCast, Int.cast_ofNat_Int, Int.reduceLE, Int.reduceLT, Int.reduceEq, decide_true, decide_false, Nat.reduceLT, Nat.reduceEqDiff, List.length_nil, wipeE, eq_self, k1, k2, k3, k5, b_addI, ec]
/-- the law's own search -/
theorem search_e (scr : List Int) (t fi : Option W) {x y : Nat × Nat} {s : Nat} (h : DH) (hx : Sg 64 x) (hy : Sg 64 y) (hs : s ≤ 5) :
    evS (phi T G N (k + 5)) G N (.for (.nm 8) (.call 2 (.cons (.var 5) .nil)) b_law_l0) (le scr t (some (.d (enc x))) (some (.d (enc y))) (some (.d (.int s))) fi (some (.d .non)) none none none none none none none) h =
      some (.nx (le scr t (some (.d (enc x))) (some (.d (enc y))) (some (.d (.int s))) fi (some (.d (encB (nearestP x y s)))) none none none none none none none) h) := by
  have hW := ws_words s
  have hn : 64 * 2 ^ s ≤ 16384 := Nat.le_trans (Nat.mul_le_mul_left 64 (Nat.pow_le_pow_right (by decide) (show s ≤ 8 by omega))) (by decide)
  have hgl : 0 < y.2 ∧ y.2 < 32768 := ⟨hy.1, by have := hy.2.1; omega⟩
  exact (for_fold (Φ := phi T G N (k + 5)) (G := G) (N := N) (p := .nm 8) (it := .call 2 (.cons (.var 5) .nil)) (body := b_law_l0) (h := h) (x := wsD (wordsP s))
    D.str (fun b => le scr t (some (.d (enc x))) (some (.d (enc y))) (some (.d (.int s))) fi (some (.d (encB b))) none none none none none none none) (fun _ => h) (bestS x y) (fun r b => (∀ w ∈ r, w.length = s) ∧ BestOk b) (wordsP s) none
    (call_p (ws := [.d (.int s)]) (by simp only [envAt, evSs, evS, evE, evEs, evIf, evPart, evC, mkL, valsD, valD, pureL, ixW, ixD, setsE, unsetE, Pat.bind, Sh.bindL, dTy, isD, isNon, List.map_cons, List.map_nil, List.length_cons, List.length_nil, List.getElem?_cons_zero, List.getElem?_cons_succ, List.set_cons_zero, List.set_cons_succ, List.replicate, List.cons_append, List.nil_append, Option.bind_eq_bind, Option.bind_some, Option.map_some, Bool.not_true, Bool.not_false, if_true, if_false, reduceIte, Bool.false_eq_true, reduceCtorEq, Nat.reduceAdd, Nat.reduceSub, Nat.reduceLeDiff, zeroW, cellArg, Option.isSome_some, line_lit, Bool.and_self, Bool.true_and, Bool.and_true, Bool.false_and, Bool.and_false, Bool.or_true, Bool.true_or, Bool.or_false, Bool.false_or, Int.natAbs_natCast, Int.cast_ofNat_Int, Int.reduceLE, Int.reduceLT, Int.reduceEq, decide_true, decide_false, Nat.reduceLT, Nat.reduceEqDiff, List.length_nil, wipeE, eq_self]) (ph_law_words G N (k + 4)) rfl (sp_law_words N _ (by omega))) rfl rfl ⟨hW.2, fun _ _ z => by cases z⟩
    (fun b w r ⟨h1, h2⟩ => ⟨_, rfl, by
      have hw := h1 w List.mem_cons_self
      have ha := sg_lt hx hn hw
      have hwl : w.length ≤ line := by rw [hw, line_lit]; omega
      have hm2 : 64 * 2 ^ w.length ≤ 32767 := by rw [hw]; omega
      have ho := off_lt ha hgl
      have e1 := sp_law_after N (k + 2) hx hm2 hwl
      have e2 := sp_law_off N (k + 3) ha hgl
      unfold b_law_l0
      cases b with
      | none => simp only [envAt, evSs, evS, evE, evEs, evIf, evPart, evC, mkL, valsD, valD, pureL, ixW, ixD, setsE, unsetE, Pat.bind, Sh.bindL, dTy, isD, isNon, List.map_cons, List.map_nil, List.length_cons, List.length_nil, List.getElem?_cons_zero, List.getElem?_cons_succ, List.set_cons_zero, List.set_cons_succ, List.replicate, List.cons_append, List.nil_append, Option.bind_eq_bind, Option.bind_some, Option.map_some, Bool.not_true, Bool.not_false, if_true, if_false, reduceIte, Bool.false_eq_true, reduceCtorEq, Nat.reduceAdd, Nat.reduceSub, Nat.reduceLeDiff, zeroW, cellArg, Option.isSome_some, line_lit, Bool.and_self, Bool.true_and, Bool.and_true, Bool.false_and, Bool.and_false, Bool.or_true, Bool.true_or, Bool.or_false, Bool.false_or, Int.natAbs_natCast, Int.cast_ofNat_Int, Int.reduceLE, Int.reduceLT, Int.reduceEq, decide_true, decide_false, Nat.reduceLT, Nat.reduceEqDiff, List.length_nil, wipeE, eq_self, ph_law_after, e1, ph_law_off, e2, encB, b_isN, bestS]
      | some p =>
        obtain ⟨o, v⟩ := p
        have ho2 := h2 o v rfl
        have eo : enc (offP (afterP x w) y) = .tup [.int (offP (afterP x w) y).1, .int (offP (afterP x w) y).2] := rfl
        have eo2 : enc o = .tup [.int o.1, .int o.2] := rfl
        have hlp : decide ((offP (afterP x w) y).1 * o.2 < o.1 * (offP (afterP x w) y).2) = lessP (offP (afterP x w) y) o := rfl
        cases hl : lessP (offP (afterP x w) y) o with
        | true => simp only [envAt, evSs, evS, evE, evEs, evIf, evPart, evC, mkL, valsD, valD, pureL, ixW, ixD, setsE, unsetE, Pat.bind, Sh.bindL, dTy, isD, isNon, List.map_cons, List.map_nil, List.length_cons, List.length_nil, List.getElem?_cons_zero, List.getElem?_cons_succ, List.set_cons_zero, List.set_cons_succ, List.replicate, List.cons_append, List.nil_append, Option.bind_eq_bind, Option.bind_some, Option.map_some, Bool.not_true, Bool.not_false, if_true, if_false, reduceIte, Bool.false_eq_true, reduceCtorEq, Nat.reduceAdd, Nat.reduceSub, Nat.reduceLeDiff, zeroW, cellArg, Option.isSome_some, line_lit, Bool.and_self, Bool.true_and, Bool.and_true, Bool.false_and, Bool.and_false, Bool.or_true, Bool.true_or, Bool.or_false, Bool.false_or, Int.natAbs_natCast, Int.cast_ofNat_Int, Int.reduceLE, Int.reduceLT, Int.reduceEq, decide_true, decide_false, Nat.reduceLT, Nat.reduceEqDiff, List.length_nil, wipeE, eq_self, ph_law_after, e1, ph_law_off, e2, encB, b_isN, eo, eo2, ix0, ix1, b_mulR (nat64' ho.2), b_mulR (nat64' ho2.2), b_ltI, less_cast, hlp, hl, bestS]
        | false => simp only [envAt, evSs, evS, evE, evEs, evIf, evPart, evC, mkL, valsD, valD, pureL, ixW, ixD, setsE, unsetE, Pat.bind, Sh.bindL, dTy, isD, isNon, List.map_cons, List.map_nil, List.length_cons, List.length_nil, List.getElem?_cons_zero, List.getElem?_cons_succ, List.set_cons_zero, List.set_cons_succ, List.replicate, List.cons_append, List.nil_append, Option.bind_eq_bind, Option.bind_some, Option.map_some, Bool.not_true, Bool.not_false, if_true, if_false, reduceIte, Bool.false_eq_true, reduceCtorEq, Nat.reduceAdd, Nat.reduceSub, Nat.reduceLeDiff, zeroW, cellArg, Option.isSome_some, line_lit, Bool.and_self, Bool.true_and, Bool.and_true, Bool.false_and, Bool.and_false, Bool.or_true, Bool.true_or, Bool.or_false, Bool.false_or, Int.natAbs_natCast, Int.cast_ofNat_Int, Int.reduceLE, Int.reduceLT, Int.reduceEq, decide_true, decide_false, Nat.reduceLT, Nat.reduceEqDiff, List.length_nil, wipeE, eq_self, ph_law_after, e1, ph_law_off, e2, encB, b_isN, eo, eo2, ix0, ix1, b_mulR (nat64' ho.2), b_mulR (nat64' ho2.2), b_ltI, less_cast, hlp, hl, bestS], fun v hv => h1 v (List.mem_cons_of_mem _ hv), best_ok h2 (sg_lt hx hn (h1 w List.mem_cons_self)) hgl⟩)).1
theorem le_cast (a b c : Nat) : decide ((a : Int) * b ≤ c) = decide (a * b ≤ c) := by
  refine decide_eq_decide.mpr ?_
  rw [show (a : Int) * b = ((a * b : Nat) : Int) by push_cast; rfl]
  exact Int.ofNat_le
theorem nr_filter {x y : Nat × Nat} {f j : Nat} : (!(((wordsP j).filter fun w => decide ((offP (afterP x w) y).1 * f ≤ (offP (afterP x w) y).2)).map fun w => enc (offP (afterP x w) y)).isEmpty) = nr x y f j := by
  unfold nr
  generalize wordsP j = ws
  induction ws with
  | nil => rfl
  | cons w ws ih =>
    rw [List.filter_cons, List.any_cons]
    cases hd : decide ((offP (afterP x w) y).1 * f ≤ (offP (afterP x w) y).2) with
    | true => rfl
    | false => rw [if_neg Bool.false_ne_true, Bool.false_or]; exact ih
/-- the law's own sizes -/
theorem sizes_e (scr : List Int) (t s b td : Option W) {x y : Nat × Nat} {f : Nat} (h : DH) (hx : Sg 64 x) (hy : Sg 64 y) (hf : f < 1073741824) :
    evS (phi T G N (k + 5)) G N (.for (.nm 12) (.rng (.cons (.lit (.int 8)) .nil)) b_law_l1) (le scr t (some (.d (enc x))) (some (.d (enc y))) s (some (.d (.int f))) b none none td (some (.d (.lst []))) none none none) h =
      some (.nx (le scr t (some (.d (enc x))) (some (.d (enc y))) s (some (.d (.int f))) b none none td (some (.d (.lst (((List.range 8).foldl (goodS x y f) []).map fun n : Nat => D.int n)))) none none none) h) := by
  have hgl : 0 < y.2 ∧ y.2 < 32768 := ⟨hy.1, by have := hy.2.1; omega⟩
  exact (for_fold (Φ := phi T G N (k + 5)) (G := G) (N := N) (p := .nm 12) (it := .rng (.cons (.lit (.int 8)) .nil)) (body := b_law_l1) (h := h)
    (fun j : Nat => D.int j) (fun g : List Nat => le scr t (some (.d (enc x))) (some (.d (enc y))) s (some (.d (.int f))) b none none td (some (.d (.lst (g.map fun n : Nat => D.int n)))) none none none) (fun _ => h) (goodS x y f) (fun r g => g.length ≤ 1 ∧ ∀ j ∈ r, j ≤ 7) (List.range 8) []
    (rng_1 (n := 8) (by simp only [envAt, evSs, evS, evE, evEs, evIf, evPart, evC, mkL, valsD, valD, pureL, ixW, ixD, setsE, unsetE, Pat.bind, Sh.bindL, dTy, isD, isNon, List.map_cons, List.map_nil, List.length_cons, List.length_nil, List.getElem?_cons_zero, List.getElem?_cons_succ, List.set_cons_zero, List.set_cons_succ, List.replicate, List.cons_append, List.nil_append, Option.bind_eq_bind, Option.bind_some, Option.map_some, Bool.not_true, Bool.not_false, if_true, if_false, reduceIte, Bool.false_eq_true, reduceCtorEq, Nat.reduceAdd, Nat.reduceSub, Nat.reduceLeDiff, zeroW, cellArg, Option.isSome_some, line_lit, Bool.and_self, Bool.true_and, Bool.and_true, Bool.false_and, Bool.and_false, Bool.or_true, Bool.true_or, Bool.or_false, Bool.false_or, Int.natAbs_natCast, Int.cast_ofNat_Int, Int.reduceLE, Int.reduceLT, Int.reduceEq, decide_true, decide_false, Nat.reduceLT, Nat.reduceEqDiff, List.length_nil, wipeE, eq_self]) rfl (by decide)) rfl rfl ⟨by simp, fun j hj => by have := List.mem_range.mp hj; omega⟩
    (fun g j r ⟨g1, g2⟩ => ⟨_, rfl, by
      have hj := g2 j List.mem_cons_self
      have hn : 64 * 2 ^ j ≤ 16384 := Nat.le_trans (Nat.mul_le_mul_left 64 (Nat.pow_le_pow_right (by decide) (show j ≤ 8 by omega))) (by decide)
      have hW := ws_words j
      have hWl : (wordsP j).length ≤ line := by rw [hW.1, line_lit]; exact Nat.le_trans (Nat.pow_le_pow_right (by decide) hj) (by decide)
      unfold b_law_l1
      cases g with
      | cons a g =>
        have q1 := b_eqNil (shp_int (a :: g))
        have hlen : ((a :: g).map fun n : Nat => D.int n).length + ([] : List D).length ≤ line := by rw [List.length_map, List.length_nil, line_lit]; omega
        have hadd := b_addL hlen
        have hgs : goodS x y f (a :: g) j = a :: g := if_neg (by simp)
        have hc := comp_filter (Φ := phi T G N (k + 5)) (G := G) (own := [9]) (p := .nm 9) (it := .var 13) (c := (.bin .le (.bin .mul (.ix (.var 9) (.lit (.int 0))) (.var 6)) (.ix (.var 9) (.lit (.int 1))))) (elt := .var 9)
          (env := le scr t (some (.d (enc x))) (some (.d (enc y))) s (some (.d (.int f))) b none none td (some (.d (.lst ((a :: g).map fun n : Nat => D.int n)))) (some (.d (.int j))) (some (.d (.lst []))) none) (h := h) (h0 := h) (x := .lst []) D.int ([] : List Int) (fun _ => true) D.int rfl rfl (fun _ z => by cases z) (Nat.zero_le _)
        have hn0 := b_neNil shp_nil
        simp only [List.map_cons, List.isEmpty_cons, List.isEmpty_nil, Bool.not_true, List.filter_nil, List.map_nil, List.append_nil, List.cons_append] at q1 hc hn0 hadd
        rw [hgs]
        simp only [envAt, evSs, evS, ev_var, ev_lit, ev_con, ev_bin, ev_not, ev_or, ev_and, ev_ite, ev_tup, ev_ix, ev_bif, ev_disp, evEs, evIf, evPart, mkL, valsD, valD, pureL, ixW, ixD, setsE, unsetE, Pat.bind, Sh.bindL, dTy, isD, isNon, List.map_cons, List.map_nil, List.length_cons, List.length_nil, List.getElem?_cons_zero, List.getElem?_cons_succ, List.set_cons_zero, List.set_cons_succ, List.replicate, List.cons_append, List.nil_append, Option.bind_eq_bind, Option.bind_some, Option.map_some, Bool.not_true, Bool.not_false, if_true, if_false, reduceIte, Bool.false_eq_true, reduceCtorEq, Nat.reduceAdd, Nat.reduceSub, Nat.reduceLeDiff, zeroW, cellArg, Option.isSome_some, line_lit, Bool.and_self, Bool.true_and, Bool.and_true, Bool.false_and, Bool.and_false, Bool.or_true, Bool.true_or, Bool.or_false, Bool.false_or, Int.natAbs_natCast, Int.cast_ofNat_Int, Int.reduceLE, Int.reduceLT, Int.reduceEq, decide_true, decide_false, Nat.reduceLT, Nat.reduceEqDiff, List.length_nil, wipeE, eq_self, q1, hc, hn0, hadd]
      | nil =>
        have h0 := b_eqNil shp_nil
        have k1 := comp_map (Φ := phi T G N (k + 5)) (G := G) (own := [8]) (p := .nm 8) (it := .call 2 (.cons (.var 12) .nil)) (elt := .call 21 (.cons (.call 23 (.cons (.var 3) (.cons (.var 8) .nil))) (.cons (.var 4) .nil)))
          (env := le scr t (some (.d (enc x))) (some (.d (enc y))) s (some (.d (.int f))) b none none td (some (.d (.lst []))) (some (.d (.int j))) none none) (h := h) (h0 := h) (x := wsD (wordsP j)) D.str (wordsP j) (fun w => enc (offP (afterP x w) y))
          (call_p (ws := [.d (.int j)]) (by simp only [envAt, evSs, evS, evE, evEs, evIf, evPart, evC, mkL, valsD, valD, pureL, ixW, ixD, setsE, unsetE, Pat.bind, Sh.bindL, dTy, isD, isNon, List.map_cons, List.map_nil, List.length_cons, List.length_nil, List.getElem?_cons_zero, List.getElem?_cons_succ, List.set_cons_zero, List.set_cons_succ, List.replicate, List.cons_append, List.nil_append, Option.bind_eq_bind, Option.bind_some, Option.map_some, Bool.not_true, Bool.not_false, if_true, if_false, reduceIte, Bool.false_eq_true, reduceCtorEq, Nat.reduceAdd, Nat.reduceSub, Nat.reduceLeDiff, zeroW, cellArg, Option.isSome_some, line_lit, Bool.and_self, Bool.true_and, Bool.and_true, Bool.false_and, Bool.and_false, Bool.or_true, Bool.true_or, Bool.or_false, Bool.false_or, Int.natAbs_natCast, Int.cast_ofNat_Int, Int.reduceLE, Int.reduceLT, Int.reduceEq, decide_true, decide_false, Nat.reduceLT, Nat.reduceEqDiff, List.length_nil, wipeE, eq_self]) (ph_law_words G N (k + 4)) rfl (sp_law_words N _ (by omega))) rfl
          (fun w hw' => ⟨_, rfl, by
            have hw := hW.2 w hw'
            have ha := sg_lt hx hn hw
            have e1 := sp_law_after N (k + 2) hx (by rw [hw]; omega) (show w.length ≤ line by rw [hw, line_lit]; omega)
            have e2 := sp_law_off N (k + 3) ha hgl
            simp only [envAt, evSs, evS, evE, evEs, evIf, evPart, evC, mkL, valsD, valD, pureL, ixW, ixD, setsE, unsetE, Pat.bind, Sh.bindL, dTy, isD, isNon, List.map_cons, List.map_nil, List.length_cons, List.length_nil, List.getElem?_cons_zero, List.getElem?_cons_succ, List.set_cons_zero, List.set_cons_succ, List.replicate, List.cons_append, List.nil_append, Option.bind_eq_bind, Option.bind_some, Option.map_some, Bool.not_true, Bool.not_false, if_true, if_false, reduceIte, Bool.false_eq_true, reduceCtorEq, Nat.reduceAdd, Nat.reduceSub, Nat.reduceLeDiff, zeroW, cellArg, Option.isSome_some, line_lit, Bool.and_self, Bool.true_and, Bool.and_true, Bool.false_and, Bool.and_false, Bool.or_true, Bool.true_or, Bool.or_false, Bool.false_or, Int.natAbs_natCast, Int.cast_ofNat_Int, Int.reduceLE, Int.reduceLT, Int.reduceEq, decide_true, decide_false, Nat.reduceLT, Nat.reduceEqDiff, List.length_nil, wipeE, eq_self, ph_law_after, e1, ph_law_off, e2]⟩) hWl
        have hc := comp_filter (Φ := phi T G N (k + 5)) (G := G) (own := [9]) (p := .nm 9) (it := .var 13) (c := (.bin .le (.bin .mul (.ix (.var 9) (.lit (.int 0))) (.var 6)) (.ix (.var 9) (.lit (.int 1))))) (elt := .var 9)
          (env := le scr t (some (.d (enc x))) (some (.d (enc y))) s (some (.d (.int f))) b none none td (some (.d (.lst []))) (some (.d (.int j))) (some (.d (.lst ((wordsP j).map fun w => enc (offP (afterP x w) y))))) none) (h := h) (h0 := h) (x := .lst ((wordsP j).map fun w => enc (offP (afterP x w) y))) (fun w => enc (offP (afterP x w) y)) (wordsP j)
          (fun w => decide ((offP (afterP x w) y).1 * f ≤ (offP (afterP x w) y).2)) (fun w => enc (offP (afterP x w) y)) rfl rfl
          (fun w hw => ⟨_, rfl, by
            have eo : enc (offP (afterP x w) y) = .tup [.int (offP (afterP x w) y).1, .int (offP (afterP x w) y).2] := rfl
            simp only [envAt, evSs, evS, ev_var, ev_lit, ev_con, ev_bin, ev_not, ev_or, ev_and, ev_ite, ev_tup, ev_ix, ev_bif, ev_disp, evEs, evIf, evPart, mkL, valsD, valD, pureL, ixW, ixD, setsE, unsetE, Pat.bind, Sh.bindL, dTy, isD, isNon, List.map_cons, List.map_nil, List.length_cons, List.length_nil, List.getElem?_cons_zero, List.getElem?_cons_succ, List.set_cons_zero, List.set_cons_succ, List.replicate, List.cons_append, List.nil_append, Option.bind_eq_bind, Option.bind_some, Option.map_some, Bool.not_true, Bool.not_false, if_true, if_false, reduceIte, Bool.false_eq_true, reduceCtorEq, Nat.reduceAdd, Nat.reduceSub, Nat.reduceLeDiff, zeroW, cellArg, Option.isSome_some, line_lit, Bool.and_self, Bool.true_and, Bool.and_true, Bool.false_and, Bool.and_false, Bool.or_true, Bool.true_or, Bool.or_false, Bool.false_or, Int.natAbs_natCast, Int.cast_ofNat_Int, Int.reduceLE, Int.reduceLT, Int.reduceEq, decide_true, decide_false, Nat.reduceLT, Nat.reduceEqDiff, List.length_nil, wipeE, eq_self, eo, ix0, ix1, b_mulR (nat64' hf), b_leI, le_cast], fun _ => rfl⟩) hWl
        have hne := b_neNil (shp_lst (fun w => enc (offP (afterP x w) y)) (fun _ => rfl) (fun _ => by simp [enc, dep, depL]) ((wordsP j).filter fun w => decide ((offP (afterP x w) y).1 * f ≤ (offP (afterP x w) y).2)))
        rw [nr_filter] at hne
        have hl1 : ([] : List D).length + [D.int j].length ≤ line := by rw [line_lit]; simp
        have hl0 : ([] : List D).length + ([] : List D).length ≤ line := by rw [line_lit]; simp
        have a1 := b_addL hl1
        have a0 := b_addL hl0
        simp only [List.isEmpty_nil, List.nil_append] at h0 a1 a0
        cases hr : nr x y f j with
        | true =>
          have hgs : goodS x y f [] j = [j] := by unfold goodS; rw [if_pos rfl, hr, if_pos rfl]
          rw [hgs]
          simp only [envAt, evSs, evS, ev_var, ev_lit, ev_con, ev_bin, ev_not, ev_or, ev_and, ev_ite, ev_tup, ev_ix, ev_bif, ev_disp, evEs, evIf, evPart, mkL, valsD, valD, pureL, ixW, ixD, setsE, unsetE, Pat.bind, Sh.bindL, dTy, isD, isNon, List.map_cons, List.map_nil, List.length_cons, List.length_nil, List.getElem?_cons_zero, List.getElem?_cons_succ, List.set_cons_zero, List.set_cons_succ, List.replicate, List.cons_append, List.nil_append, Option.bind_eq_bind, Option.bind_some, Option.map_some, Bool.not_true, Bool.not_false, if_true, if_false, reduceIte, Bool.false_eq_true, reduceCtorEq, Nat.reduceAdd, Nat.reduceSub, Nat.reduceLeDiff, zeroW, cellArg, Option.isSome_some, line_lit, Bool.and_self, Bool.true_and, Bool.and_true, Bool.false_and, Bool.and_false, Bool.or_true, Bool.true_or, Bool.or_false, Bool.false_or, Int.natAbs_natCast, Int.cast_ofNat_Int, Int.reduceLE, Int.reduceLT, Int.reduceEq, decide_true, decide_false, Nat.reduceLT, Nat.reduceEqDiff, List.length_nil, wipeE, eq_self, h0, k1, hc, hne, hr, a1]
        | false =>
          have hgs : goodS x y f [] j = [] := by unfold goodS; rw [if_pos rfl, hr]; rfl
          rw [hgs]
          simp only [envAt, evSs, evS, ev_var, ev_lit, ev_con, ev_bin, ev_not, ev_or, ev_and, ev_ite, ev_tup, ev_ix, ev_bif, ev_disp, evEs, evIf, evPart, mkL, valsD, valD, pureL, ixW, ixD, setsE, unsetE, Pat.bind, Sh.bindL, dTy, isD, isNon, List.map_cons, List.map_nil, List.length_cons, List.length_nil, List.getElem?_cons_zero, List.getElem?_cons_succ, List.set_cons_zero, List.set_cons_succ, List.replicate, List.cons_append, List.nil_append, Option.bind_eq_bind, Option.bind_some, Option.map_some, Bool.not_true, Bool.not_false, if_true, if_false, reduceIte, Bool.false_eq_true, reduceCtorEq, Nat.reduceAdd, Nat.reduceSub, Nat.reduceLeDiff, zeroW, cellArg, Option.isSome_some, line_lit, Bool.and_self, Bool.true_and, Bool.and_true, Bool.false_and, Bool.and_false, Bool.or_true, Bool.true_or, Bool.or_false, Bool.false_or, Int.natAbs_natCast, Int.cast_ofNat_Int, Int.reduceLE, Int.reduceLT, Int.reduceEq, decide_true, decide_false, Nat.reduceLT, Nat.reduceEqDiff, List.length_nil, wipeE, eq_self, h0, k1, hc, hne, hr, a0], by
      unfold goodS
      split
      · split <;> simp
      · exact g1, fun i hi => g2 i (List.mem_cons_of_mem _ hi)⟩)).1
end
end L76

/-! k76: the law holds in plain Lean -/
namespace L76
open PySem PySem.Spec PyProof.Rows L2 Sh
theorem b_neEnc (o : Nat × Nat) : binD .ne (enc o) (enc o) = some (.bl false) := by
  have hs : shp (enc o) = true := by simp [shp, flat, flatL, enc, dep, depL]
  have he : eqD (enc o) (enc o) = true := by simp [enc, eqD, eqDL]
  show (if shp (enc o) && shp (enc o) then some (D.bl (!eqD (enc o) (enc o))) else none) = _
  rw [hs, he]; rfl
theorem call_new {Φ : Nat → FSpec} {G : Nat → D} {f : Nat} {es : Es} {env : Sh.Env} {h : DH} {ws : List W} {ds r : List D} {g : List D → Option (List D)} (he : evEs Φ G es env h = some (ws, [])) (hf : Φ f = .new g) (hp : pureL ws = some ds) (hg : g ds = some r) :
    evE Φ G (.call f es) env h = some (.ref 0, [.lst (r.map W.d)]) := by
  simp only [evE, he, hf, hp, hg, Option.bind_eq_bind, Option.bind_some, List.length_nil, List.nil_append]
theorem sm_best (o : Nat × Nat) (w : List Nat) : sm (.tup [enc o, .str w]) = true := by simp [sm, smL, enc, line]
theorem dep_best (o : Nat × Nat) (w : List Nat) : dep (.tup [enc o, .str w]) ≤ 4 := by simp [dep, depL, enc]
section
variable (N k : Nat)
theorem turn_e (hN : 10 ≤ N) (scr : List Int) (t : Option W) {c : Int × Int} (hc : cupOk c) : ∃ c', cupOk c' ∧
    evSs (phi T G N (k + 5)) G N b_law_l2 (le scr t none none none none none none none none none none none none) (hcup c) = some (.nx (le scr none none none none none none none none none none none none none) (hcup c')) := by
  obtain ⟨x, y, s, f, c', hx, hy, hs, hf1, hf2, hc', e0⟩ := draw_e N k scr t hc
  refine ⟨c', hc', ?_⟩
  have hn : 64 * 2 ^ s ≤ 16384 := Nat.le_trans (Nat.mul_le_mul_left 64 (Nat.pow_le_pow_right (by decide) (show s ≤ 8 by omega))) (by decide)
  have hgl : 0 < y.2 ∧ y.2 < 32768 := ⟨hy.1, by have := hy.2.1; omega⟩
  obtain ⟨o, w, hnp, hw, ho, hle⟩ := nearest_ok (n := s) hx hy
  have hwl : w.length = s := (ws_words s).2 w hw
  have ha := sg_lt hx hn hwl
  have hol := off_lt ha hgl
  rw [← ho] at hol
  obtain ⟨n, hn6, hn1, hn2⟩ := first_of (p := nr x y f) 6 (nr_ex hx hy (by omega))
  have hnn : 64 * 2 ^ n ≤ 16384 := Nat.le_trans (Nat.mul_le_mul_left 64 (Nat.pow_le_pow_right (by decide) (show n ≤ 8 by omega))) (by decide)
  have s1 := search_e N k scr t (some (.d (.int f))) (hcup c') hx hy hs
  have s2 := sizes_e N k scr t (some (.d (.int s))) (some (.d (encB (nearestP x y s)))) (some (.d (encB (nearestP x y s)))) (hcup c') hx hy (show f < 1073741824 by omega)
  rw [good_fold hn1 hn2, if_pos (show n < 8 by omega)] at s2
  have s3 := call_p (Φ := phi T G N (k + 5)) (G := G) (f := 15) (es := .cons (.var 3) (.cons (.var 4) (.cons (.var 5) .nil))) (env := le scr t (some (.d (enc x))) (some (.d (enc y))) (some (.d (.int s))) (some (.d (.int f))) (some (.d (encB (nearestP x y s)))) none none none none none none none) (h := hcup c') (h1 := hcup c') (ws := [.d (enc x), .d (enc y), .d (.int s)])
    (by simp only [envAt, evSs, evS, evE, evEs, evIf, evPart, evC, mkL, valsD, valD, pureL, ixW, ixD, setsE, unsetE, Pat.bind, Sh.bindL, dTy, isD, isNon, List.map_cons, List.map_nil, List.length_cons, List.length_nil, List.getElem?_cons_zero, List.getElem?_cons_succ, List.set_cons_zero, List.set_cons_succ, List.replicate, List.cons_append, List.nil_append, Option.bind_eq_bind, Option.bind_some, Option.map_some, Bool.not_true, Bool.not_false, if_true, if_false, reduceIte, Bool.false_eq_true, reduceCtorEq, Nat.reduceAdd, Nat.reduceSub, Nat.reduceLeDiff, zeroW, cellArg, Option.isSome_some, line_lit, Bool.and_self, Bool.true_and, Bool.and_true, Bool.false_and, Bool.and_false, Bool.or_true, Bool.true_or, Bool.or_false, Bool.false_or, Int.natAbs_natCast, Int.cast_ofNat_Int, Int.reduceLE, Int.reduceLT, Int.reduceEq, decide_true, decide_false, Nat.reduceLT, Nat.reduceEqDiff, List.length_nil, wipeE, eq_self]) (ph_nearest G N (k + 4)) rfl (sp_nearest N k hx (Nat.le_refl _) hy hn (by omega))
  rw [hnp] at s1 s2 s3
  have eB : encB (some (o, w)) = .tup [enc o, .str w] := rfl
  have eo : enc o = .tup [.int o.1, .int o.2] := rfl
  rw [eB] at s1 s2 s3
  have g1 : runP (phi T G N (k + 4)) G N f_law_same [.tup [enc o, .str w], .tup [enc o, .str w]] = some (.bl true) := same_ok N 4 _ (sm_best o w) (dep_best o w) k
  have g2 := sp_after N (k + 1) hx (Nat.le_refl _) (by rw [hwl]; omega) (show w.length ≤ 16 by omega) (words_fw s w hw)
  have g3 := sp_law_off N (k + 3) ha hgl
  rw [← ho] at g3
  have g4 := sp_law_words N (phi T G N (k + 4)) (show s ≤ 8 by omega)
  have g5 := sp_soonest N k hN hx (Nat.le_refl _) hy hnn (by omega) (by omega) hn1 hn2
  have g6 : runP (phi T G N (k + 4)) G N f_law_same [.int n, .int n] = some (.bl true) := same_ok N 4 (.int n) rfl (Nat.zero_le _) k
  have g7 : decide ((o.1 : Int) * ((2 ^ s : Nat) : Int) > o.2) = false := decide_eq_false (by
    rw [show (o.1 : Int) * ((2 ^ s : Nat) : Int) = ((o.1 * 2 ^ s : Nat) : Int) by push_cast; rfl]; omega)
  have hp2 : 2 ^ s ≤ 2 ^ 8 := Nat.pow_le_pow_right (by decide) (by omega)
  have g8 : ((wordsP s).map D.str).length = 2 ^ s := by rw [List.length_map]; exact (ws_words s).1
  unfold b_law_l2
  rw [ss_nx e0, ss_nx (e1 := le scr t (some (.d (enc x))) (some (.d (enc y))) (some (.d (.int s))) (some (.d (.int f))) (some (.d .non)) none none none none none none none) (h1 := hcup c') rfl, ss_nx s1,
    ss_nx (e1 := le scr t (some (.d (enc x))) (some (.d (enc y))) (some (.d (.int s))) (some (.d (.int f))) (some (.d (.tup [enc o, .str w]))) none none (some (.d (.tup [enc o, .str w]))) none none none none) (h1 := hcup c') (s_nm s3),
    ss_nx (e1 := le scr t (some (.d (enc x))) (some (.d (enc y))) (some (.d (.int s))) (some (.d (.int f))) (some (.d (.tup [enc o, .str w]))) none none (some (.d (.tup [enc o, .str w]))) none none none none) (h1 := hcup c') (by
      rw [ite_f (h1 := hcup c') (by simp only [envAt, evSs, evS, evE, evEs, evIf, evPart, evC, mkL, valsD, valD, pureL, ixW, ixD, setsE, unsetE, Pat.bind, Sh.bindL, dTy, isD, isNon, List.map_cons, List.map_nil, List.length_cons, List.length_nil, List.getElem?_cons_zero, List.getElem?_cons_succ, List.set_cons_zero, List.set_cons_succ, List.replicate, List.cons_append, List.nil_append, Option.bind_eq_bind, Option.bind_some, Option.map_some, Bool.not_true, Bool.not_false, if_true, if_false, reduceIte, Bool.false_eq_true, reduceCtorEq, Nat.reduceAdd, Nat.reduceSub, Nat.reduceLeDiff, zeroW, cellArg, Option.isSome_some, line_lit, Bool.and_self, Bool.true_and, Bool.and_true, Bool.false_and, Bool.and_false, Bool.or_true, Bool.true_or, Bool.or_false, Bool.false_or, Int.natAbs_natCast, Int.cast_ofNat_Int, Int.reduceLE, Int.reduceLT, Int.reduceEq, decide_true, decide_false, Nat.reduceLT, Nat.reduceEqDiff, List.length_nil, wipeE, eq_self, ph_law_same, g1, ph_after, g2, ix0, ix1, ph_law_off, g3, b_neEnc])]; rfl),
    ss_nx (e1 := le scr t (some (.d (enc x))) (some (.d (enc y))) (some (.d (.int s))) (some (.d (.int f))) (some (.d (.tup [enc o, .str w]))) none none (some (.d (.tup [enc o, .str w]))) none none none none) (h1 := hcup c') (by
      rw [ite_f (h1 := hcup c') (by simp only [envAt, evSs, evS, evE, evEs, evIf, evPart, evC, mkL, valsD, valD, pureL, ixW, ixD, setsE, unsetE, Pat.bind, Sh.bindL, dTy, isD, isNon, List.map_cons, List.map_nil, List.length_cons, List.length_nil, List.getElem?_cons_zero, List.getElem?_cons_succ, List.set_cons_zero, List.set_cons_succ, List.replicate, List.cons_append, List.nil_append, Option.bind_eq_bind, Option.bind_some, Option.map_some, Bool.not_true, Bool.not_false, if_true, if_false, reduceIte, Bool.false_eq_true, reduceCtorEq, Nat.reduceAdd, Nat.reduceSub, Nat.reduceLeDiff, zeroW, cellArg, Option.isSome_some, line_lit, Bool.and_self, Bool.true_and, Bool.and_true, Bool.false_and, Bool.and_false, Bool.or_true, Bool.true_or, Bool.or_false, Bool.false_or, Int.natAbs_natCast, Int.cast_ofNat_Int, Int.reduceLE, Int.reduceLT, Int.reduceEq, decide_true, decide_false, Nat.reduceLT, Nat.reduceEqDiff, List.length_nil, wipeE, eq_self, ph_law_words, g4, ix0, ix1, eo, wsD, f_lenL, g8, b_mulR (nat64' (show 2 ^ s < 1073741824 by omega)), b_gtI, g7])]; rfl),
    ss_nx (e1 := le scr t (some (.d (enc x))) (some (.d (enc y))) (some (.d (.int s))) (some (.d (.int f))) (some (.d (.tup [enc o, .str w]))) none none (some (.d (.tup [enc o, .str w]))) (some (.d (.lst []))) none none none) (h1 := hcup c') rfl, ss_nx s2,
    ss_nx (e1 := le scr t (some (.d (enc x))) (some (.d (enc y))) (some (.d (.int s))) (some (.d (.int f))) (some (.d (.tup [enc o, .str w]))) none none (some (.d (.tup [enc o, .str w]))) (some (.d (.lst [.int n]))) none none none) (h1 := hcup c') (by
      rw [ite_f (h1 := hcup c') (by simp only [envAt, evSs, evS, evE, evEs, evIf, evPart, evC, mkL, valsD, valD, pureL, ixW, ixD, setsE, unsetE, Pat.bind, Sh.bindL, dTy, isD, isNon, List.map_cons, List.map_nil, List.length_cons, List.length_nil, List.getElem?_cons_zero, List.getElem?_cons_succ, List.set_cons_zero, List.set_cons_succ, List.replicate, List.cons_append, List.nil_append, Option.bind_eq_bind, Option.bind_some, Option.map_some, Bool.not_true, Bool.not_false, if_true, if_false, reduceIte, Bool.false_eq_true, reduceCtorEq, Nat.reduceAdd, Nat.reduceSub, Nat.reduceLeDiff, zeroW, cellArg, Option.isSome_some, line_lit, Bool.and_self, Bool.true_and, Bool.and_true, Bool.false_and, Bool.and_false, Bool.or_true, Bool.true_or, Bool.or_false, Bool.false_or, Int.natAbs_natCast, Int.cast_ofNat_Int, Int.reduceLE, Int.reduceLT, Int.reduceEq, decide_true, decide_false, Nat.reduceLT, Nat.reduceEqDiff, List.length_nil, wipeE, eq_self, ph_soonest, g5, atI_zero, ph_law_same, g6])]; rfl)]
  rfl
theorem dbl_fold : ∀ s : Nat, (List.range s).foldl (fun w _ => w * 2) 1 = 2 ^ s
  | 0 => rfl
  | s + 1 => by rw [List.range_succ, List.foldl_append, dbl_fold s]; exact (Nat.pow_succ 2 s).symm
theorem F1 : ∀ s, s < 9 → nearestP (0, 1) (1, 1) s = some ((1, 2 ^ s), List.replicate s 102) := by decide +kernel
theorem F2 : ∀ s, s < 9 → nearestP (0, 1) (0, 1) s = some ((0, 1), List.replicate s 119) := by decide +kernel
theorem F3 : ∀ s, s < 9 → nr (0, 1) (1, 1) (2 ^ s) s = true := by decide +kernel
theorem F4 : ∀ s, s < 9 → ∀ j, j < s → nr (0, 1) (1, 1) (2 ^ s) j = false := by decide +kernel
theorem F5 : nr (1, 2) (1, 2) 1000 0 = true := by decide +kernel
theorem law_ok (hN : 10 ≤ N) {ns : List Int} (hl : ns.length ≤ 63) : runP (phi T G N (k + 5)) G N f_law [.scr ns] = some (.bl true) := by
  obtain ⟨e0, hc⟩ := cup_ok (nm := "_law_cup") (phi T G N (k + 4)) G N (a := 89) (b := 331) (c := 4049) (d := 2077492797) (e := 173) hl (by decide) (b64_of (by decide)) (by decide) (by decide)
  generalize cupOf 89 331 4049 2077492797 173 ns = c at e0 hc
  have q0 := call_new (Φ := phi T G N (k + 5)) (G := G) (f := 0) (es := .cons (.var 0) .nil) (env := [some (.d (.scr ns)), none, none, none, none, none, none, none, none, none, none, none, none, none, none]) (h := []) (ws := [.d (.scr ns)]) (by simp only [envAt, evSs, evS, evE, evEs, evIf, evPart, evC, mkL, valsD, valD, pureL, ixW, ixD, setsE, unsetE, Pat.bind, Sh.bindL, dTy, isD, isNon, List.map_cons, List.map_nil, List.length_cons, List.length_nil, List.getElem?_cons_zero, List.getElem?_cons_succ, List.set_cons_zero, List.set_cons_succ, List.replicate, List.cons_append, List.nil_append, Option.bind_eq_bind, Option.bind_some, Option.map_some, Bool.not_true, Bool.not_false, if_true, if_false, reduceIte, Bool.false_eq_true, reduceCtorEq, Nat.reduceAdd, Nat.reduceSub, Nat.reduceLeDiff, zeroW, cellArg, Option.isSome_some, line_lit, Bool.and_self, Bool.true_and, Bool.and_true, Bool.false_and, Bool.and_false, Bool.or_true, Bool.true_or, Bool.or_false, Bool.false_or, Int.natAbs_natCast, Int.cast_ofNat_Int, Int.reduceLE, Int.reduceLT, Int.reduceEq, decide_true, decide_false, Nat.reduceLT, Nat.reduceEqDiff, List.length_nil, wipeE, eq_self]) (ph_law_cup G N (k + 4)) rfl e0
  obtain ⟨env1, h1, q1, c1, hc1, rfl, rfl⟩ := for_inv (Φ := phi T G N (k + 5)) (G := G) (N := N) (p := .nm 2) (it := .rng (.cons (.lit (.int 3)) .nil)) (body := b_law_l2) (env := le ns none none none none none none none none none none none none none) (h := hcup c)
    (fun j : Nat => D.int j) (fun _ env h => ∃ c, cupOk c ∧ env = le ns none none none none none none none none none none none none none ∧ h = hcup c) (List.range 3) (rng_1 (n := 3) (by simp only [envAt, evSs, evS, evE, evEs, evIf, evPart, evC, mkL, valsD, valD, pureL, ixW, ixD, setsE, unsetE, Pat.bind, Sh.bindL, dTy, isD, isNon, List.map_cons, List.map_nil, List.length_cons, List.length_nil, List.getElem?_cons_zero, List.getElem?_cons_succ, List.set_cons_zero, List.set_cons_succ, List.replicate, List.cons_append, List.nil_append, Option.bind_eq_bind, Option.bind_some, Option.map_some, Bool.not_true, Bool.not_false, if_true, if_false, reduceIte, Bool.false_eq_true, reduceCtorEq, Nat.reduceAdd, Nat.reduceSub, Nat.reduceLeDiff, zeroW, cellArg, Option.isSome_some, line_lit, Bool.and_self, Bool.true_and, Bool.and_true, Bool.false_and, Bool.and_false, Bool.or_true, Bool.true_or, Bool.or_false, Bool.false_or, Int.natAbs_natCast, Int.cast_ofNat_Int, Int.reduceLE, Int.reduceLT, Int.reduceEq, decide_true, decide_false, Nat.reduceLT, Nat.reduceEqDiff, List.length_nil, wipeE, eq_self]) rfl (by decide)) rfl ⟨c, hc, rfl, rfl⟩
    (fun j r env h ⟨c, hc, e1, e2⟩ => by
      subst e1 e2
      obtain ⟨c', hc', e⟩ := turn_e N k hN ns (some (.d (.int j))) hc
      exact ⟨_, _, _, rfl, e, c', hc', rfl, rfl⟩)
  obtain ⟨s, c2, hs, hc2, e2⟩ := roll_e N (phi T G N (k + 4)) (m := 9) hc1 (by omega)
  have q2 := call_c (Φ := phi T G N (k + 5)) (G := G) (f := 16) (es := .cons (.var 1) (.cons (.lit (.int 9)) .nil)) (env := le ns none none none none none none none none none none none none none) (h := hcup c1) (c := c1) (c' := c2) (ws := [.ref 0, .d (.int 9)]) (r := .int s)
    (by simp only [envAt, evSs, evS, evE, evEs, evIf, evPart, evC, mkL, valsD, valD, pureL, ixW, ixD, setsE, unsetE, Pat.bind, Sh.bindL, dTy, isD, isNon, List.map_cons, List.map_nil, List.length_cons, List.length_nil, List.getElem?_cons_zero, List.getElem?_cons_succ, List.set_cons_zero, List.set_cons_succ, List.replicate, List.cons_append, List.nil_append, Option.bind_eq_bind, Option.bind_some, Option.map_some, Bool.not_true, Bool.not_false, if_true, if_false, reduceIte, Bool.false_eq_true, reduceCtorEq, Nat.reduceAdd, Nat.reduceSub, Nat.reduceLeDiff, zeroW, cellArg, Option.isSome_some, line_lit, Bool.and_self, Bool.true_and, Bool.and_true, Bool.false_and, Bool.and_false, Bool.or_true, Bool.true_or, Bool.or_false, Bool.false_or, Int.natAbs_natCast, Int.cast_ofNat_Int, Int.reduceLE, Int.reduceLT, Int.reduceEq, decide_true, decide_false, Nat.reduceLT, Nat.reduceEqDiff, List.length_nil, wipeE, eq_self]) (ph_law_roll G N (k + 4)) rfl e2
  have q3 := (for_fold (Φ := phi T G N (k + 5)) (G := G) (N := N) (p := .nm 2) (it := .rng (.cons (.var 5) .nil)) (body := b_law_l3) (h := hcup c2)
    (fun j : Nat => D.int j) (fun w : Nat => le ns none none none (some (.d (.int s))) none none none none none none none none (some (.d (.int w)))) (fun _ => hcup c2) (fun w _ => w * 2) (fun _ _ => True) (List.range s) 1
    (rng_1 (n := s) (by simp only [envAt, evSs, evS, evE, evEs, evIf, evPart, evC, mkL, valsD, valD, pureL, ixW, ixD, setsE, unsetE, Pat.bind, Sh.bindL, dTy, isD, isNon, List.map_cons, List.map_nil, List.length_cons, List.length_nil, List.getElem?_cons_zero, List.getElem?_cons_succ, List.set_cons_zero, List.set_cons_succ, List.replicate, List.cons_append, List.nil_append, Option.bind_eq_bind, Option.bind_some, Option.map_some, Bool.not_true, Bool.not_false, if_true, if_false, reduceIte, Bool.false_eq_true, reduceCtorEq, Nat.reduceAdd, Nat.reduceSub, Nat.reduceLeDiff, zeroW, cellArg, Option.isSome_some, line_lit, Bool.and_self, Bool.true_and, Bool.and_true, Bool.false_and, Bool.and_false, Bool.or_true, Bool.true_or, Bool.or_false, Bool.false_or, Int.natAbs_natCast, Int.cast_ofNat_Int, Int.reduceLE, Int.reduceLT, Int.reduceEq, decide_true, decide_false, Nat.reduceLT, Nat.reduceEqDiff, List.length_nil, wipeE, eq_self]) rfl (by omega)) rfl rfl trivial
    (fun w j r _ => ⟨_, rfl, by
      have e : ((w : Int) * 2) = ((w * 2 : Nat) : Int) := by push_cast; rfl
      have h2 : b64 2 = true := b64_of (by decide)
      unfold b_law_l3
      simp only [envAt, evSs, evS, ev_var, ev_lit, ev_con, ev_bin, ev_not, ev_or, ev_and, ev_ite, ev_tup, ev_ix, ev_bif, ev_disp, evEs, evIf, evPart, mkL, valsD, valD, pureL, ixW, ixD, setsE, unsetE, Pat.bind, Sh.bindL, dTy, isD, isNon, List.map_cons, List.map_nil, List.length_cons, List.length_nil, List.getElem?_cons_zero, List.getElem?_cons_succ, List.set_cons_zero, List.set_cons_succ, List.replicate, List.cons_append, List.nil_append, Option.bind_eq_bind, Option.bind_some, Option.map_some, Bool.not_true, Bool.not_false, if_true, if_false, reduceIte, Bool.false_eq_true, reduceCtorEq, Nat.reduceAdd, Nat.reduceSub, Nat.reduceLeDiff, zeroW, cellArg, Option.isSome_some, line_lit, Bool.and_self, Bool.true_and, Bool.and_true, Bool.false_and, Bool.and_false, Bool.or_true, Bool.true_or, Bool.or_false, Bool.false_or, Int.natAbs_natCast, Int.cast_ofNat_Int, Int.reduceLE, Int.reduceLT, Int.reduceEq, decide_true, decide_false, Nat.reduceLT, Nat.reduceEqDiff, List.length_nil, wipeE, eq_self, b_mulR h2, e], trivial⟩)).1
  rw [dbl_fold] at q3
  have hp : 1 ≤ 2 ^ s ∧ 2 ^ s ≤ 2 ^ 8 := ⟨Nat.two_pow_pos s, Nat.pow_le_pow_right (by decide) (by omega)⟩
  have S0 : Sg 1 (0, 1) := ⟨by decide, by decide, by decide, by decide⟩
  have S01 : Sg 64 (0, 1) := ⟨by decide, by decide, by decide, by decide⟩
  have S11 : Sg 64 (1, 1) := ⟨by decide, by decide, by decide, by decide⟩
  have S12 : Sg 2 (1, 2) := ⟨by decide, by decide, by decide, by decide⟩
  have S12' : Sg 64 (1, 2) := ⟨by decide, by decide, by decide, by decide⟩
  have r1 := sp_nearest N k (n := s) S0 (by decide) S11 (by omega) (by omega)
  have r2 := sp_nearest N k (n := s) S0 (by decide) S01 (by omega) (by omega)
  have r3 := sp_soonest N k hN (fine := 2 ^ s) (n := s) S0 (by decide) S11 (by omega) (by omega) (by omega) (F3 s hs) (F4 s hs)
  have r4 := sp_soonest N k hN (fine := 1000) (n := 0) S12 (by decide) S12' (by decide) (by decide) (by decide) F5 (fun j hj => absurd hj (Nat.not_lt_zero j))
  rw [F1 s hs] at r1
  rw [F2 s hs] at r2
  have b1 : encB (some ((1, 2 ^ s), List.replicate s 102)) = .tup [.tup [.int 1, .int ((2 ^ s : Nat) : Int)], .str (List.replicate s 102)] := rfl
  have b2 : encB (some ((0, 1), List.replicate s 119)) = .tup [.tup [.int 0, .int 1], .str (List.replicate s 119)] := rfl
  rw [b1] at r1
  rw [b2] at r2
  have env := le ns none none none (some (.d (.int s))) none none none none none none none none (some (.d (.int ((2 ^ s : Nat) : Int))))
  have t1 := call_p (Φ := phi T G N (k + 5)) (G := G) (f := 15) (es := (.cons (.tup (.cons (.lit (.int 0)) (.cons (.lit (.int 1)) .nil))) (.cons (.tup (.cons (.lit (.int 1)) (.cons (.lit (.int 1)) .nil))) (.cons (.var 5) .nil)))) (env := le ns none none none (some (.d (.int s))) none none none none none none none none (some (.d (.int ((2 ^ s : Nat) : Int))))) (h := hcup c2) (h1 := hcup c2)
    (ws := [.d (.tup [.int 0, .int 1]), .d (.tup [.int 1, .int 1]), .d (.int s)]) (by simp only [envAt, evSs, evS, evE, evEs, evIf, evPart, evC, mkL, valsD, valD, pureL, ixW, ixD, setsE, unsetE, Pat.bind, Sh.bindL, dTy, isD, isNon, List.map_cons, List.map_nil, List.length_cons, List.length_nil, List.getElem?_cons_zero, List.getElem?_cons_succ, List.set_cons_zero, List.set_cons_succ, List.replicate, List.cons_append, List.nil_append, Option.bind_eq_bind, Option.bind_some, Option.map_some, Bool.not_true, Bool.not_false, if_true, if_false, reduceIte, Bool.false_eq_true, reduceCtorEq, Nat.reduceAdd, Nat.reduceSub, Nat.reduceLeDiff, zeroW, cellArg, Option.isSome_some, line_lit, Bool.and_self, Bool.true_and, Bool.and_true, Bool.false_and, Bool.and_false, Bool.or_true, Bool.true_or, Bool.or_false, Bool.false_or, Int.natAbs_natCast, Int.cast_ofNat_Int, Int.reduceLE, Int.reduceLT, Int.reduceEq, decide_true, decide_false, Nat.reduceLT, Nat.reduceEqDiff, List.length_nil, wipeE, eq_self]) (ph_nearest G N (k + 4)) rfl r1
  have t2 := call_p (Φ := phi T G N (k + 5)) (G := G) (f := 15) (es := (.cons (.tup (.cons (.lit (.int 0)) (.cons (.lit (.int 1)) .nil))) (.cons (.tup (.cons (.lit (.int 0)) (.cons (.lit (.int 1)) .nil))) (.cons (.var 5) .nil)))) (env := le ns none none none (some (.d (.int s))) none none none none none none none none (some (.d (.int ((2 ^ s : Nat) : Int))))) (h := hcup c2) (h1 := hcup c2)
    (ws := [.d (.tup [.int 0, .int 1]), .d (.tup [.int 0, .int 1]), .d (.int s)]) (by simp only [envAt, evSs, evS, evE, evEs, evIf, evPart, evC, mkL, valsD, valD, pureL, ixW, ixD, setsE, unsetE, Pat.bind, Sh.bindL, dTy, isD, isNon, List.map_cons, List.map_nil, List.length_cons, List.length_nil, List.getElem?_cons_zero, List.getElem?_cons_succ, List.set_cons_zero, List.set_cons_succ, List.replicate, List.cons_append, List.nil_append, Option.bind_eq_bind, Option.bind_some, Option.map_some, Bool.not_true, Bool.not_false, if_true, if_false, reduceIte, Bool.false_eq_true, reduceCtorEq, Nat.reduceAdd, Nat.reduceSub, Nat.reduceLeDiff, zeroW, cellArg, Option.isSome_some, line_lit, Bool.and_self, Bool.true_and, Bool.and_true, Bool.false_and, Bool.and_false, Bool.or_true, Bool.true_or, Bool.or_false, Bool.false_or, Int.natAbs_natCast, Int.cast_ofNat_Int, Int.reduceLE, Int.reduceLT, Int.reduceEq, decide_true, decide_false, Nat.reduceLT, Nat.reduceEqDiff, List.length_nil, wipeE, eq_self]) (ph_nearest G N (k + 4)) rfl r2
  have t3 := call_p (Φ := phi T G N (k + 5)) (G := G) (f := 17) (es := (.cons (.tup (.cons (.lit (.int 0)) (.cons (.lit (.int 1)) .nil))) (.cons (.tup (.cons (.lit (.int 1)) (.cons (.lit (.int 1)) .nil))) (.cons (.var 14) .nil)))) (env := le ns none none none (some (.d (.int s))) none none none none none none none none (some (.d (.int ((2 ^ s : Nat) : Int))))) (h := hcup c2) (h1 := hcup c2)
    (ws := [.d (.tup [.int 0, .int 1]), .d (.tup [.int 1, .int 1]), .d (.int ((2 ^ s : Nat) : Int))]) (by simp only [envAt, evSs, evS, evE, evEs, evIf, evPart, evC, mkL, valsD, valD, pureL, ixW, ixD, setsE, unsetE, Pat.bind, Sh.bindL, dTy, isD, isNon, List.map_cons, List.map_nil, List.length_cons, List.length_nil, List.getElem?_cons_zero, List.getElem?_cons_succ, List.set_cons_zero, List.set_cons_succ, List.replicate, List.cons_append, List.nil_append, Option.bind_eq_bind, Option.bind_some, Option.map_some, Bool.not_true, Bool.not_false, if_true, if_false, reduceIte, Bool.false_eq_true, reduceCtorEq, Nat.reduceAdd, Nat.reduceSub, Nat.reduceLeDiff, zeroW, cellArg, Option.isSome_some, line_lit, Bool.and_self, Bool.true_and, Bool.and_true, Bool.false_and, Bool.and_false, Bool.or_true, Bool.true_or, Bool.or_false, Bool.false_or, Int.natAbs_natCast, Int.cast_ofNat_Int, Int.reduceLE, Int.reduceLT, Int.reduceEq, decide_true, decide_false, Nat.reduceLT, Nat.reduceEqDiff, List.length_nil, wipeE, eq_self]) (ph_soonest G N (k + 4)) rfl r3
  have t4 := call_p (Φ := phi T G N (k + 5)) (G := G) (f := 17) (es := (.cons (.tup (.cons (.lit (.int 1)) (.cons (.lit (.int 2)) .nil))) (.cons (.tup (.cons (.lit (.int 1)) (.cons (.lit (.int 2)) .nil))) (.cons (.lit (.int 1000)) .nil)))) (env := le ns none none none (some (.d (.int s))) none none none none none none none none (some (.d (.int ((2 ^ s : Nat) : Int))))) (h := hcup c2) (h1 := hcup c2)
    (ws := [.d (.tup [.int 1, .int 2]), .d (.tup [.int 1, .int 2]), .d (.int 1000)]) (by simp only [envAt, evSs, evS, evE, evEs, evIf, evPart, evC, mkL, valsD, valD, pureL, ixW, ixD, setsE, unsetE, Pat.bind, Sh.bindL, dTy, isD, isNon, List.map_cons, List.map_nil, List.length_cons, List.length_nil, List.getElem?_cons_zero, List.getElem?_cons_succ, List.set_cons_zero, List.set_cons_succ, List.replicate, List.cons_append, List.nil_append, Option.bind_eq_bind, Option.bind_some, Option.map_some, Bool.not_true, Bool.not_false, if_true, if_false, reduceIte, Bool.false_eq_true, reduceCtorEq, Nat.reduceAdd, Nat.reduceSub, Nat.reduceLeDiff, zeroW, cellArg, Option.isSome_some, line_lit, Bool.and_self, Bool.true_and, Bool.and_true, Bool.false_and, Bool.and_false, Bool.or_true, Bool.true_or, Bool.or_false, Bool.false_or, Int.natAbs_natCast, Int.cast_ofNat_Int, Int.reduceLE, Int.reduceLT, Int.reduceEq, decide_true, decide_false, Nat.reduceLT, Nat.reduceEqDiff, List.length_nil, wipeE, eq_self]) (ph_soonest G N (k + 4)) rfl r4
  have hsm : sm (.tup [.tup [.tup [.int 1, .int ((2 ^ s : Nat) : Int)], .str (List.replicate s 102)], .tup [.tup [.int 0, .int 1], .str (List.replicate s 119)], .int s, .int ((0 : Nat) : Int)]) = true := by simp [sm, smL, line]
  have hdp : dep (.tup [.tup [.tup [.int 1, .int ((2 ^ s : Nat) : Int)], .str (List.replicate s 102)], .tup [.tup [.int 0, .int 1], .str (List.replicate s 119)], .int s, .int ((0 : Nat) : Int)]) ≤ 4 := by simp [dep, depL]
  have g1 := same_ok N 4 _ hsm hdp k
  refine run_rt (hh := hcup c2) rfl ?_
  show evSs _ G N b_law [some (.d (.scr ns)), none, none, none, none, none, none, none, none, none, none, none, none, none, none] [] = _
  unfold b_law
  rw [ss_nx (e1 := le ns none none none none none none none none none none none none none) (h1 := hcup c) (s_nm q0), ss_nx q1,
    ss_nx (e1 := le ns none none none (some (.d (.int s))) none none none none none none none none (some (.d (.int ((1 : Nat) : Int))))) (h1 := hcup c2) (by
      simp only [envAt, evSs, evS, ev_var, ev_lit, ev_con, ev_bin, ev_not, ev_or, ev_and, ev_ite, ev_tup, ev_ix, ev_bif, ev_disp, evEs, evIf, evPart, mkL, valsD, valD, pureL, ixW, ixD, setsE, unsetE, Pat.bind, Sh.bindL, dTy, isD, isNon, List.map_cons, List.map_nil, List.length_cons, List.length_nil, List.getElem?_cons_zero, List.getElem?_cons_succ, List.set_cons_zero, List.set_cons_succ, List.replicate, List.cons_append, List.nil_append, Option.bind_eq_bind, Option.bind_some, Option.map_some, Bool.not_true, Bool.not_false, if_true, if_false, reduceIte, Bool.false_eq_true, reduceCtorEq, Nat.reduceAdd, Nat.reduceSub, Nat.reduceLeDiff, zeroW, cellArg, Option.isSome_some, line_lit, Bool.and_self, Bool.true_and, Bool.and_true, Bool.false_and, Bool.and_false, Bool.or_true, Bool.true_or, Bool.or_false, Bool.false_or, Int.natAbs_natCast, Int.cast_ofNat_Int, Int.reduceLE, Int.reduceLT, Int.reduceEq, decide_true, decide_false, Nat.reduceLT, Nat.reduceEqDiff, List.length_nil, wipeE, eq_self, q2]), ss_nx q3,
    ss_nx (e1 := le ns none none none (some (.d (.int s))) none none none none (some (.d (.tup [.tup [.tup [.int 1, .int ((2 ^ s : Nat) : Int)], .str (List.replicate s 102)], .tup [.tup [.int 0, .int 1], .str (List.replicate s 119)], .int s, .int ((0 : Nat) : Int)]))) none none none (some (.d (.int ((2 ^ s : Nat) : Int))))) (h1 := hcup c2) (by
      refine s_nm (w := .d (.tup [.tup [.tup [.int 1, .int ((2 ^ s : Nat) : Int)], .str (List.replicate s 102)], .tup [.tup [.int 0, .int 1], .str (List.replicate s 119)], .int s, .int ((0 : Nat) : Int)])) ?_
      simp only [envAt, evSs, evS, ev_var, ev_lit, ev_con, ev_bin, ev_not, ev_or, ev_and, ev_ite, ev_tup, ev_ix, ev_bif, ev_disp, evEs, evIf, evPart, mkL, valsD, valD, pureL, ixW, ixD, setsE, unsetE, Pat.bind, Sh.bindL, dTy, isD, isNon, List.map_cons, List.map_nil, List.length_cons, List.length_nil, List.getElem?_cons_zero, List.getElem?_cons_succ, List.set_cons_zero, List.set_cons_succ, List.replicate, List.cons_append, List.nil_append, Option.bind_eq_bind, Option.bind_some, Option.map_some, Bool.not_true, Bool.not_false, if_true, if_false, reduceIte, Bool.false_eq_true, reduceCtorEq, Nat.reduceAdd, Nat.reduceSub, Nat.reduceLeDiff, zeroW, cellArg, Option.isSome_some, line_lit, Bool.and_self, Bool.true_and, Bool.and_true, Bool.false_and, Bool.and_false, Bool.or_true, Bool.true_or, Bool.or_false, Bool.false_or, Int.natAbs_natCast, Int.cast_ofNat_Int, Int.reduceLE, Int.reduceLT, Int.reduceEq, decide_true, decide_false, Nat.reduceLT, Nat.reduceEqDiff, List.length_nil, wipeE, eq_self, t1, t2, t3, t4])]
  refine ss_rt (s_ret (call_p (ws := [.d (.tup [.tup [.tup [.int 1, .int ((2 ^ s : Nat) : Int)], .str (List.replicate s 102)], .tup [.tup [.int 0, .int 1], .str (List.replicate s 119)], .int s, .int ((0 : Nat) : Int)]), .d (.tup [.tup [.tup [.int 1, .int ((2 ^ s : Nat) : Int)], .str (List.replicate s 102)], .tup [.tup [.int 0, .int 1], .str (List.replicate s 119)], .int s, .int 0])]) ?_ (ph_law_same G N (k + 4)) rfl g1))
  have m1 := mulS 102 s (by omega)
  have m2 := mulS 119 s (by omega)
  simp only [envAt, evSs, evS, ev_var, ev_lit, ev_con, ev_bin, ev_not, ev_or, ev_and, ev_ite, ev_tup, ev_ix, ev_bif, ev_disp, evEs, evIf, evPart, mkL, valsD, valD, pureL, ixW, ixD, setsE, unsetE, Pat.bind, Sh.bindL, dTy, isD, isNon, List.map_cons, List.map_nil, List.length_cons, List.length_nil, List.getElem?_cons_zero, List.getElem?_cons_succ, List.set_cons_zero, List.set_cons_succ, List.replicate, List.cons_append, List.nil_append, Option.bind_eq_bind, Option.bind_some, Option.map_some, Bool.not_true, Bool.not_false, if_true, if_false, reduceIte, Bool.false_eq_true, reduceCtorEq, Nat.reduceAdd, Nat.reduceSub, Nat.reduceLeDiff, zeroW, cellArg, Option.isSome_some, line_lit, Bool.and_self, Bool.true_and, Bool.and_true, Bool.false_and, Bool.and_false, Bool.or_true, Bool.true_or, Bool.or_false, Bool.false_or, Int.natAbs_natCast, Int.cast_ofNat_Int, Int.reduceLE, Int.reduceLT, Int.reduceEq, decide_true, decide_false, Nat.reduceLT, Nat.reduceEqDiff, List.length_nil, wipeE, eq_self, m1, m2]
end
end L76

open PySem PySem.W PyProof.Rows
theorem L76.law_fin (ns : List Int) (hl : ns.length ≤ 63) : Sh.runP (Sh.phi L76.T L76.G 1000 5) L76.G 1000 L76.f_law [.scr ns] = some (.bl true) := L76.law_ok 1000 0 (by decide) hl
open PySem PySem.W PyProof.Rows
set_option maxHeartbeats 0 in
theorem PySem.Challenge.cw_leatheryard_k76_whole_nearest_words_holds : PySem.Challenge.rw_leatheryard_k76_whole_nearest_words.Holds := by
  w_on; o_law; k_head; (case hw => w_witness2)
  k_fill
  refine L2.walk_of (l := PySem.Challenge.rw_leatheryard_k76_whole_nearest_words) (n := 63) (k := 6) (x := "script") (CX := fun _ => L2.CX0) (sp := fun w => Sh.spLaw _ 63) rfl (by decide) rfl ⟨rfl, by decide, by decide⟩ (fun w h Y => PySem.W.kIn_of Y) ?F (fun _ _ a ns hl hO hS => ⟨a, ns, rfl, Sh.sq_of hO hS, hl, fun _ => rfl⟩) (fun _ _ _ _ _ h => h)
  case F =>
    intro w mg fa h KX Gn hmg
    refine' L76.all_mk KX Gn hmg ?a0 ?l0 ?c0 ?k0 ?a1 ?l1 ?c1 ?k1 ?a2 ?l2 ?c2 ?k2 ?a3 ?l3 ?c3 ?k3 ?a4 ?l4 ?c4 ?k4 ?a5 ?l5 ?c5 ?k5 ?a6 ?l6 ?c6 ?k6 ?a7 ?l7 ?c7 ?k7 ?a8 ?l8 ?c8 ?k8 ?a9 ?l9 ?c9 ?k9 ?a10 ?l10 ?c10 ?k10 ?a11 ?l11 ?c11 ?k11 ?a12 ?l12 ?c12 ?k12 ?a13 ?l13 ?c13 ?k13 ?a14 ?l14 ?c14 ?k14 ?a15 ?l15 ?c15 ?k15 ?a16 ?l16 ?c16 ?k16 ?a17 ?l17 ?c17 ?k17 ?a18 ?l18 ?c18 ?k18 ?a19 ?l19 ?c19 ?k19 ?a20 ?l20 ?c20 ?k20 ?a21 ?l21 ?c21 ?k21 ?a22 ?l22 ?c22 ?k22 ?a23 ?l23 ?c23 ?k23 ?a24 ?l24 ?c24 ?k24 ?a25 ?l25 ?c25 ?k25 ?a26 ?l26 ?c26 ?k26 ?a27 ?l27 ?c27 ?k27 ?z0 ?z1 ?z2 ?z3 ?z4 ?z5 ?z6 ?z7 ?z8 ?z9 ?z10 ?z11 ?z12 ?z13 ?z14 ?z15 ?y0 ?y1 ?y2 ?y3 ?gg L76.law_fin
    (case a0 => k_is); (case l0 => k_is); (case c0 => k_is); (case k0 => k_is); (case a1 => k_is); (case l1 => k_is); (case c1 => k_is); (case k1 => k_is); (case a2 => k_is); (case l2 => k_is); (case c2 => k_is); (case k2 => k_is); (case a3 => k_is); (case l3 => k_is); (case c3 => k_is); (case k3 => k_is); (case a4 => k_is); (case l4 => k_is); (case c4 => k_is); (case k4 => k_is); (case a5 => k_is); (case l5 => k_is); (case c5 => k_is); (case k5 => k_is); (case a6 => k_is); (case l6 => k_is); (case c6 => k_is); (case k6 => k_is); (case a7 => k_is); (case l7 => k_is); (case c7 => k_is); (case k7 => k_is); (case a8 => k_is); (case l8 => k_is); (case c8 => k_is); (case k8 => k_is); (case a9 => k_is); (case l9 => k_is); (case c9 => k_is); (case k9 => k_is); (case a10 => k_is); (case l10 => k_is); (case c10 => k_is); (case k10 => k_is); (case a11 => k_is); (case l11 => k_is); (case c11 => k_is); (case k11 => k_is); (case a12 => k_is); (case l12 => k_is); (case c12 => k_is); (case k12 => k_is); (case a13 => k_is); (case l13 => k_is); (case c13 => k_is); (case k13 => k_is); (case a14 => k_is); (case l14 => k_is); (case c14 => k_is); (case k14 => k_is); (case a15 => k_is); (case l15 => k_is); (case c15 => k_is); (case k15 => k_is); (case a16 => k_is); (case l16 => k_is); (case c16 => k_is); (case k16 => k_is); (case a17 => k_is); (case l17 => k_is); (case c17 => k_is); (case k17 => k_is); (case a18 => k_is); (case l18 => k_is); (case c18 => k_is); (case k18 => k_is); (case a19 => k_is); (case l19 => k_is); (case c19 => k_is); (case k19 => k_is); (case a20 => k_is); (case l20 => k_is); (case c20 => k_is); (case k20 => k_is); (case a21 => k_is); (case l21 => k_is); (case c21 => k_is); (case k21 => k_is); (case a22 => k_is); (case l22 => k_is); (case c22 => k_is); (case k22 => k_is); (case a23 => k_is); (case l23 => k_is); (case c23 => k_is); (case k23 => k_is); (case a24 => k_is); (case l24 => k_is); (case c24 => k_is); (case k24 => k_is); (case a25 => k_is); (case l25 => k_is); (case c25 => k_is); (case k25 => k_is); (case a26 => k_is); (case l26 => k_is); (case c26 => k_is); (case k26 => k_is); (case a27 => k_is); (case l27 => k_is); (case c27 => k_is); (case k27 => k_is); (case z0 => k_is); (case z1 => k_is); (case z2 => k_is); (case z3 => k_is); (case z4 => k_is); (case z5 => k_is); (case z6 => k_is); (case z7 => k_is); (case z8 => k_is); (case z9 => k_is); (case z10 => k_is); (case z11 => k_is); (case z12 => k_is); (case z13 => k_is); (case z14 => k_is); (case z15 => k_is); (case y0 => k_is); (case y1 => k_is); (case y2 => k_is); (case y3 => k_is); (case gg => k_is)

