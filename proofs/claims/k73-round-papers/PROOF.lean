import PyProof.Rows.All
import Wide.All
import OpenK.AllK
import Wide.FinOn
import PySem.Challenge.RW_leatheryard_k73_whole_round_papers
import HandS.ForMost
import HandS.Conv
import HandS.Zip
import HandS.TupAny
import HandS.TupMul
import HandS.Style
import HandS.Gcd
import KE.KeyNested
import KE.DataCmp
import HandS.IsInst
import HandS.Deep
import PyProof.StrBlock2
import PyProof.DictMoreH
import HandS.Wide
import KE.SortData
import KE.DataMinMax
import KE.KDictCopyH
import KE.KDictSum
import HandS.TupLen
import HandS.RaiseMore
import HandS.Text
import HandS.Codes
import KE.GoesEnum
import KE.GoesMore
import KE.KDictZip
import HandS.MapObj
set_option Elab.async false
set_option linter.all false
set_option maxRecDepth 100000
set_option maxHeartbeats 4000000
set_option autoImplicit false
/-! plain data of a Python program, how it lies in the heap of the model -/
namespace Sh
open PySem PySem.Spec PyProof.Rows L2

/-- plain data -/
inductive D where
  | non | bl (b : Bool) | int (i : Int) | str (s : List Nat)
  | tup (xs : List D) | lst (xs : List D)
  /-- a dict; c: its keys are tuples -/
  | dct (c : Bool) (ks vs : List D)
  /-- the script itself -/
  | scr (ns : List Int)
/-- the written part, and the world -/
structure KW where
  K : PySem.W.Frag
  w : World
instance : Coe KW PySem.W.Frag := ⟨KW.K⟩
abbrev _root_.L2.Cx.KK (X : Cx) : KW := ⟨X.K, X.w⟩
mutual
def dep : D → Nat
  | .tup xs => depL xs + 1
  | .lst xs => depL xs + 1
  | _ => 0
def depL : List D → Nat
  | [] => 0
  | x :: r => max (dep x) (depL r)
end
mutual
/-- == -/
def eqD : D → D → Bool
  | .non, .non => true
  | .bl a, .bl b => a == b
  | .bl a, .int j => (if a then 1 else 0) == j
  | .int i, .bl b => i == (if b then 1 else 0)
  | .int i, .int j => i == j
  | .str x, .str y => x == y
  | .tup xs, .tup ys => eqDL xs ys
  | .lst xs, .lst ys => eqDL xs ys
  | _, _ => false
def eqDL : List D → List D → Bool
  | [], [] => true
  | x :: xs, y :: ys => eqD x y && eqDL xs ys
  | _, _ => false
end
mutual
/-- what can be a key -/
def hsb : D → Bool
  | .non => true | .bl _ => true | .int _ => true | .str _ => true
  | .tup xs => hsbL xs
  | .lst _ => false | .dct .. => false | .scr _ => false
def hsbL : List D → Bool
  | [] => true
  | x :: r => hsb x && hsbL r
end
mutual
def nk : D → NestedKey
  | .bl b => .num (if b = true then 1 else 0)
  | .int i => .num i
  | .str s => .text ⟨s.toArray⟩
  | .tup xs => .tup (nkL xs)
  | .non => .none | .lst _ => .none | .dct .. => .none | .scr _ => .none
def nkL : List D → List NestedKey
  | [] => []
  | x :: r => nk x :: nkL r
end
/-- a key of the class c -/
def kcB : Bool → D → Bool
  | false, .int _ => true
  | false, .str _ => true
  | true, .tup xs => hsbL xs && Nat.ble (depL xs) 7
  | _, _ => false
def memK (k : D) : List D → Bool
  | [] => false
  | x :: r => eqD x k || memK k r
def ndK : List D → Bool
  | [] => true
  | x :: r => !memK x r && ndK r
def keysB (c : Bool) (ks : List D) : Bool := ks.all (kcB c) && ndK ks
/-- what a name holds: plain data, or the n-th cell of the shadow heap -/
inductive W where
  | d (x : D) | ref (n : Nat)
inductive Cell where
  | lst (xs : List W) | dct (c : Bool) (ks vs : List D) | dead
abbrev DH := List Cell
abbrev Env := List (Option W)

/-- a list that is never written any more -/
def SqF (H : Hp) (a : Addr) (xs : List V) : Prop := ∃ o, H a = some (.frz o (.lst xs))
theorem SqF.sql {K : PySem.W.Frag} {H : Hp} {a : Addr} {xs : List V} (h : SqF H a xs) : SqL K H a xs := by
  obtain ⟨o, h⟩ := h
  exact .inl (.inr ⟨o, h⟩)
/-- the script -/
def SqS (K : PySem.W.Frag) (H : Hp) (a : Addr) (xs : List V) : Prop :=
  (∃ o, H a = some (.frz o (.lst xs))) ∨
    ∃ (o : Obj) (its : Array Value) (n : Nat), K.lookup a = some o ∧ o.cls = .type "list" ∧ o.dict = none ∧ o.data = .seq its n ∧ its.size ≤ sizeLine ∧ Vals xs its.toList

/-- tuples and frozen things stay -/
structure Fx (H H' : Hp) : Prop where
  tup : ∀ b xs, H b = some (.tup xs) → H' b = some (.tup xs)
  frz : ∀ b o u, H b = some (.frz o u) → H' b = some (.frz o u)
theorem Fx.refl {H : Hp} : Fx H H := ⟨fun _ _ h => h, fun _ _ _ h => h⟩
theorem Fx.trans {H H1 H2 : Hp} (a : Fx H H1) (b : Fx H1 H2) : Fx H H2 := ⟨fun c xs q => b.tup c xs (a.tup c xs q), fun c o u q => b.frz c o u (a.frz c o u q)⟩
theorem Fx.of_same {H H' : Hp} (s : Same H H') : Fx H H' := ⟨fun _ _ => s _ _, fun _ _ _ => s _ _⟩
/-- .. and all that is tracked and is no cell -/
structure Ext (ι : List Addr) (H H' : Hp) : Prop where
  fx : Fx H H'
  oth : ∀ b o, b ∉ ι → H b = some o → H' b = some o
theorem Ext.refl {ι : List Addr} {H : Hp} : Ext ι H H := ⟨.refl, fun _ _ _ h => h⟩
theorem Ext.trans {ι ι' : List Addr} {H H1 H2 : Hp} (a : Ext ι H H1) (b : Ext ι' H1 H2) (h : ∀ c ∈ ι', c ∈ ι ∨ H c = none) : Ext ι H H2 :=
  ⟨a.fx.trans b.fx, fun c o n q => b.oth c o (fun z => by
    rcases h c z with z | z
    · exact n z
    · rw [z] at q; cases q) (a.oth c o n q)⟩
theorem Ext.of_same {ι : List Addr} {H H' : Hp} (s : Same H H') : Ext ι H H' := ⟨.of_same s, fun _ _ _ => s _ _⟩
theorem Ext.same {H H' : Hp} (e : Ext [] H H') : Same H H' := fun b o h => e.oth b o (by simp) h

/-- v is the data d -/
def okCp (s : List Nat) : Bool := s.all (· < 55296)

/-- what stands at a is a dict of these entries -/
def DctAt (a : Addr) (es : List DictEntry) : HO := .ext fun h =>
  ∃ o ea ep, h.get? a = some o ∧ o.ExactDict ∧ o.data = .dict ea ep ∧ ea.toList = es
/-- a dict that is never written any more -/
def DF (H : Hp) (a : Addr) (es : List DictEntry) : Prop := ∃ o, H a = some (.frz o (DctAt a es))
/-- the entries' keys and values -/
inductive Ents (w : World) : List DictEntry → List D → List V → List V → Prop
  | nil : Ents w [] [] [] []
  | cons {e : DictEntry} {es : List DictEntry} {k : D} {ks : List D} {ku vu : V} {kus vus : List V} : e.hash = (nk k).hash w → RelV ku e.key → RelV vu e.val → Ents w es ks kus vus → Ents w (e :: es) (k :: ks) (ku :: kus) (vu :: vus)

mutual
inductive Rep (K : KW) (H : Hp) : D → V → Prop
  | non : Rep K H .non .non
  | bl (b : Bool) : Rep K H (.bl b) (.bl b)
  | int (i : Int) : Rep K H (.int i) (.int i)
  | str (s : List Nat) : okCp s = true → Rep K H (.str s) (.str ⟨s.toArray⟩)
  | tup {a : Addr} {vs : List V} {ds : List D} : SqT K H a vs → RepL K H ds vs → Rep K H (.tup ds) (.ref a)
  | lst {a : Addr} {vs : List V} {ds : List D} : SqF H a vs → RepL K H ds vs → Rep K H (.lst ds) (.ref a)
  | scr {a : Addr} {ns : List Int} : SqS K H a (ns.map V.int) → Rep K H (.scr ns) (.ref a)
  | dct {a : Addr} {es : List DictEntry} {c : Bool} {ks vs : List D} {kus vus : List V} : DF H a es → (a == sysModules) = false → es.length ≤ sizeLine → keysB c ks = true → Ents K.w es ks kus vus → RepL K H ks kus → RepL K H vs vus → Rep K H (.dct c ks vs) (.ref a)
inductive RepL (K : KW) (H : Hp) : List D → List V → Prop
  | nil : RepL K H [] []
  | cons {v : V} {vs : List V} {d : D} {ds : List D} : Rep K H d v → RepL K H ds vs → RepL K H (d :: ds) (v :: vs)
end

section
variable {K : KW} {H H' : Hp} {ι ι' : List Addr}
theorem sqt_ext (e : Fx H H') {a : Addr} {vs : List V} (h : SqT K H a vs) : SqT K H' a vs := by
  rcases h with (h | ⟨o, h⟩) | h
  · exact .inl (.inl (e.tup _ _ h))
  · exact .inl (.inr ⟨o, e.frz _ _ _ h⟩)
  · exact .inr h
theorem sqf_ext (e : Fx H H') {a : Addr} {vs : List V} (h : SqF H a vs) : SqF H' a vs := by
  obtain ⟨o, h⟩ := h
  exact ⟨o, e.frz _ _ _ h⟩
theorem sqs_ext (e : Fx H H') {a : Addr} {vs : List V} (h : SqS K H a vs) : SqS K H' a vs := by
  rcases h with ⟨o, h⟩ | h
  · exact .inl ⟨o, e.frz _ _ _ h⟩
  · exact .inr h
theorem df_ext (e : Fx H H') {a : Addr} {es : List DictEntry} (h : DF H a es) : DF H' a es := by
  obtain ⟨o, h⟩ := h
  exact ⟨o, e.frz _ _ _ h⟩
mutual
theorem Rep.ext (e : Fx H H') : ∀ {d : D} {v : V}, Rep K H d v → Rep K H' d v
  | _, _, .non => .non
  | _, _, .bl b => .bl b
  | _, _, .int i => .int i
  | _, _, .str s h => .str s h
  | _, _, .tup h r => .tup (sqt_ext e h) (RepL.ext e r)
  | _, _, .lst h r => .lst (sqf_ext e h) (RepL.ext e r)
  | _, _, .scr h => .scr (sqs_ext e h)
  | _, _, .dct h h2 h3 h4 h5 h6 h7 => .dct (df_ext e h) h2 h3 h4 h5 (RepL.ext e h6) (RepL.ext e h7)
theorem RepL.ext (e : Fx H H') : ∀ {ds : List D} {vs : List V}, RepL K H ds vs → RepL K H' ds vs
  | _, _, .nil => .nil
  | _, _, .cons a b => .cons (Rep.ext e a) (RepL.ext e b)
end
theorem RepL.length : ∀ {ds : List D} {vs : List V}, RepL K H ds vs → ds.length = vs.length
  | _, _, .nil => rfl
  | _, _, .cons _ t => by simp [RepL.length t]
theorem RepL.get : ∀ {ds : List D} {vs : List V} {i : Nat} {d : D}, RepL K H ds vs → ds[i]? = some d → ∃ v, vs[i]? = some v ∧ Rep K H d v
  | _, _, _, _, .nil, e => by simp at e
  | _, _, 0, _, .cons r _, e => by simp at e; subst e; exact ⟨_, rfl, r⟩
  | _, _, i + 1, d, .cons _ t, e => by
    obtain ⟨v, h1, h2⟩ := RepL.get (i := i) t (by simpa using e)
    exact ⟨v, by simpa using h1, h2⟩
theorem RepL.append : ∀ {ds es : List D} {vs us : List V}, RepL K H ds vs → RepL K H es us → RepL K H (ds ++ es) (vs ++ us)
  | _, _, _, _, .nil, s => s
  | _, _, _, _, .cons r t, s => .cons r (RepL.append t s)
theorem RepL.take : ∀ {ds : List D} {vs : List V} (n : Nat), RepL K H ds vs → RepL K H (ds.take n) (vs.take n)
  | _, _, 0, _ => .nil
  | _, _, _ + 1, .nil => .nil
  | _, _, n + 1, .cons r t => .cons r (RepL.take n t)
theorem RepL.drop : ∀ {ds : List D} {vs : List V} (n : Nat), RepL K H ds vs → RepL K H (ds.drop n) (vs.drop n)
  | _, _, 0, r => r
  | _, _, _ + 1, .nil => .nil
  | _, _, n + 1, .cons _ t => RepL.drop n t
theorem RepL.set {d : D} {v : V} (r : Rep K H d v) : ∀ {ds : List D} {vs : List V} (n : Nat), RepL K H ds vs → RepL K H (ds.set n d) (vs.set n v)
  | _, _, _, .nil => .nil
  | _, _, 0, .cons _ t => .cons r t
  | _, _, n + 1, .cons q t => .cons q (RepL.set r n t)
theorem RepL.reverse : ∀ {ds : List D} {vs : List V}, RepL K H ds vs → RepL K H ds.reverse vs.reverse
  | _, _, .nil => .nil
  | _, _, .cons r t => by simp only [List.reverse_cons]; exact (RepL.reverse t).append (.cons r .nil)
theorem RepL.rep {ds : List D} {vs : List V} (r : RepL K H ds vs) : ∀ n : Nat, RepL K H (List.replicate n ds).flatten (List.replicate n vs).flatten
  | 0 => .nil
  | n + 1 => by simp only [List.replicate_succ, List.flatten_cons]; exact r.append (RepL.rep r n)
theorem RepL.erase : ∀ {ds : List D} {vs : List V} (n : Nat), RepL K H ds vs → RepL K H (ds.eraseIdx n) (vs.eraseIdx n)
  | _, _, _, .nil => .nil
  | _, _, 0, .cons _ t => t
  | _, _, n + 1, .cons q t => .cons q (RepL.erase n t)
theorem RepL.dropLast {ds : List D} {vs : List V} (r : RepL K H ds vs) : RepL K H ds.dropLast vs.dropLast := by
  rw [List.dropLast_eq_take, List.dropLast_eq_take, r.length]; exact r.take _
theorem RepL.ints : ∀ {ns : List Int} {vs : List V}, RepL K H (ns.map D.int) vs → vs = ns.map V.int
  | [], _, .nil => rfl
  | n :: ns, _, .cons (.int _) t => by rw [List.map_cons, RepL.ints t]
theorem RepL.of_ints : ∀ {ns : List Int}, RepL K H (ns.map D.int) (ns.map V.int)
  | [] => .nil
  | _ :: _ => .cons (.int _) RepL.of_ints
theorem RepL.bls : ∀ {ns : List Bool} {vs : List V}, RepL K H (ns.map D.bl) vs → vs = ns.map V.bl
  | [], _, .nil => rfl
  | n :: ns, _, .cons (.bl _) t => by rw [List.map_cons, RepL.bls t]
end

/-! ### the shadow heap -/
inductive RepW (K : KW) (ι : List Addr) (H : Hp) : W → V → Prop
  | d {x : D} {v : V} : Rep K H x v → RepW K ι H (.d x) v
  | ref {n : Nat} {a : Addr} : ι[n]? = some a → RepW K ι H (.ref n) (.ref a)
inductive RepWL (K : KW) (ι : List Addr) (H : Hp) : List W → List V → Prop
  | nil : RepWL K ι H [] []
  | cons {v : V} {vs : List V} {d : W} {ds : List W} : RepW K ι H d v → RepWL K ι H ds vs → RepWL K ι H (d :: ds) (v :: vs)
section
variable {K : KW} {H H' : Hp} {ι ι' : List Addr}
theorem RepW.ext {d : W} {v : V} (r : RepW K ι H d v) (p : ι <+: ι') (e : Fx H H') : RepW K ι' H' d v := by
  cases r with
  | d r => exact .d (r.ext e)
  | ref h => exact .ref (by obtain ⟨t, rfl⟩ := p; rw [List.getElem?_append_left (List.getElem?_eq_some_iff.mp h).1]; exact h)
theorem RepWL.ext : ∀ {ds : List W} {vs : List V}, RepWL K ι H ds vs → ι <+: ι' → Fx H H' → RepWL K ι' H' ds vs
  | _, _, .nil, _, _ => .nil
  | _, _, .cons a b, p, e => .cons (a.ext p e) (b.ext p e)
theorem RepWL.length : ∀ {ds : List W} {vs : List V}, RepWL K ι H ds vs → ds.length = vs.length
  | _, _, .nil => rfl
  | _, _, .cons _ t => by simp [RepWL.length t]
theorem RepWL.get : ∀ {ds : List W} {vs : List V} {i : Nat} {d : W}, RepWL K ι H ds vs → ds[i]? = some d → ∃ v, vs[i]? = some v ∧ RepW K ι H d v
  | _, _, _, _, .nil, e => by simp at e
  | _, _, 0, _, .cons r _, e => by simp at e; subst e; exact ⟨_, rfl, r⟩
  | _, _, i + 1, d, .cons _ t, e => by
    obtain ⟨v, h1, h2⟩ := RepWL.get (i := i) t (by simpa using e)
    exact ⟨v, by simpa using h1, h2⟩
theorem RepWL.append : ∀ {ds es : List W} {vs us : List V}, RepWL K ι H ds vs → RepWL K ι H es us → RepWL K ι H (ds ++ es) (vs ++ us)
  | _, _, _, _, .nil, s => s
  | _, _, _, _, .cons r t, s => .cons r (RepWL.append t s)
theorem RepWL.set {d : W} {v : V} (r : RepW K ι H d v) : ∀ {ds : List W} {vs : List V} (n : Nat), RepWL K ι H ds vs → RepWL K ι H (ds.set n d) (vs.set n v)
  | _, _, _, .nil => .nil
  | _, _, 0, .cons _ t => .cons r t
  | _, _, n + 1, .cons q t => .cons q (RepWL.set r n t)
theorem RepWL.erase : ∀ {ds : List W} {vs : List V} (n : Nat), RepWL K ι H ds vs → RepWL K ι H (ds.eraseIdx n) (vs.eraseIdx n)
  | _, _, _, .nil => .nil
  | _, _, 0, .cons _ t => t
  | _, _, n + 1, .cons q t => .cons q (RepWL.erase n t)
theorem RepWL.take : ∀ {ds : List W} {vs : List V} (n : Nat), RepWL K ι H ds vs → RepWL K ι H (ds.take n) (vs.take n)
  | _, _, 0, _ => .nil
  | _, _, _ + 1, .nil => .nil
  | _, _, n + 1, .cons r t => .cons r (RepWL.take n t)
theorem RepWL.dropLast {ds : List W} {vs : List V} (r : RepWL K ι H ds vs) : RepWL K ι H ds.dropLast vs.dropLast := by
  rw [List.dropLast_eq_take, List.dropLast_eq_take, r.length]; exact r.take _
theorem RepWL.rep {ds : List W} {vs : List V} (r : RepWL K ι H ds vs) : ∀ n : Nat, RepWL K ι H (List.replicate n ds).flatten (List.replicate n vs).flatten
  | 0 => .nil
  | n + 1 => by simp only [List.replicate_succ, List.flatten_cons]; exact r.append (RepWL.rep r n)
theorem RepWL.of : ∀ {ds : List D} {vs : List V}, RepL K H ds vs → RepWL K ι H (ds.map W.d) vs
  | _, _, .nil => .nil
  | _, _, .cons a b => .cons (.d a) (RepWL.of b)
/-- plain data alone -/
def pureL : List W → Option (List D)
  | [] => some []
  | .d x :: r => (pureL r).map (x :: ·)
  | .ref _ :: _ => none
@[simp] theorem pureL_map : ∀ ds : List D, pureL (ds.map W.d) = some ds
  | [] => rfl
  | d :: ds => by simp [pureL, pureL_map ds]
theorem RepWL.pure : ∀ {ws : List W} {vs : List V} {ds : List D}, RepWL K ι H ws vs → pureL ws = some ds → RepL K H ds vs
  | _, _, _, .nil, e => by simp [pureL] at e; subst e; exact .nil
  | _, _, ds, .cons (.d a) t, e => by
    simp only [pureL, Option.map_eq_some_iff] at e
    obtain ⟨r, h, rfl⟩ := e
    exact .cons a (RepWL.pure t h)
  | _, _, _, .cons (.ref a) t, e => by simp [pureL] at e
end
end Sh

namespace Sh
open PySem PySem.Spec PyProof.Rows L2

/-- the cell c stands at a -/
def CellOk (K : KW) (ι : List Addr) (H : Hp) (a : Addr) : Cell → Prop
  | .lst ws => ∃ vs, H a = some (.lst vs) ∧ RepWL K ι H ws vs
  | .dct c ks us => ∃ es kus vus, H a = some (DctAt a es) ∧ (a == sysModules) = false ∧ es.length ≤ sizeLine ∧ keysB c ks = true ∧ Ents K.w es ks kus vus ∧ RepL K H ks kus ∧ RepL K H us vus
  | .dead => True
/-- the shadow heap h stands in H, its cells at ι -/
structure SR (K : KW) (ι : List Addr) (H : Hp) (h : DH) : Prop where
  len : ι.length = h.length
  nd : ι.Nodup
  trk : ∀ a ∈ ι, H a ≠ none
  cell : ∀ (n : Nat) (c : Cell) (a : Addr), h[n]? = some c → ι[n]? = some a → CellOk K ι H a c
/-- the names -/
structure EnvOk (K : KW) (ι : List Addr) (H : Hp) (env : Env) (σ : L2.St) : Prop where
  len : env.length = σ.length
  val : ∀ (i : Nat) (w : W), env[i]? = some (some w) → ∃ v, σ[i]? = some (some v) ∧ RepW K ι H w v

section
variable {K : KW} {H H' : Hp} {ι ι' : List Addr} {h h' : DH} {env : Env} {σ : L2.St}
theorem nodup_get_ne {l : List Addr} (nd : l.Nodup) {m n : Nat} {a b : Addr} (hm : l[m]? = some a) (hn : l[n]? = some b) (h : m ≠ n) : a ≠ b := fun e => h (by
  subst e
  obtain ⟨h1, e1⟩ := List.getElem?_eq_some_iff.mp hm
  obtain ⟨h2, e2⟩ := List.getElem?_eq_some_iff.mp hn
  exact (List.getElem_inj nd).mp (e1.trans e2.symm))
theorem CellOk.ext {a : Addr} {c : Cell} (x : CellOk K ι H a c) (p : ι <+: ι') (e : Fx H H') (ha : ∀ o, H a = some o → H' a = some o) : CellOk K ι' H' a c := by
  cases c with
  | lst ws => obtain ⟨vs, q, r⟩ := x; exact ⟨vs, ha _ q, r.ext p e⟩
  | dct c ks vs => obtain ⟨es, kus, vus, q, q2, q3, q4, q5, q6, q7⟩ := x; exact ⟨es, kus, vus, ha _ q, q2, q3, q4, q5, q6.ext e, q7.ext e⟩
  | dead => trivial
/-- all that is tracked stays -/
theorem SR.same (s : SR K ι H h) (e : Same H H') : SR K ι H' h :=
  ⟨s.len, s.nd, fun a ha => by
    cases q : H a with
    | none => exact absurd q (s.trk a ha)
    | some o => rw [e a o q]; simp, fun n c a h1 h2 => (s.cell n c a h1 h2).ext (List.prefix_refl _) (Fx.of_same e) (e a)⟩
theorem EnvOk.ext (s : EnvOk K ι H env σ) (p : ι <+: ι') (e : Fx H H') : EnvOk K ι' H' env σ :=
  ⟨s.len, fun i w hi => by obtain ⟨v, h1, h2⟩ := s.val i w hi; exact ⟨v, h1, h2.ext p e⟩⟩
theorem same_upd {p : Addr} {o : HO} (hp : H p = none) : Same H (upd H p o) := fun b u e => by rw [upd_ne (ne_of_none e hp)]; exact e
/-- a new cell -/
theorem SR.alloc (s : SR K ι H h) {p : Addr} {o : HO} {c : Cell} (hp : H p = none) (hc : CellOk K (ι ++ [p]) (upd H p o) p c) : SR K (ι ++ [p]) (upd H p o) (h ++ [c]) := by
  have sm := same_upd (o := o) hp
  refine ⟨by simp [s.len], List.nodup_append.mpr ⟨s.nd, by simp, fun a ha b hb e => ?_⟩, fun a ha => ?_, fun n d a h1 h2 => ?_⟩
  · simp at hb; subst hb e; exact s.trk _ ha hp
  · rcases List.mem_append.mp ha with ha | ha
    · cases q : H a with
      | none => exact absurd q (s.trk a ha)
      | some u => rw [sm a u q]; simp
    · simp at ha; subst ha; rw [upd_same]; simp
  · by_cases hn : n < h.length
    · rw [List.getElem?_append_left hn] at h1
      rw [List.getElem?_append_left (by rw [s.len]; exact hn)] at h2
      exact (s.cell n d a h1 h2).ext (List.prefix_append _ _) (Fx.of_same sm) (sm a)
    · have hn' : n = h.length := by
        have := (List.getElem?_eq_some_iff.mp h1).1
        simp at this; omega
      subst hn'
      rw [List.getElem?_append_right (Nat.le_refl _), Nat.sub_self] at h1
      rw [List.getElem?_append_right (by rw [s.len]; exact Nat.le_refl _), s.len, Nat.sub_self] at h2
      simp at h1 h2
      subst h1 h2
      exact hc
/-- the n-th cell is written -/
theorem SR.write (s : SR K ι H h) {n : Nat} {a : Addr} {o : HO} {c : Cell} (ha : ι[n]? = some a) (hc : CellOk K ι (upd H a o) a c) (hx : Fx H (upd H a o)) : SR K ι (upd H a o) (h.set n c) := by
  refine ⟨by simp [s.len], s.nd, fun b hb => ?_, fun m d b h1 h2 => ?_⟩
  · by_cases hab : b = a
    · subst hab; rw [upd_same]; simp
    · rw [upd_ne hab]; exact s.trk b hb
  · by_cases hm : m = n
    · subst hm
      rw [ha] at h2; cases h2
      have hlt : m < h.length := by rw [← s.len]; exact (List.getElem?_eq_some_iff.mp ha).1
      rw [List.getElem?_set_self hlt] at h1
      cases h1; exact hc
    · rw [List.getElem?_set_ne (Ne.symm hm)] at h1
      have hne : b ≠ a := nodup_get_ne s.nd h2 ha hm
      exact (s.cell m d b h1 h2).ext (List.prefix_refl _) hx fun o q => by rw [upd_ne hne]; exact q
theorem fx_write {a : Addr} {o u : HO} (hu : H a = some u) (n1 : ∀ xs, u ≠ .tup xs) (n2 : ∀ o w, u ≠ .frz o w) : Fx H (upd H a o) :=
  ⟨fun b xs q => by rw [upd_ne (fun z => by subst z; rw [hu] at q; cases q; exact n1 _ rfl)]; exact q,
   fun b x y q => by rw [upd_ne (fun z => by subst z; rw [hu] at q; cases q; exact n2 _ _ rfl)]; exact q⟩
/-- writing a cell is within Ext -/
theorem ext_write {a : Addr} {o u : HO} (ha : a ∈ ι) (hu : H a = some u) (n1 : ∀ xs, u ≠ .tup xs) (n2 : ∀ o w, u ≠ .frz o w) : Ext ι H (upd H a o) :=
  ⟨fx_write hu n1 n2, fun b x n q => by rw [upd_ne (fun z => by subst z; exact n ha)]; exact q⟩
/-- a thing that stands and is no cell becomes one -/
theorem SR.take (s : SR K ι H h) {p : Addr} {c : Cell} (hn : p ∉ ι) (ht : H p ≠ none) (hc : CellOk K (ι ++ [p]) H p c) : SR K (ι ++ [p]) H (h ++ [c]) := by
  refine ⟨by simp [s.len], List.nodup_append.mpr ⟨s.nd, by simp, fun a ha b hb e => ?_⟩, fun a ha => ?_, fun n d a h1 h2 => ?_⟩
  · simp at hb; subst hb e; exact hn ha
  · rcases List.mem_append.mp ha with ha | ha
    · exact s.trk a ha
    · simp at ha; subst ha; exact ht
  · by_cases hn : n < h.length
    · rw [List.getElem?_append_left hn] at h1
      rw [List.getElem?_append_left (by rw [s.len]; exact hn)] at h2
      exact (s.cell n d a h1 h2).ext (List.prefix_append _ _) .refl (fun _ q => q)
    · have hn' : n = h.length := by
        have := (List.getElem?_eq_some_iff.mp h1).1
        simp at this; omega
      subst hn'
      rw [List.getElem?_append_right (Nat.le_refl _), Nat.sub_self] at h1
      rw [List.getElem?_append_right (by rw [s.len]; exact Nat.le_refl _), s.len, Nat.sub_self] at h2
      simp at h1 h2
      subst h1 h2
      exact hc
/-- what is no cell is written -/
theorem SR.off (s : SR K ι H h) {p : Addr} {o u : HO} (hn : p ∉ ι) (hu : H p = some u) (n1 : ∀ xs, u ≠ .tup xs) (n2 : ∀ o w, u ≠ .frz o w) : SR K ι (upd H p o) h :=
  ⟨s.len, s.nd, fun a ha => by
    rw [upd_ne (show a ≠ p from fun z => hn (by rw [← z]; exact ha))]; exact s.trk a ha, fun n c a h1 h2 => (s.cell n c a h1 h2).ext (List.prefix_refl _) (fx_write hu n1 n2) fun x q => by
      rw [upd_ne (show a ≠ p from fun z => hn (by rw [← z]; exact List.mem_of_getElem? h2))]; exact q⟩

/-- the cells grow, by what was not there; the rest stays -/
structure Stp (ι : List Addr) (H : Hp) (ι' : List Addr) (H' : Hp) : Prop where
  pre : ι <+: ι'
  ext : Ext ι H H'
  new : ∀ a ∈ ι', a ∈ ι ∨ H a = none
theorem Stp.refl : Stp ι H ι H := ⟨List.prefix_refl _, .refl, fun _ h => .inl h⟩
theorem Stp.trans {ι2 : List Addr} {H2 : Hp} (a : Stp ι H ι' H') (b : Stp ι' H' ι2 H2) : Stp ι H ι2 H2 :=
  ⟨a.pre.trans b.pre, a.ext.trans b.ext a.new, fun c hc => by
    rcases b.new c hc with z | z
    · exact a.new c z
    · by_cases hi : c ∈ ι
      · exact .inl hi
      · cases q : H c with
        | none => exact .inr rfl
        | some o => rw [a.ext.oth c o hi q] at z; cases z⟩
theorem Stp.same (e : Same H H') : Stp ι H ι H' := ⟨List.prefix_refl _, .of_same e, fun _ h => .inl h⟩
theorem Stp.fx (a : Stp ι H ι' H') : Fx H H' := a.ext.fx
theorem RepW.stp {d : W} {v : V} (r : RepW K ι H d v) (a : Stp ι H ι' H') : RepW K ι' H' d v := r.ext a.pre a.fx
theorem RepWL.stp {d : List W} {v : List V} (r : RepWL K ι H d v) (a : Stp ι H ι' H') : RepWL K ι' H' d v := r.ext a.pre a.fx
theorem EnvOk.stp (s : EnvOk K ι H env σ) (a : Stp ι H ι' H') : EnvOk K ι' H' env σ := s.ext a.pre a.fx
/-- what is wanted behind an expression's value -/
def Post (K : KW) (ι : List Addr) (H : Hp) (w : W) (h' : DH) (Q : VK) : Prop :=
  ∀ ι' H' v, Stp ι H ι' H' → SR K ι' H' h' → RepW K ι' H' w v → Q v H'
theorem Post.stp {w : W} {Q : VK} (p : Post K ι H w h Q) (a : Stp ι H ι' H') : Post K ι' H' w h Q := fun ι2 H2 v b => p ι2 H2 v (a.trans b)
theorem Post.now {w : W} {Q : VK} {v : V} (p : Post K ι H w h Q) (s : SR K ι H h) (r : RepW K ι H w v) : Q v H := p ι H v .refl s r
theorem Post.fresh {w : W} {Q : VK} {p : Addr} {o : HO} (q : Post K ι H w h Q) (s : SR K ι H h) (hp : H p = none) {v : V} (r : RepW K ι (upd H p o) w v) : Q v (upd H p o) :=
  q ι _ v (.same (same_upd hp)) (s.same (same_upd hp)) r
theorem Post.tup {ds : List D} {vs : List V} {Q : VK} {p : Addr} (q : Post K ι H (.d (.tup ds)) h Q) (s : SR K ι H h) (hp : H p = none) (r : RepL K H ds vs) : Q (.ref p) (upd H p (.tup vs)) :=
  q.fresh s hp (.d (.tup (.inl (.inl upd_same)) (r.ext (.of_same (same_upd hp)))))
/-- what is wanted behind a list's making: it stands at p, not yet a cell, not frozen -/
def PostC (K : KW) (ι : List Addr) (H : Hp) (ws : List W) (h' : DH) (Q : VK) : Prop :=
  ∀ ι' H' p vs, Stp ι H ι' H' → SR K ι' H' h' → H' p = some (.lst vs) → p ∉ ι' → H p = none → RepWL K ι' H' ws vs → Q (.ref p) H'
theorem PostC.stp {ws : List W} {Q : VK} (p : PostC K ι H ws h Q) (a : Stp ι H ι' H') : PostC K ι' H' ws h Q := fun ι2 H2 q vs b s hp hn hq r =>
  p ι2 H2 q vs (a.trans b) s hp hn (by
    cases e : H q with
    | none => rfl
    | some o =>
      by_cases hi : q ∈ ι
      · exact absurd (b.pre.subset (a.pre.subset hi)) hn
      · rw [a.ext.oth q o hi e] at hq; cases hq) r
theorem SR.notin (s : SR K ι H h) {p : Addr} (hp : H p = none) : p ∉ ι := fun z => s.trk p z hp
theorem PostC.fresh {ws : List W} {Q : VK} {p : Addr} {vs : List V} (q : PostC K ι H ws h Q) (s : SR K ι H h) (hp : H p = none) (r : RepWL K ι H ws vs) : Q (.ref p) (upd H p (.lst vs)) :=
  q ι _ p vs (.same (same_upd hp)) (s.same (same_upd hp)) upd_same (s.notin hp) hp (r.ext (List.prefix_refl _) (.of_same (same_upd hp)))
end

/-! ### a list is frozen -/
theorem Inv.freeze {X : Cx} {pins : List (Addr × Obj)} {σ : L2.St} {H : Hp} {s : Shared} {p : Addr} {u : HO} (I : Inv X pins σ H s) (hp : H p = some u) (n1 : ∀ xs, u ≠ .tup xs) (n2 : ∀ o w, u ≠ .frz o w) (n3 : ∀ x, u ≠ .own x) (n4 : ∀ ps, u ≠ .tbl ps) (ex : ∃ o, s.heap.get? p = some o) :
    ∃ o, Inv X pins σ (upd H p (.frz o u)) s := by
  have ok : ObjOk X.prog X.w H s.heap p u := I.hok p u hp
  obtain ⟨o, ho⟩ := ex
  have nb : ∀ {b v}, H b = some v → v ≠ u → b ≠ p := fun {b v} q ne z => by subst z; rw [hp] at q; cases q; exact ne rfl
  refine ⟨o, ?_⟩
  have un : Un X.fs [] H (upd H p (.frz o u)) s.heap s.heap := by
    refine ⟨fun b ob q _ _ _ => q, fun b ob q _ _ _ => ⟨ob.slots, q⟩, fun b ob q n _ => ?_, fun b ob q _ => ⟨ob, q⟩, fun b xs q => ?_, fun b ob w q => ?_, fun b ps q => ⟨#[], ?_⟩⟩
    · rw [upd_ne (fun z => by subst z; rw [hp] at n; cases n)]; exact n
    · rw [upd_ne (nb q (Ne.symm (n1 xs)))]; exact q
    · rw [upd_ne (nb q (Ne.symm (n2 ob w)))]; exact q
    · rw [upd_ne (nb q (Ne.symm (n4 ps))), q]; simp
  have hok : HOk X.prog X.w (upd H p (.frz o u)) s.heap := fun b v q => by
    have ho' : ∀ b c, H b = some (.own c) → upd H p (.frz o u) b = some (.own c) := fun b c q => by rw [upd_ne (nb q (Ne.symm (n3 c)))]; exact q
    have ht' : ∀ b xs, H b = some (.tup xs) → upd H p (.frz o u) b = some (.tup xs) := fun b xs q => by rw [upd_ne (nb q (Ne.symm (n1 xs)))]; exact q
    by_cases hb : b = p
    · subst hb
      rw [upd_same] at q; cases q
      exact ⟨ho, ok.stay (fun _ _ _ z => z) (fun c q => ho' c b q) ht'⟩
    · rw [upd_ne hb] at q
      exact (I.hok b v q).stay (fun _ _ _ z => z) (fun c q => ho' c b q) ht'
  exact I.un (h' := s.heap) (t' := s.toks) un hok
end Sh

/-! a small language of plain data, and its evaluator -/
namespace Sh
open PySem PySem.Spec PyProof.Rows L2

mutual
def py : D → PyData
  | .non => .none
  | .bl b => .bool b
  | .int i => .int i
  | .str s => .str ⟨s.toArray⟩
  | .tup xs => .tuple (pyL xs)
  | .lst xs => .list (pyL xs)
  | .dct .. => .none
  | .scr _ => .none
def pyL : List D → List PyData
  | [] => []
  | x :: r => py x :: pyL r
end
mutual
/-- no dict inside -/
def flat : D → Bool
  | .tup xs => flatL xs
  | .lst xs => flatL xs
  | .dct .. => false
  | .scr _ => false
  | _ => true
def flatL : List D → Bool
  | [] => true
  | x :: r => flat x && flatL r
end
/-- can be compared by == -/
def shp (x : D) : Bool := flat x && decide (dep x ≤ 64)
/-- can be compared by <, place by place -/
def alk (x y : D) : Bool := PySem.W.alike (py x) (py y)
def ltD (x y : D) : Bool := PySem.W.dataLt (py x) (py y)

inductive Bop where
  | add | sub | mul | fdiv | mod | pow
  | eq | ne | lt | le | gt | ge | is | isnot | mem | nmem
  deriving DecidableEq
def line : Nat := 16777216
/-- bounds, told so that nothing of a great number is unfolded -/
def loI (k : Nat) (i : Int) : Bool := Nat.ble (-i).toNat k
def hiI (i : Int) (k : Nat) : Bool := Nat.blt i.toNat k
theorem loI_iff {k : Nat} {i : Int} : loI k i = true ↔ -(k : Int) ≤ i := by unfold loI; rw [Nat.ble_eq]; omega
theorem hiI_iff {k : Nat} {i : Int} (h : 0 < k) : hiI i k = true ↔ i < (k : Int) := by unfold hiI; rw [Nat.blt_eq]; omega
def lo62 (i : Int) : Bool := loI 4611686018427387904 i
def hi62 (i : Int) : Bool := hiI i 4611686018427387904
def lo63 (i : Int) : Bool := loI 9223372036854775808 i
def hi63 (i : Int) : Bool := hiI i 9223372036854775808
def hi30 (i : Int) : Bool := hiI i 1073741824
def hiP (i : Int) : Bool := hiI i 1000001
def hi24 (i : Int) : Bool := hiI i 16777217
def b64 (i : Int) : Bool := loI 18446744073709551615 i && hiI i 18446744073709551616
theorem lo62_iff {i : Int} : lo62 i = true ↔ -(2 ^ 62) ≤ i := by unfold lo62; rw [loI_iff]; omega
theorem hi62_iff {i : Int} : hi62 i = true ↔ i < 2 ^ 62 := by unfold hi62; rw [hiI_iff (by decide)]; omega
theorem lo63_iff {i : Int} : lo63 i = true ↔ -(2 ^ 63) ≤ i := by unfold lo63; rw [loI_iff]; omega
theorem hi63_iff {i : Int} : hi63 i = true ↔ i < 2 ^ 63 := by unfold hi63; rw [hiI_iff (by decide)]; omega
theorem hi30_iff {i : Int} : hi30 i = true ↔ i < 1073741824 := by unfold hi30; rw [hiI_iff (by decide)]; omega
theorem hiP_iff {i : Int} : hiP i = true ↔ i ≤ 1000000 := by unfold hiP; rw [hiI_iff (by decide)]; omega
theorem hi24_iff {i : Int} : hi24 i = true ↔ i ≤ 16777216 := by unfold hi24; rw [hiI_iff (by decide)]; omega
theorem b64_iff {i : Int} : b64 i = true ↔ -(2 ^ 64) < i ∧ i < 2 ^ 64 := by unfold b64; rw [Bool.and_eq_true, loI_iff, hiI_iff (by decide)]; omega
/-- one string in another -/
def inS (x y : List Nat) : Bool := !(Builtin.Str.occurrences ⟨y.toArray⟩ ⟨x.toArray⟩ 0 y.length 1).isEmpty
/-- what stands at a key -/
def lkK : List D → List D → D → Option D
  | k :: ks, v :: vs, x => if eqD k x = true then some v else lkK ks vs x
  | _, _, _ => none
def putV : List D → List D → D → D → List D
  | k :: ks, v :: vs, x, y => if eqD k x = true then y :: vs else v :: putV ks vs x y
  | _, vs, _, _ => vs
/-- d[x] = y -/
def putD (ks vs : List D) (x y : D) : List D × List D := if memK x ks = true then (ks, putV ks vs x y) else (ks ++ [x], vs ++ [y])
def putAll : List D → List D → List D → List D → List D × List D
  | ks, vs, x :: xs, y :: ys => putAll (putD ks vs x y).1 (putD ks vs x y).2 xs ys
  | ks, vs, _, _ => (ks, vs)
/-- pairs of keys and values -/
def pairsD : List D → Option (List D × List D)
  | [] => some ([], [])
  | .tup [k, v] :: r => (pairsD r).map fun p => (k :: p.1, v :: p.2)
  | _ => none
/-- unlike ones, in their order -/
def dedK : List D → List D → List D
  | acc, [] => acc
  | acc, x :: r => if memK x acc = true then dedK acc r else dedK (acc ++ [x]) r
def cmpOk (x y : D) : Bool := alk x y && shp x && shp y && (match x with | .non => false | _ => true)
def isNon : D → Bool
  | .non => true
  | _ => false
def binD : Bop → D → D → Option D
  | .add, .int i, .int j => some (.int (i + j))
  | .add, .str x, .str y => if x.length + y.length ≤ line then some (.str (x ++ y)) else none
  | .add, .tup x, .tup y => if x.length + y.length ≤ line then some (.tup (x ++ y)) else none
  | .add, .lst x, .lst y => if x.length + y.length ≤ line then some (.lst (x ++ y)) else none
  | .sub, .int i, .int j => some (.int (i - j))
  | .mul, .int i, .int j => if b64 i || b64 j then some (.int (i * j)) else none
  | .mul, .str x, .int k => if lo63 k && hi63 k && decide (x.length * k.toNat ≤ line) then some (.str (List.replicate k.toNat x).flatten) else none
  | .mul, .tup x, .int k => if lo63 k && hi63 k && decide (x.length * k.toNat ≤ line) then some (.tup (List.replicate k.toNat x).flatten) else none
  | .fdiv, .int i, .int j => if decide (0 < j) && hi63 j then some (.int (i / j)) else none
  | .mod, .int i, .int j => if 0 < j then some (.int (i % j)) else none
  | .pow, .int i, .int j => if decide (0 ≤ j) && hiP j && b64 i then some (.int (i ^ j.toNat)) else none
  | .eq, x, y => if shp x && shp y then some (.bl (eqD x y)) else none
  | .ne, x, y => if shp x && shp y then some (.bl (!eqD x y)) else none
  | .lt, x, y => if cmpOk x y then some (.bl (ltD x y)) else none
  | .gt, x, y => if cmpOk x y then some (.bl (ltD y x)) else none
  | .le, x, y => if cmpOk x y then some (.bl (!ltD y x)) else none
  | .ge, x, y => if cmpOk x y then some (.bl (!ltD x y)) else none
  | .is, .bl x, .bl y => some (.bl (decide (x = y)))
  | .isnot, .bl x, .bl y => some (.bl (!decide (x = y)))
  | .is, x, .non => some (.bl (isNon x))
  | .isnot, x, .non => some (.bl (!isNon x))
  | .mem, .str x, .str y => some (.bl (inS x y))
  | .nmem, .str x, .str y => some (.bl (!inS x y))
  | .mem, x, .tup ys => if shp x && shp (.tup ys) then some (.bl (ys.any fun y => eqD y x)) else none
  | .nmem, x, .tup ys => if shp x && shp (.tup ys) then some (.bl (!ys.any fun y => eqD y x)) else none
  | .mem, x, .lst ys => if shp x && shp (.lst ys) then some (.bl (ys.any fun y => eqD y x)) else none
  | .nmem, x, .lst ys => if shp x && shp (.lst ys) then some (.bl (!ys.any fun y => eqD y x)) else none
  | .mem, x, .dct c ks _ => if kcB c x then some (.bl (memK x ks)) else none
  | .nmem, x, .dct c ks _ => if kcB c x then some (.bl (!memK x ks)) else none
  | _, _, _ => none

/-- x[i] -/
def ixD : D → D → Option D
  | .lst xs, .int i => atI xs i
  | .tup xs, .int i => atI xs i
  | .str xs, .int i => if xs.length ≤ line then (atI xs i).map fun c => .str [c] else none
  | .dct c ks vs, k => if kcB c k then lkK ks vs k else none
  | _, _ => none
def cutL {α : Type} (xs : List α) (lo hi : Option Int) : List α := (xs.drop (HT.sIx xs.length 0 lo)).take (HT.sIx xs.length xs.length hi - HT.sIx xs.length 0 lo)
/-- x[lo:hi] -/
def slD : D → Option Int → Option Int → Option D
  | .lst xs, lo, hi => some (.lst (cutL xs lo hi))
  | .tup xs, lo, hi => some (.tup (cutL xs lo hi))
  | .str xs, lo, hi => if xs.length ≤ line then some (.str (cutL xs lo hi)) else none
  | _, _, _ => none
def revD : D → Option D
  | .lst xs => some (.lst xs.reverse)
  | .tup xs => some (.tup xs.reverse)
  | _ => none
/-- what a for walks -/
def itemsD : D → Option (List D)
  | .lst xs => some xs
  | .tup xs => some xs
  | .str cs => if cs.length ≤ line then some (cs.map fun c => .str [c]) else none
  | .dct _ ks _ => some ks
  | _ => none
/-- what enumerate and zip walk -/
def seqD : D → Option (List D)
  | .lst xs => some xs
  | .tup xs => some xs
  | .str cs => if cs.length ≤ line then some (cs.map fun c => .str [c]) else none
  | _ => none
/-- insertion: x ahead of the first that is not less -/
def insD (x : D) : List D → List D
  | [] => [x]
  | y :: ys => if ltD y x = true then y :: insD x ys else x :: y :: ys
def isortD : List D → List D
  | [] => []
  | x :: r => insD x (isortD r)
def tupNE : D → Bool
  | .tup (_ :: _) => true
  | _ => false
def notTN : D → Bool
  | .tup _ => false
  | .non => false
  | _ => true
def alkAll (xs : List D) : Bool := xs.all fun x => xs.all fun y => alk x y
def srtOk (xs : List D) : Bool := alkAll xs && xs.all shp && (xs.all tupNE || xs.all notTN) && decide (xs.length ≤ line)
def minL (x : D) (xs : List D) : D := xs.foldl (fun a y => if ltD y a = true then y else a) x
def maxL (x : D) (xs : List D) : D := xs.foldl (fun a y => if ltD a y = true then y else a) x
def mmOk (xs : List D) : Bool := alkAll xs && xs.all shp && (xs.all fun x => match x with | .non => false | _ => true)
/-- the texts of a list -/
def strsD : List D → Option (List (List Nat))
  | [] => some []
  | .str b :: r => (strsD r).map (b :: ·)
  | _ => none
/-- the place of the first that is alike -/
def fndD (x : D) : List D → Nat → Option Nat
  | [], _ => none
  | y :: r, i => if eqD y x = true then some i else fndD x r (i + 1)
def joinS (s : List Nat) : List (List Nat) → List Nat
  | [] => []
  | [x] => x
  | x :: r => x ++ s ++ joinS s r
inductive Ty where
  | int | bool | str | tuple | list
  deriving DecidableEq
def isD : D → Ty → Bool
  | .int _, .int => true
  | .bl _, .int => true
  | .bl _, .bool => true
  | .str _, .str => true
  | .tup _, .tuple => true
  | .lst _, .list => true
  | _, _ => false
def dTy : D → Option String
  | .non => some "NoneType" | .bl _ => some "bool" | .int _ => some "int" | .str _ => some "str" | .tup _ => some "tuple" | .lst _ => some "list"
  | .dct .. => none | .scr _ => none
inductive Bif where
  | len | abs | int1 | tuple | all | any | sum | min2 | max2 | gcd | str1 | sorted
  deriving DecidableEq
def blsD : List D → Option (List Bool)
  | [] => some []
  | .bl b :: r => (blsD r).map (b :: ·)
  | _ => none
def intsD : List D → Option (List Int)
  | [] => some []
  | .int b :: r => (intsD r).map (b :: ·)
  | _ => none
def bifD : Bif → List D → Option D
  | .len, [.lst xs] => some (.int xs.length)
  | .len, [.tup xs] => some (.int xs.length)
  | .len, [.str xs] => if xs.length ≤ line then some (.int xs.length) else none
  | .abs, [.int i] => some (.int (if i < 0 then -i else i))
  | .int1, [.int i] => some (.int i)
  | .int1, [.bl b] => some (.int (if b then 1 else 0))
  | .tuple, [.tup xs] => some (.tup xs)
  | .tuple, [.lst xs] => some (.tup xs)
  | .all, [.lst xs] => (blsD xs).map fun bs => .bl (bs.all id)
  | .any, [.lst xs] => (blsD xs).map fun bs => .bl (bs.any id)
  | .sum, [.lst xs] => (intsD xs).map fun ns => .int ns.sum
  | .min2, [.int i, .int j] => some (.int (if j < i then j else i))
  | .max2, [.int i, .int j] => some (.int (if j > i then j else i))
  | .str1, [.str s] => some (.str s)
  | .gcd, [.int i, .int j] => some (.int ((Nat.gcd i.natAbs j.natAbs : Nat) : Int))
  | .len, [.dct _ ks _] => some (.int ks.length)
  | .sorted, [.lst xs] => if srtOk xs then some (.lst (isortD xs)) else none
  | .sorted, [.tup xs] => if srtOk xs then some (.lst (isortD xs)) else none
  | .sorted, [.dct _ xs _] => if srtOk xs then some (.lst (isortD xs)) else none
  | .min2, [.lst (x :: xs)] => if mmOk (x :: xs) then some (minL x xs) else none
  | .max2, [.lst (x :: xs)] => if mmOk (x :: xs) then some (maxL x xs) else none
  | _, _ => none

inductive Pat where
  | nm (i : Nat)
  | tup (ps : List Nat)
  | two (i : Nat) (ps : List Nat)

/-- what a cell in the shadow heap, or plain data, is as plain data -/
def valD (h : DH) : W → Option D
  | .d x => some x
  | .ref n => match h[n]? with
    | some (.lst ws) => (pureL ws).map D.lst
    | some (.dct c ks vs) => some (.dct c ks vs)
    | _ => none
def zeroW : W → W
  | .ref _ => .ref 0
  | w => w
/-- the one cell among arguments -/
def cellArg : List W → Option Nat
  | [] => none
  | .ref n :: r => if (pureL r).isSome then some n else none
  | .d _ :: r => cellArg r
def valsD (h : DH) : List W → Option (List D)
  | [] => some []
  | w :: r => do let x ← valD h w; let xs ← valsD h r; some (x :: xs)
/-- x[i] -/
def ixW (h : DH) : W → W → Option W
  | .d x, .d y => (ixD x y).map W.d
  | .ref n, .d k => match h[n]? with
    | some (.lst ws) => match k with
      | .int i => atI ws i
      | _ => none
    | some (.dct c ks vs) => (ixD (.dct c ks vs) k).map W.d
    | _ => none
  | _, _ => none
def wipeE (env : Env) : List Nat → Env
  | [] => env
  | v :: vs => (wipeE env vs).set v none
def bindL : List Nat → List D → Env → Option Env
  | [], [], env => some env
  | i :: is, x :: xs, env => bindL is xs (env.set i (some (.d x)))
  | _, _, _ => none
def Pat.bind : Pat → D → Env → Option Env
  | .nm i, x, env => some (env.set i (some (.d x)))
  | .tup is, .tup xs, env => bindL is xs env
  | .two i is, .tup [x, .tup xs], env => bindL is xs (env.set i (some (.d x)))
  | _, _, _ => none
def Pat.vars : Pat → List Nat
  | .nm i => [i]
  | .tup is => is
  | .two i is => i :: is

mutual
inductive E where
  | var (i : Nat)
  | lit (d : D)
  | con (g : Nat)
  | bin (o : Bop) (a b : E)
  | neg (a : E) | not (a : E)
  | and (a b : E) | or (a b : E)
  | chain (o p : Bop) (a b c : E)
  | ite (c a b : E)
  | tup (es : Es)
  | ix (a b : E)
  | sl (a : E) (lo hi : Es)
  | rev (a : E)
  | isi (a : E) (t : Ty)
  | bif (b : Bif) (es : Es)
  | call (f : Nat) (es : Es)
  | mkl (m : Bool) (c : C)
  | rng (es : Es)
  | enum (a : E)
  | zip (a b : E)
  /-- d.items() -/
  | items (a : E)
  /-- tuple(range(..)) -/
  | trng (es : Es)
  /-- 's'.join(a) -/
  | join (s : List Nat) (a : E)
  /-- a.index(b), a.count(b) -/
  | idx (a b : E)
  | cnt (a b : E)
  /-- a.get(b), a.get(b, c) -/
  | get (a b : E) (c : Es)
  /-- x.pop(), x.pop(e) -/
  | pop (i : Nat) (es : Es)
  /-- len(set(a)), sorted(set(a)) -/
  | lset (a : E)
  | sset (a : E)
  /-- a == {}, a != {} -/
  | emp (n : Bool) (a : E)
  /-- a dict is made; m: it is kept to be changed; c: its keys are tuples -/
  | mkd (m c : Bool) (x : DC)
  /-- sorted(a, key=lambda x: x[0] * p ** q // x[1]) -/
  | ksrt (p q : Nat) (a : E)
inductive DC where
  | disp (ks vs : Es)
  | comp (own : List Nat) (p : Pat) (it : E) (c : Es) (k v : E)
  /-- dict(a), a a list of pairs -/
  | ofp (a : E)
inductive Es where
  | nil
  | cons (e : E) (r : Es)
inductive C where
  | disp (es : Es)
  | ofl (e : E)
  | comp (own : List Nat) (p : Pat) (it : E) (c : Es) (elt : E)
  | comp2 (own vs1 : List Nat) (p : Pat) (it : E) (c : Es) (p1 : Pat) (it1 : E) (c1 : Es) (elt : E)
  | rep (a b : E)
end

/-- an own function: of plain data; of one cell and plain data; one that makes a new list -/
inductive FSpec where
  | pure (f : List D → Option D)
  | cell (f : List W → List D → Option (D × List D))
  | new (f : List D → Option (List D))
  | none

def rngD : List D → Option (List D)
  | [.int j] => if lo62 j && hi24 j then some ((List.range j.toNat).map fun (k : Nat) => D.int k) else .none
  | [.int i, .int j] => if lo62 i && hi62 i && lo62 j && hi62 j && decide ((j - i).toNat ≤ line) then some ((List.range (j - i).toNat).map fun (k : Nat) => D.int (i + k)) else .none
  | [.int i, .int j, .int (-1)] => if lo62 i && hi62 i && lo62 j && hi62 j && decide ((i - j).toNat ≤ line) then some ((List.range (i - j).toNat).map fun (k : Nat) => D.int (i - k)) else .none
  | _ => .none
def enumL : Nat → List D → List D
  | _, [] => []
  | n, x :: xs => .tup [.int n, x] :: enumL (n + 1) xs
def zipL : List D → List D → List D
  | x :: xs, y :: ys => .tup [x, y] :: zipL xs ys
  | _, _ => []
/-- the turns of a list comprehension over plain items -/
def compD (turn : D → DH → Option (List W × DH)) : List D → DH → Option (List W × DH)
  | [], h => some ([], h)
  | x :: r, h => do
    let (o, h1) ← turn x h
    let (ws, h2) ← compD turn r h1
    some (o ++ ws, h2)
/-- .. over the list that stands in the n-th cell -/
def compR (turn : D → DH → Option (List W × DH)) (n : Nat) : Nat → Nat → DH → Option (List W × DH)
  | 0, i, h => match h[n]? with
    | some (.lst ws) => if ws.length = i then some ([], h) else .none
    | _ => .none
  | k + 1, i, h => match h[n]? with
    | some (.lst ws) => match ws[i]? with
      | some (.d x) => do
        let (o, h1) ← turn x h
        let (ws, h2) ← compR turn n k (i + 1) h1
        some (o ++ ws, h2)
      | _ => .none
    | _ => .none
def compW (turn : D → DH → Option (List W × DH)) (w : W) (h : DH) : Option (List W × DH) :=
  match w with
  | .d x => (itemsD x).bind fun ds => compD turn ds h
  | .ref n => match h[n]? with
    | some (.lst ws) => compR turn n ws.length 0 h
    | _ => .none
/-- the turns of a dict comprehension -/
def dcD (turn : D → DH → Option (Option (D × D) × DH)) : List D → DH → Option (List D × List D × DH)
  | [], h => some ([], [], h)
  | x :: r, h => do
    let (o, h1) ← turn x h
    let (ks, vs, h2) ← dcD turn r h1
    match o with
    | some (k, v) => some (k :: ks, v :: vs, h2)
    | .none => some (ks, vs, h2)
def itemPs : List D → List D → List D
  | k :: ks, v :: vs => .tup [k, v] :: itemPs ks vs
  | _, _ => []
def mkD (m c : Bool) (ks vs : List D) (h : DH) : Option (W × DH) :=
  let p := putAll [] [] ks vs
  if ks.all (kcB c) && decide (ks.length ≤ line) then
    if m = true then some (.ref h.length, h ++ [.dct c p.1 p.2]) else some (.d (.dct c p.1 p.2), h)
  else .none
/-- the k-th part of a fraction times a power: how a list of fractions is sorted -/
def keyF (p q : Nat) : D → Option D
  | .tup [.int a, .int b] => if b64 a && decide (0 < b) && hi30 b then some (.int (a * ((p ^ q : Nat) : Int) / b)) else .none
  | _ => .none
def keysF (p q : Nat) : List D → Option (List D)
  | [] => some []
  | x :: r => do let k ← keyF p q x; let ks ← keysF p q r; some (k :: ks)
def insK (k x : D) : List (D × D) → List (D × D)
  | [] => [(k, x)]
  | y :: ys => if ltD y.1 k = true then y :: insK k x ys else (k, x) :: y :: ys
def isortK : List D → List D → List (D × D)
  | k :: ks, x :: xs => insK k x (isortK ks xs)
  | _, _ => []
def mkL (m : Bool) (ws : List W) (h : DH) : Option (W × DH) :=
  if m = true then some (.ref h.length, h ++ [.lst ws]) else (pureL ws).map fun ds => (.d (.lst ds), h)

mutual
def evE (Φ : Nat → FSpec) (G : Nat → D) : E → Env → DH → Option (W × DH)
  | .var i, env, h => match env[i]? with
    | some (some w) => some (w, h)
    | _ => .none
  | .lit d, _, h => some (.d d, h)
  | .con g, _, h => some (.d (G g), h)
  | .bin o a b, env, h => do
    let (x, h1) ← evE Φ G a env h
    let (y, h2) ← evE Φ G b env h1
    let dx ← valD h2 x
    let dy ← valD h2 y
    let r ← binD o dx dy
    some (.d r, h2)
  | .neg a, env, h => do
    let (x, h1) ← evE Φ G a env h
    match x with
    | .d (.int i) => some (.d (.int (-i)), h1)
    | _ => .none
  | .not a, env, h => do
    let (x, h1) ← evE Φ G a env h
    match x with
    | .d (.bl b) => some (.d (.bl (!b)), h1)
    | _ => .none
  | .and a b, env, h => do
    let (x, h1) ← evE Φ G a env h
    match x with
    | .d (.bl true) => evE Φ G b env h1
    | .d (.bl false) => some (.d (.bl false), h1)
    | _ => .none
  | .or a b, env, h => do
    let (x, h1) ← evE Φ G a env h
    match x with
    | .d (.bl false) => evE Φ G b env h1
    | .d (.bl true) => some (.d (.bl true), h1)
    | _ => .none
  | .chain o p a b c, env, h => do
    let (x, h1) ← evE Φ G a env h
    let (y, h2) ← evE Φ G b env h1
    let dx ← valD h2 x
    let dy ← valD h2 y
    let r ← binD o dx dy
    match r with
    | .bl true => do
      let (z, h3) ← evE Φ G c env h2
      let dy ← valD h3 y
      let dz ← valD h3 z
      let r ← binD p dy dz
      some (.d r, h3)
    | .bl false => some (.d (.bl false), h2)
    | _ => .none
  | .ite c a b, env, h => do
    let (x, h1) ← evE Φ G c env h
    match x with
    | .d (.bl true) => evE Φ G a env h1
    | .d (.bl false) => evE Φ G b env h1
    | _ => .none
  | .tup es, env, h => do
    let (ws, h1) ← evEs Φ G es env h
    let ds ← pureL ws
    if ds.length ≤ line then some (.d (.tup ds), h1) else .none
  | .ix a b, env, h => do
    let (x, h1) ← evE Φ G a env h
    let (y, h2) ← evE Φ G b env h1
    let w ← ixW h2 x y
    some (w, h2)
  | .sl a lo hi, env, h => do
    let (x, h1) ← evE Φ G a env h
    let (l, h2) ← evPart Φ G lo env h1
    let (u, h3) ← evPart Φ G hi env h2
    let dx ← valD h3 x
    let r ← slD dx l u
    some (.d r, h3)
  | .rev a, env, h => do
    let (x, h1) ← evE Φ G a env h
    let dx ← valD h1 x
    let r ← revD dx
    some (.d r, h1)
  | .isi a t, env, h => do
    let (x, h1) ← evE Φ G a env h
    match x with
    | .d x => match dTy x with
      | some _ => some (.d (.bl (isD x t)), h1)
      | .none => .none
    | _ => .none
  | .bif b es, env, h => do
    let (ws, h1) ← evEs Φ G es env h
    let ds ← valsD h1 ws
    let r ← bifD b ds
    some (.d r, h1)
  | .call f es, env, h => do
    let (ws, h1) ← evEs Φ G es env h
    match Φ f with
    | .pure g => do
      let ds ← pureL ws
      let r ← g ds
      some (.d r, h1)
    | .new g => do
      let ds ← pureL ws
      let r ← g ds
      some (.ref h1.length, h1 ++ [.lst (r.map W.d)])
    | .cell g => do
      let n ← cellArg ws
      match h1[n]? with
      | some (.lst l) => do
        let c ← pureL l
        let (r, c') ← g (ws.map zeroW) c
        some (.d r, h1.set n (.lst (c'.map W.d)))
      | _ => .none
    | .none => .none
  | .mkl m c, env, h => do
    let (ws, h1) ← evC Φ G c env h
    mkL m ws h1
  | .rng es, env, h => do
    let (ws, h1) ← evEs Φ G es env h
    let ds ← pureL ws
    let r ← rngD ds
    some (.d (.lst r), h1)
  | .enum a, env, h => do
    let (x, h1) ← evE Φ G a env h
    match x with
    | .d x => (seqD x).map fun ds => (.d (.lst (enumL 0 ds)), h1)
    | _ => .none
  | .zip a b, env, h => do
    let (x, h1) ← evE Φ G a env h
    let (y, h2) ← evE Φ G b env h1
    match x, y with
    | .d x, .d y => do
      let xs ← seqD x
      let ys ← seqD y
      some (.d (.lst (zipL xs ys)), h2)
    | _, _ => .none
  | .items a, env, h => do
    let (x, h1) ← evE Φ G a env h
    match x with
    | .d (.dct _ ks vs) => some (.d (.lst (itemPs ks vs)), h1)
    | _ => .none
  | .trng es, env, h => do
    let (ws, h1) ← evEs Φ G es env h
    let ds ← pureL ws
    let r ← rngD ds
    some (.d (.tup r), h1)
  | .join s a, env, h => do
    let (x, h1) ← evE Φ G a env h
    let dx ← valD h1 x
    match dx with
    | .lst xs => do
      let ss ← strsD xs
      if (ss.map List.length).sum + ss.length * s.length ≤ line then some (.d (.str (joinS s ss)), h1) else .none
    | _ => .none
  | .idx a b, env, h => do
    let (x, h1) ← evE Φ G a env h
    match valD h1 x with
    | some (.lst _) => do
      let (y, h2) ← evE Φ G b env h1
      let dx ← valD h2 x
      let dy ← valD h2 y
      match dx with
      | .lst xs => if shp (.lst xs) && shp dy then (fndD dy xs 0).map fun (j : Nat) => (.d (.int j), h2) else .none
      | _ => .none
    | _ => .none
  | .cnt a b, env, h => do
    let (x, h1) ← evE Φ G a env h
    let (y, h2) ← evE Φ G b env h1
    let dx ← valD h2 x
    let dy ← valD h2 y
    match dx with
    | .lst xs => if shp (.lst xs) && shp dy then some (.d (.int (xs.countP fun z => eqD z dy)), h2) else .none
    | _ => .none
  | .get a b c, env, h => do
    let (x, h1) ← evE Φ G a env h
    match valD h1 x with
    | some (.dct _ _ _) => do
      let (y, h2) ← evE Φ G b env h1
      let (zs, h3) ← evEs Φ G c env h2
      let dx ← valD h3 x
      let dy ← valD h3 y
      let ds ← pureL zs
      match dx, ds with
      | .dct c ks vs, [] => if kcB c dy then some (.d ((lkK ks vs dy).getD .non), h3) else .none
      | .dct c ks vs, [z] => if kcB c dy then some (.d ((lkK ks vs dy).getD z), h3) else .none
      | _, _ => .none
    | _ => .none
  | .pop i es, env, h => do
    match env[i]? with
    | some (some (.ref n)) => do
      match h[n]? with
      | some (.lst _) => do
        let (ws, h1) ← evEs Φ G es env h
        match h1[n]?, ws with
        | some (.lst l), [] => (l[l.length - 1]?).map fun y => (y, h1.set n (.lst l.dropLast))
        | some (.lst l), [.d (.int k)] => do
          let j ← if lo63 k && hi63 k then ixN l.length k else .none
          let y ← l[j]?
          some (y, h1.set n (.lst (l.eraseIdx j)))
        | _, _ => .none
      | _ => .none
    | _ => .none
  | .lset a, env, h => do
    let (x, h1) ← evE Φ G a env h
    let dx ← valD h1 x
    match dx with
    | .lst xs => if (intsD xs).isSome && decide (xs.length < 4000) then some (.d (.int (dedK [] xs).length), h1) else .none
    | _ => .none
  | .sset a, env, h => do
    let (x, h1) ← evE Φ G a env h
    let dx ← valD h1 x
    match dx with
    | .lst xs => if xs.all hsb && Nat.ble (depL xs) 8 && decide (xs.length < 64) && srtOk xs then some (.d (.lst (isortD (dedK [] xs))), h1) else .none
    | _ => .none
  | .emp n a, env, h => do
    let (x, h1) ← evE Φ G a env h
    let dx ← valD h1 x
    match dx with
    | .dct _ ks _ => some (.d (.bl (if n = true then !ks.isEmpty else ks.isEmpty)), h1)
    | _ => .none
  | .mkd m c x, env, h => do
    let (ks, vs, h1) ← evD Φ G x env h
    mkD m c ks vs h1
  | .ksrt p q a, env, h => do
    let (x, h1) ← evE Φ G a env h
    let dx ← valD h1 x
    let xs ← itemsD dx
    let ks ← keysF p q xs
    if decide (xs.length ≤ line) && decide (p ^ q < 2 ^ 30) then some (.d (.lst ((isortK ks xs).map (·.2))), h1) else .none
def evD (Φ : Nat → FSpec) (G : Nat → D) : DC → Env → DH → Option (List D × List D × DH)
  | .disp ks vs, env, h => do
    let (kw, h1) ← evEs Φ G ks env h
    let (vw, h2) ← evEs Φ G vs env h1
    let kd ← pureL kw
    let vd ← pureL vw
    if kd.length = vd.length ∧ kd.length ≤ 1 then some (kd, vd, h2) else .none
  | .comp own p it c k v, env, h => do
    let (x, h1) ← evE Φ G it env h
    match x with
    | .d x => do
      let ds ← itemsD x
      dcD (fun x h => do
        let env1 ← p.bind x (wipeE env own)
        let (b, h1) ← evIf Φ G c env1 h
        if b = true then do
          let (kw, h2) ← evE Φ G k env1 h1
          let (vw, h3) ← evE Φ G v env1 h2
          match kw, vw with
          | .d kd, .d vd => some (some (kd, vd), h3)
          | _, _ => .none
        else some (.none, h1)) ds h1
    | _ => .none
  | .ofp a, env, h => do
    let (x, h1) ← evE Φ G a env h
    let dx ← valD h1 x
    match dx with
    | .lst xs => (pairsD xs).map fun p => (p.1, p.2, h1)
    | _ => .none
def evEs (Φ : Nat → FSpec) (G : Nat → D) : Es → Env → DH → Option (List W × DH)
  | .nil, _, h => some ([], h)
  | .cons e r, env, h => do
    let (w, h1) ← evE Φ G e env h
    let (ws, h2) ← evEs Φ G r env h1
    some (w :: ws, h2)
/-- a part of a slice -/
def evPart (Φ : Nat → FSpec) (G : Nat → D) : Es → Env → DH → Option (Option Int × DH)
  | .nil, _, h => some (.none, h)
  | .cons e _, env, h => do
    let (x, h1) ← evE Φ G e env h
    match x with
    | .d (.int i) => some (some i, h1)
    | _ => .none
/-- the test of a clause -/
def evIf (Φ : Nat → FSpec) (G : Nat → D) : Es → Env → DH → Option (Bool × DH)
  | .nil, _, h => some (true, h)
  | .cons e _, env, h => do
    let (x, h1) ← evE Φ G e env h
    match x with
    | .d (.bl i) => some (i, h1)
    | _ => .none
def evC (Φ : Nat → FSpec) (G : Nat → D) : C → Env → DH → Option (List W × DH)
  | .disp es, env, h => do
    let (ws, h1) ← evEs Φ G es env h
    if ws.length ≤ line then some (ws, h1) else .none
  | .ofl e, env, h => do
    let (x, h1) ← evE Φ G e env h
    let dx ← valD h1 x
    let ds ← (match dx with | .lst xs => some xs | .tup xs => some xs | .scr ns => some (ns.map D.int) | .dct _ ks _ => some ks | _ => .none)
    some (ds.map W.d, h1)
  | .comp own p it c elt, env, h => do
    let (x, h1) ← evE Φ G it env h
    let (ws, h2) ← compW (fun x h => do
      let env1 ← p.bind x (wipeE env own)
      let (b, h1) ← evIf Φ G c env1 h
      if b = true then do
        let (w, h2) ← evE Φ G elt env1 h1
        some ([w], h2)
      else some ([], h1)) x h1
    if ws.length ≤ line then some (ws, h2) else .none
  | .comp2 own vs1 p it c p1 it1 c1 elt, env, h => do
    let (x, h1) ← evE Φ G it env h
    let (ws, h2) ← compW (fun x h => do
      let env1 ← p.bind x (wipeE env own)
      let (b, h1) ← evIf Φ G c env1 h
      if b = true then do
        let (y, h2) ← evE Φ G it1 env1 h1
        compW (fun y h => do
          let env2 ← p1.bind y (wipeE env1 vs1)
          let (b, h1) ← evIf Φ G c1 env2 h
          if b = true then do
            let (w, h2) ← evE Φ G elt env2 h1
            some ([w], h2)
          else some ([], h1)) y h2
      else some ([], h1)) x h1
    if ws.length ≤ line then some (ws, h2) else .none
  | .rep a b, env, h => do
    let (x, h1) ← evE Φ G a env h
    let (y, h2) ← evE Φ G b env h1
    match x, y with
    | .d (.lst xs), .d (.int k) => if lo63 k && hi63 k && decide (xs.length * k.toNat ≤ line) then some ((List.replicate k.toNat xs).flatten.map W.d, h2) else .none
    | _, _ => .none
end

/-! ### statements -/
inductive Tgt where
  | pat (p : Pat)
  | sub (a b : E)
  | two (a b a' b' : E)
mutual
inductive S where
  | asg (t : Tgt) (e : E)
  | par (is : List Nat) (es : Es)
  | ext (i : Nat) (e : E)
  | app (i : Nat) (e : E)
  | expr (e : E)
  | ite (c : E) (a b : Ss)
  | for (p : Pat) (it : E) (body : Ss)
  | while (c : E) (body : Ss)
  | ret (e : E)
  | brk | cont | pass | nev
  | fgt (vs : List Nat)
  | frz (i : Nat)
  /-- the lists in a list are frozen -/
  | frzi (i : Nat)
  /-- x.update(e) -/
  | upd (i : Nat) (e : E)
inductive Ss where
  | nil
  | cons (s : S) (r : Ss)
end
inductive Out where
  | nx (env : Env) (h : DH)
  | rt (w : W) (h : DH)
  | bk (env : Env) (h : DH)
  | ct (env : Env) (h : DH)
def setsE : List Nat → List W → Env → Option Env
  | [], [], env => some env
  | i :: is, w :: ws, env => setsE is ws (env.set i (some w))
  | _, _, _ => .none
/-- o[i] = v -/
def storeW (o i v : W) (h : DH) : Option DH :=
  match o, i with
  | .ref n, .d x => match h[n]? with
    | some (.lst ws) => match x with
      | .int k => (ixN ws.length k).map fun j => h.set n (.lst (ws.set j v))
      | _ => none
    | some (.dct c ks vs) => match v with
      | .d y => if kcB c x && decide (ks.length < line) then some (h.set n (.dct c (putD ks vs x y).1 (putD ks vs x y).2)) else none
      | _ => none
    | _ => none
  | _, _ => none
/-- the lists in a list are frozen, from the i-th on -/
def frzI (n : Nat) : Nat → Nat → DH → Option DH
  | 0, _, h => some h
  | k + 1, i, h => match h[n]? with
    | some (.lst ws) => match ws[i]? with
      | some (.d _) => frzI n k (i + 1) h
      | some (.ref m) => match h[m]? with
        | some (.lst us) => if m = n then none else (pureL us).bind fun ds => frzI n k (i + 1) ((h.set m .dead).set n (.lst (ws.set i (.d (.lst ds)))))
        | _ => none
      | _ => none
    | _ => none
def forD (turn : D → Env → DH → Option Out) : List D → Env → DH → Option Out
  | [], env, h => some (.nx env h)
  | x :: r, env, h => do
    match ← turn x env h with
    | .nx env1 h1 => forD turn r env1 h1
    | .ct env1 h1 => forD turn r env1 h1
    | .bk env1 h1 => some (.nx env1 h1)
    | .rt w h1 => some (.rt w h1)
def whileD (test : Env → DH → Option (Bool × DH)) (body : Env → DH → Option Out) : Nat → Env → DH → Option Out
  | 0, _, _ => .none
  | k + 1, env, h => do
    let (b, h1) ← test env h
    if b = true then
      match ← body env h1 with
      | .nx env1 h2 => whileD test body k env1 h2
      | .ct env1 h2 => whileD test body k env1 h2
      | .bk env1 h2 => some (.nx env1 h2)
      | .rt w h2 => some (.rt w h2)
    else some (.nx env h1)
def unsetE (env : Env) : List Nat → Env
  | [] => env
  | v :: vs => unsetE (env.set v none) vs
mutual
def evS (Φ : Nat → FSpec) (G : Nat → D) (N : Nat) : S → Env → DH → Option Out
  | .asg (.pat (.nm i)) e, env, h => do
    let (w, h1) ← evE Φ G e env h
    some (.nx (env.set i (some w)) h1)
  | .asg (.pat p) e, env, h => do
    let (w, h1) ← evE Φ G e env h
    match w with
    | .d x => do
      let env1 ← p.bind x env
      some (.nx env1 h1)
    | _ => .none
  | .asg (.sub a b) e, env, h => do
    let (v, h1) ← evE Φ G e env h
    let (o, h2) ← evE Φ G a env h1
    let (i, h3) ← evE Φ G b env h2
    let h4 ← storeW o i v h3
    some (.nx env h4)
  | .asg (.two a b a' b') e, env, h => do
    let (v, h1) ← evE Φ G e env h
    match v with
    | .d (.tup [x, y]) => do
      let (o, h2) ← evE Φ G a env h1
      let (i, h3) ← evE Φ G b env h2
      let h4 ← storeW o i (.d x) h3
      let (o, h5) ← evE Φ G a' env h4
      let (i, h6) ← evE Φ G b' env h5
      let h7 ← storeW o i (.d y) h6
      some (.nx env h7)
    | _ => .none
  | .par is es, env, h => do
    let (ws, h1) ← evEs Φ G es env h
    let env1 ← setsE is ws env
    some (.nx env1 h1)
  | .ext i e, env, h => do
    match env[i]? with
    | some (some (.ref n)) => do
      let (w, h1) ← evE Φ G e env h
      match w, h1[n]? with
      | .d (.lst xs), some (.lst ws) => if ws.length + xs.length ≤ line then some (.nx env (h1.set n (.lst (ws ++ xs.map W.d)))) else .none
      | _, _ => .none
    | _ => .none
  | .app i e, env, h => do
    match env[i]? with
    | some (some (.ref n)) => do
      match h[n]? with
      | some (.lst _) => do
        let (w, h1) ← evE Φ G e env h
        match h1[n]? with
        | some (.lst ws) => if ws.length < line then some (.nx env (h1.set n (.lst (ws ++ [w])))) else .none
        | _ => .none
      | _ => .none
    | _ => .none
  | .expr e, env, h => do
    let (_, h1) ← evE Φ G e env h
    some (.nx env h1)
  | .ite c a b, env, h => do
    let (x, h1) ← evE Φ G c env h
    match x with
    | .d (.bl true) => evSs Φ G N a env h1
    | .d (.bl false) => evSs Φ G N b env h1
    | _ => .none
  | .for p it body, env, h => do
    let (x, h1) ← evE Φ G it env h
    match x with
    | .d x => do
      let ds ← itemsD x
      forD (fun x env h => do
        let env1 ← p.bind x env
        evSs Φ G N body env1 h) ds env h1
    | _ => .none
  | .while c body, env, h => whileD (fun env h => do
      let (x, h1) ← evE Φ G c env h
      match x with
      | .d (.bl b) => some (b, h1)
      | _ => .none) (evSs Φ G N body) N env h
  | .ret e, env, h => do
    let (w, h1) ← evE Φ G e env h
    some (.rt w h1)
  | .brk, env, h => some (.bk env h)
  | .cont, env, h => some (.ct env h)
  | .pass, env, h => some (.nx env h)
  | .nev, _, _ => .none
  | .fgt vs, env, h => some (.nx (unsetE env vs) h)
  | .frz i, env, h => do
    match env[i]? with
    | some (some (.ref n)) => do
      match h[n]? with
      | some (.lst ws) => do
        let ds ← pureL ws
        some (.nx (env.set i (some (.d (.lst ds)))) (h.set n .dead))
      | some (.dct c ks vs) => some (.nx (env.set i (some (.d (.dct c ks vs)))) (h.set n .dead))
      | _ => .none
    | _ => .none
  | .frzi i, env, h => do
    match env[i]? with
    | some (some (.ref n)) => do
      match h[n]? with
      | some (.lst ws) => do
        let h1 ← frzI n ws.length 0 h
        some (.nx env h1)
      | _ => .none
    | _ => .none
  | .upd i e, env, h => do
    match env[i]? with
    | some (some (.ref n)) => do
      let (w, h1) ← evE Φ G e env h
      let dw ← valD h1 w
      match dw, h1[n]? with
      | .dct c' ks' vs', some (.dct c ks vs) => if (c' == c) && decide (ks.length + ks'.length ≤ line) && (match w with | .ref m => !decide (m = n) | _ => true) then some (.nx env (h1.set n (.dct c (putAll ks vs ks' vs').1 (putAll ks vs ks' vs').2))) else .none
      | _, _ => .none
    | _ => .none
def evSs (Φ : Nat → FSpec) (G : Nat → D) (N : Nat) : Ss → Env → DH → Option Out
  | .nil, env, h => some (.nx env h)
  | .cons s r, env, h => do
    match ← evS Φ G N s env h with
    | .nx env1 h1 => evSs Φ G N r env1 h1
    | o => some o
end
end Sh

/-! the evaluator's operations are the model's -/
namespace Sh
open PySem PySem.Spec PyProof.Rows L2

section
variable {K : KW} {H H' : Hp} {ι ι' : List Addr} {h : DH}
theorem line_eq : line = sizeLine := by rw [sizeLine_eq]; rfl
mutual
theorem py_depth : ∀ d : D, (py d).depth = dep d
  | .non => by simp only [py, PyData.depth, dep]
  | .bl _ => by simp only [py, PyData.depth, dep]
  | .int _ => by simp only [py, PyData.depth, dep]
  | .str _ => by simp only [py, PyData.depth, dep]
  | .tup xs => by simp only [py, PyData.depth, dep, pyL_depth xs]
  | .lst xs => by simp only [py, PyData.depth, dep, pyL_depth xs]
  | .dct .. => by simp only [py, PyData.depth, dep]
  | .scr _ => by simp only [py, PyData.depth, dep]
theorem pyL_depth : ∀ ds : List D, PyData.depthAll (pyL ds) = depL ds
  | [] => by simp only [pyL, PyData.depthAll, depL]
  | x :: r => by simp only [pyL, PyData.depthAll, depL, py_depth x, pyL_depth r]
end
mutual
theorem py_eqv : ∀ a b : D, flat a = true → flat b = true → PyData.eqv (py a) (py b) = eqD a b
  | .tup xs, b, ha, hb => by
    cases b with
    | tup ys => simp only [py, PyData.eqv, eqD]; exact pyL_eqv xs ys (by simpa [flat] using ha) (by simpa [flat] using hb)
    | dct _ _ => simp [flat] at hb
    | scr _ => simp [flat] at hb
    | _ => simp only [py, PyData.eqv, eqD]
  | .lst xs, b, ha, hb => by
    cases b with
    | lst ys => simp only [py, PyData.eqv, eqD]; exact pyL_eqv xs ys (by simpa [flat] using ha) (by simpa [flat] using hb)
    | dct _ _ => simp [flat] at hb
    | scr _ => simp [flat] at hb
    | _ => simp only [py, PyData.eqv, eqD]
  | .non, b, _, hb => by cases b <;> simp_all [py, PyData.eqv, eqD, flat]
  | .bl _, b, _, hb => by cases b <;> simp_all [py, PyData.eqv, eqD, flat]
  | .int _, b, _, hb => by cases b <;> simp_all [py, PyData.eqv, eqD, flat]
  | .str s, b, _, hb => by
    cases b with
    | str t =>
      simp only [py, PyData.eqv, eqD]
      by_cases e : s = t
      · subst e; rw [beq_self_eq_true, beq_self_eq_true]
      · have h1 : ¬ (⟨s.toArray⟩ : Str) = ⟨t.toArray⟩ := fun z => e (by simpa using z)
        rw [beq_eq_false_iff_ne.mpr e, beq_eq_false_iff_ne.mpr h1]
    | _ => simp_all [py, PyData.eqv, eqD, flat]
  | .dct .., _, ha, _ => by simp [flat] at ha
  | .scr _, _, ha, _ => by simp [flat] at ha
theorem pyL_eqv : ∀ a b : List D, flatL a = true → flatL b = true → PyData.eqvAll (pyL a) (pyL b) = eqDL a b
  | [], [], _, _ => by simp only [pyL, PyData.eqvAll, eqDL]
  | [], _ :: _, _, _ => by simp only [pyL, PyData.eqvAll, eqDL]
  | _ :: _, [], _, _ => by simp only [pyL, PyData.eqvAll, eqDL]
  | x :: xs, y :: ys, ha, hb => by
    simp only [flatL, Bool.and_eq_true] at ha hb
    simp only [pyL, PyData.eqvAll, eqDL, py_eqv x y ha.1 hb.1, pyL_eqv xs ys ha.2 hb.2]
end
theorem okCp_strOk {s : List Nat} (h : okCp s = true) : PyData.strOk ⟨s.toArray⟩ = true := by
  unfold okCp at h
  unfold PyData.strOk
  simp only [List.all_toArray, List.all_eq_true, decide_eq_true_eq] at h ⊢
  intro x hx
  have := h x (by simpa using hx)
  omega
mutual
theorem Rep.lay : ∀ {d : D} {v : V}, Rep K H d v → flat d = true → (py d).canLay0 = true
  | _, _, .non, _ => by simp only [py, PyData.canLay0]
  | _, _, .bl _, _ => by simp only [py, PyData.canLay0]
  | _, _, .int _, _ => by simp only [py, PyData.canLay0]
  | _, _, .str s h, _ => by simp only [py, PyData.canLay0]; exact okCp_strOk h
  | _, _, .tup _ r, hf => by simp only [py, PyData.canLay0]; exact RepL.lay r (by simpa [flat] using hf)
  | _, _, .lst _ r, hf => by simp only [py, PyData.canLay0]; exact RepL.lay r (by simpa [flat] using hf)
  | _, _, .scr _, hf => by simp [flat] at hf
  | _, _, .dct .., hf => by simp [flat] at hf
theorem RepL.lay : ∀ {ds : List D} {vs : List V}, RepL K H ds vs → flatL ds = true → PyData.canLayAll0 (pyL ds) = true
  | _, _, .nil, _ => by simp only [pyL, PyData.canLayAll0]
  | _, _, .cons a b, hf => by
    simp only [flatL, Bool.and_eq_true] at hf
    simp only [pyL, PyData.canLayAll0, Rep.lay a hf.1, RepL.lay b hf.2, Bool.and_self]
end
mutual
theorem Rep.dp : ∀ {d : D} {v : V}, Rep K H d v → flat d = true → Dp K H v (py d)
  | _, _, .non, _ => by simp only [py]; exact .non
  | _, _, .bl b, _ => by simp only [py]; exact .bl b
  | _, _, .int i, _ => by simp only [py]; exact .int i
  | _, _, .str s h, _ => by simp only [py]; exact .str _
  | _, _, .tup q r, hf => by simp only [py]; exact .tup q (RepL.dp r (by simpa [flat] using hf))
  | _, _, .lst q r, hf => by simp only [py]; exact .lst q.sql (RepL.dp r (by simpa [flat] using hf))
  | _, _, .scr _, hf => by simp [flat] at hf
  | _, _, .dct .., hf => by simp [flat] at hf
theorem RepL.dp : ∀ {ds : List D} {vs : List V}, RepL K H ds vs → flatL ds = true → DpAll K H vs (pyL ds)
  | _, _, .nil, _ => by simp only [pyL]; exact .nil
  | _, _, .cons a b, hf => by
    simp only [flatL, Bool.and_eq_true] at hf
    simp only [pyL]
    exact .cons (Rep.dp a hf.1) (RepL.dp b hf.2)
end
/-- a value as plain data: what it is in the heap -/
inductive Is (K : KW) (H : Hp) : D → V → Prop
  | rep {d : D} {v : V} : Rep K H d v → Is K H d v
  | lst {a : Addr} {vs : List V} {ds : List D} : H a = some (.lst vs) → RepL K H ds vs → Is K H (.lst ds) (.ref a)
  | dct {a : Addr} {es : List DictEntry} {c : Bool} {ks vs : List D} {kus vus : List V} : H a = some (DctAt a es) → (a == sysModules) = false → es.length ≤ sizeLine → keysB c ks = true → Ents K.w es ks kus vus → RepL K H ks kus → RepL K H vs vus → Is K H (.dct c ks vs) (.ref a)
theorem Is.dp {d : D} {v : V} (r : Is K H d v) (hf : flat d = true) : Dp K H v (py d) := by
  cases r with
  | rep r => exact r.dp hf
  | lst q r => simp only [py]; exact .lst (.inl (.inl q)) (r.dp (by simpa [flat] using hf))
  | dct => simp [flat] at hf
theorem Is.lay {d : D} {v : V} (r : Is K H d v) (hf : flat d = true) : (py d).canLay0 = true := by
  cases r with
  | rep r => exact r.lay hf
  | lst q r => simp only [py, PyData.canLay0]; exact r.lay (by simpa [flat] using hf)
  | dct => simp [flat] at hf
theorem Is.shaped {d : D} {v : V} (r : Is K H d v) (hs : shp d = true) : SeqAt.shaped (py d) = true := by
  simp only [shp, Bool.and_eq_true, decide_eq_true_eq] at hs
  unfold SeqAt.shaped
  simp only [r.lay hs.1, py_depth, Bool.true_and, decide_eq_true_eq]
  exact hs.2
theorem Is.sq {ds : List D} {v : V} (r : Is K H (.lst ds) v) : ∃ a vs, v = .ref a ∧ Rd H a (.lst vs) ∧ RepL K H ds vs := by
  cases r with
  | rep r =>
    cases r with
    | lst q r => obtain ⟨o, q⟩ := q; exact ⟨_, _, rfl, .inr ⟨o, q⟩, r⟩
  | lst q r => exact ⟨_, _, rfl, .inl q, r⟩
theorem Is.tup {ds : List D} {v : V} (r : Is K H (.tup ds) v) : ∃ a vs, v = .ref a ∧ SqT K H a vs ∧ RepL K H ds vs := by
  cases r with
  | rep r => cases r with | tup q r => exact ⟨_, _, rfl, q, r⟩
theorem Is.int {i : Int} {v : V} (r : Is K H (.int i) v) : v = .int i := by cases r with | rep r => cases r; rfl
theorem Is.bl {i : Bool} {v : V} (r : Is K H (.bl i) v) : v = .bl i := by cases r with | rep r => cases r; rfl
theorem Is.non {v : V} (r : Is K H .non v) : v = .non := by cases r with | rep r => cases r; rfl
theorem Is.str {s : List Nat} {v : V} (r : Is K H (.str s) v) : v = .str ⟨s.toArray⟩ ∧ okCp s = true := by
  cases r with | rep r => cases r with | str _ h => exact ⟨rfl, h⟩
theorem Is.none_iff {d : D} {v : V} (r : Is K H d v) : decide (v = .non) = isNon d := by
  cases r with
  | rep r => cases r <;> simp [isNon]
  | lst _ _ => simp [isNon]
  | dct => simp [isNon]
/-- a dict, as it lies -/
theorem Is.dctR {c : Bool} {ks vs : List D} {v : V} (r : Is K H (.dct c ks vs) v) : ∃ a es kus vus, v = .ref a ∧ Rd H a (DctAt a es) ∧ (a == sysModules) = false ∧ es.length ≤ sizeLine ∧ keysB c ks = true ∧ Ents K.w es ks kus vus ∧ RepL K H ks kus ∧ RepL K H vs vus := by
  cases r with
  | rep r =>
    cases r with
    | dct q h2 h3 h4 h5 h6 h7 => obtain ⟨o, q⟩ := q; exact ⟨_, _, _, _, rfl, .inr ⟨o, q⟩, h2, h3, h4, h5, h6, h7⟩
  | dct q h2 h3 h4 h5 h6 h7 => exact ⟨_, _, _, _, rfl, .inl q, h2, h3, h4, h5, h6, h7⟩
/-- what a name holds, as plain data -/
theorem RepW.is (s : SR K ι H h) {w : W} {v : V} {d : D} (r : RepW K ι H w v) (e : valD h w = some d) : Is K H d v := by
  cases r with
  | d r =>
    simp only [valD] at e
    cases e
    exact .rep r
  | @ref n a hn =>
    simp only [valD] at e
    split at e
    · rename_i ws hc
      simp only [Option.map_eq_some_iff] at e
      obtain ⟨ds, hp, rfl⟩ := e
      obtain ⟨vs, hv, rw'⟩ := s.cell n _ a hc hn
      exact .lst hv (rw'.pure hp)
    · rename_i c ks vs hc
      cases e
      obtain ⟨es, kus, vus, q, h2, h3, h4, h5, h6, h7⟩ := s.cell n _ a hc hn
      exact .dct q h2 h3 h4 h5 h6 h7
    · cases e
theorem RepW.pure {x : D} {v : V} (r : RepW K ι H (.d x) v) : Rep K H x v := by cases r with | d r => exact r
theorem RepW.cell {n : Nat} {v : V} (r : RepW K ι H (.ref n) v) : ∃ a, v = .ref a ∧ ι[n]? = some a := by cases r with | ref h => exact ⟨_, rfl, h⟩
end

end Sh

/-! dicts: keys as the model has them, reading, writing -/
namespace Sh
open PySem PySem.Spec PyProof.Rows L2

mutual
theorem nk_depth : ∀ d : D, hsb d = true → (nk d).depth = dep d
  | .non, _ => by simp only [nk, NestedKey.depth, dep]
  | .bl _, _ => by simp only [nk, NestedKey.depth, dep]
  | .int _, _ => by simp only [nk, NestedKey.depth, dep]
  | .str _, _ => by simp only [nk, NestedKey.depth, dep]
  | .tup xs, h => by simp only [nk, NestedKey.depth, dep, nkL_depth xs (by simpa [hsb] using h)]
  | .lst _, h => by simp [hsb] at h
  | .dct .., h => by simp [hsb] at h
  | .scr _, h => by simp [hsb] at h
theorem nkL_depth : ∀ ds : List D, hsbL ds = true → NestedKey.depthAll (nkL ds) = depL ds
  | [], _ => by simp only [nkL, NestedKey.depthAll, depL]
  | x :: r, h => by
    simp only [hsbL, Bool.and_eq_true] at h
    simp only [nkL, NestedKey.depthAll, depL, nk_depth x h.1, nkL_depth r h.2]
end
theorem beq_int_dec (a b : Int) : (a == b) = decide (a = b) := by
  by_cases h : a = b
  · rw [h]; simp
  · rw [decide_eq_false h]; exact beq_eq_false_iff_ne.mpr h
mutual
theorem nk_beq : ∀ a b : D, hsb a = true → hsb b = true → NestedKey.beq (nk a) (nk b) = eqD a b
  | .tup xs, b, ha, hb => by
    cases b with
    | tup ys => simp only [nk, NestedKey.beq, eqD]; exact nkL_beq xs ys (by simpa [hsb] using ha) (by simpa [hsb] using hb)
    | lst _ => simp [hsb] at hb
    | dct _ _ _ => simp [hsb] at hb
    | scr _ => simp [hsb] at hb
    | _ => simp only [nk, NestedKey.beq, eqD]
  | .non, b, _, hb => by cases b <;> first | (simp [hsb] at hb; done) | (simp only [nk, NestedKey.beq, eqD])
  | .bl a, b, _, hb => by cases b <;> first | (simp [hsb] at hb; done) | (simp only [nk, NestedKey.beq, eqD]; done) | (rename_i b; cases a <;> cases b <;> rfl) | (simp only [nk, NestedKey.beq, eqD]; exact (beq_int_dec _ _).symm)
  | .int a, b, _, hb => by cases b <;> first | (simp [hsb] at hb; done) | (simp only [nk, NestedKey.beq, eqD]; done) | (simp only [nk, NestedKey.beq, eqD]; exact (beq_int_dec _ _).symm)
  | .str s, b, _, hb => by
    cases b with
    | str t =>
      simp only [nk, NestedKey.beq, eqD]
      by_cases e : s = t
      · subst e; simp
      · have h1 : ¬ (⟨s.toArray⟩ : Str) = ⟨t.toArray⟩ := fun z => e (by simpa using z)
        rw [decide_eq_false h1, beq_eq_false_iff_ne.mpr e]
    | _ => first | (simp [hsb] at hb; done) | (simp only [nk, NestedKey.beq, eqD])
  | .lst _, _, h, _ => by simp [hsb] at h
  | .dct .., _, h, _ => by simp [hsb] at h
  | .scr _, _, h, _ => by simp [hsb] at h
theorem nkL_beq : ∀ a b : List D, hsbL a = true → hsbL b = true → NestedKey.beqAll (nkL a) (nkL b) = eqDL a b
  | [], [], _, _ => by simp only [nkL, NestedKey.beqAll, eqDL]
  | [], _ :: _, _, _ => by simp only [nkL, NestedKey.beqAll, eqDL]
  | _ :: _, [], _, _ => by simp only [nkL, NestedKey.beqAll, eqDL]
  | x :: xs, y :: ys, ha, hb => by
    simp only [hsbL, Bool.and_eq_true] at ha hb
    simp only [nkL, NestedKey.beqAll, eqDL, nk_beq x y ha.1 hb.1, nkL_beq xs ys ha.2 hb.2]
end
theorem nk_dec {a b : D} (ha : hsb a = true) (hb : hsb b = true) : decide (nk a = nk b) = eqD a b := by
  rw [NestedKey.decide_eq, nk_beq a b ha hb]
theorem kc_hsb {c : Bool} {d : D} (h : kcB c d = true) : hsb d = true := by
  cases c <;> cases d <;> simp_all [kcB, hsb]
theorem kc_dep {d : D} (h : kcB true d = true) : dep d ≤ 8 := by
  cases d <;> simp only [kcB, Bool.false_eq_true, Bool.and_eq_true] at h
  have := Nat.le_of_ble_eq_true h.2
  simp only [dep]; omega
/-- a key of the kind of whole numbers and texts -/
def kD : D → Key
  | .int i => .inl i
  | .str s => .inr ⟨s.toArray⟩
  | _ => .inl 0
theorem kD_dec {a b : D} (ha : kcB false a = true) (hb : kcB false b = true) : decide (kD a = kD b) = eqD a b := by
  cases a <;> simp only [kcB, Bool.false_eq_true] at ha <;> cases b <;> simp only [kcB, Bool.false_eq_true] at hb
  · simp only [kD, eqD]; exact key_ll _ _
  · simp only [kD, eqD]; exact key_lr _ _
  · simp only [kD, eqD]; exact key_rl _ _
  · rename_i s t
    simp only [kD, eqD]
    refine (key_rr _ _).trans ?_
    by_cases e : s = t
    · subst e; simp
    · have h1 : ¬ (⟨s.toArray⟩ : Str) = ⟨t.toArray⟩ := fun z => e (by simpa using z)
      rw [decide_eq_false h1, beq_eq_false_iff_ne.mpr e]
theorem kD_hash {d : D} {w : World} (h : kcB false d = true) : (nk d).hash w = keyH w (kD d) := by
  cases d <;> simp only [kcB, Bool.false_eq_true] at h <;> simp only [nk, kD, NestedKey.hash, keyH]
theorem rep_kV {K : KW} {H : Hp} {d : D} {v : V} (r : Rep K H d v) (h : kcB false d = true) : v = kV (kD d) := by
  cases r <;> simp only [kcB, Bool.false_eq_true] at h <;> rfl
theorem rep_ref {K : KW} {H : Hp} {d : D} {v : V} (r : Rep K H d v) (h : kcB true d = true) : ∃ a, v = .ref a := by
  cases r <;> simp only [kcB, Bool.false_eq_true] at h
  exact ⟨_, rfl⟩

section
variable {X : Cx} {pins : List (Addr × Obj)} {σ : L2.St} {H : Hp} {s : Shared}
mutual
theorem rep_nested (I : Inv X pins σ H s) : ∀ {d : D} {v : V} {u : Value}, Rep X.KK H d v → hsb d = true → RelV v u → NestedIs s.heap (nk d) u
  | _, _, _, .non, _, r => by obtain rfl : _ = Value.none := r; simp only [nk]; exact .none
  | _, _, _, .bl b, _, r => by obtain rfl : _ = Value.bool b := r; simp only [nk]; exact .bool rfl
  | _, _, _, .int i, _, r => by obtain ⟨t, rfl⟩ := r; simp only [nk]; exact .int _ _
  | _, _, _, .str x _, _, r => by obtain ⟨t, rfl⟩ := r; simp only [nk]; exact .text _ _
  | _, _, _, .tup h r', hb, r => by
    obtain rfl : _ = Value.ref _ := r
    obtain ⟨its, rv, ⟨o, e1, e2, n, e3⟩, _⟩ := I.tuple h
    simp only [nk]
    exact .tup e1 e2 e3 (by simpa using repL_nested I r' (by simpa [hsb] using hb) rv)
  | _, _, _, .lst .., hb, _ => by simp [hsb] at hb
  | _, _, _, .scr .., hb, _ => by simp [hsb] at hb
  | _, _, _, .dct .., hb, _ => by simp [hsb] at hb
theorem repL_nested (I : Inv X pins σ H s) : ∀ {ds : List D} {vs : List V} {us : List Value}, RepL X.KK H ds vs → hsbL ds = true → Vals vs us → NestedAll s.heap (nkL ds) us
  | _, _, _, .nil, _, .nil => by simp only [nkL]; exact .nil
  | _, _, _, .cons a b, hb, .cons r t => by
    simp only [hsbL, Bool.and_eq_true] at hb
    simp only [nkL]
    exact .cons (rep_nested I a hb.1 r) (repL_nested I b hb.2 t)
end
end

/-! ### a table of values by keys -/
inductive AL {κ : Type} (kf : D → κ) : List (κ × Value) → List D → List V → Prop
  | nil : AL kf [] [] []
  | cons {k : D} {v : V} {u : Value} {ys : List (κ × Value)} {ks : List D} {vus : List V} : RelV v u → AL kf ys ks vus → AL kf ((kf k, u) :: ys) (k :: ks) (v :: vus)
section
variable {κ : Type} [DecidableEq κ] {kf : D → κ} {K : KW} {H : Hp}
theorem AL.look {x : D} {ys : List (κ × Value)} {ks ds : List D} {vus : List V} (h : AL kf ys ks vus) (r : RepL K H ds vus) (hk : ∀ k ∈ ks, decide (kf k = kf x) = eqD k x) :
    ((∃ d v u, lkK ks ds x = some d ∧ valueAt ys (kf x) = some u ∧ RelV v u ∧ Rep K H d v) ∨ (lkK ks ds x = none ∧ valueAt ys (kf x) = none)) ∧ memK x ks = (valueAt ys (kf x)).isSome := by
  induction h generalizing ds with
  | nil => cases r; exact ⟨.inr ⟨rfl, rfl⟩, rfl⟩
  | @cons k v u ys ks vus rv t ih =>
    cases r with
    | @cons _ _ d ds rd rt =>
      have e := hk k List.mem_cons_self
      by_cases hh : kf k = kf x
      · rw [decide_eq_true hh] at e
        have e1 : valueAt ((kf k, u) :: ys) (kf x) = some u := by simp [valueAt, List.find?_cons, hh]
        exact ⟨.inl ⟨d, v, u, by simp [lkK, ← e], e1, rv, rd⟩, by rw [e1]; simp [memK, ← e]⟩
      · rw [decide_eq_false hh] at e
        have e1 : valueAt ((kf k, u) :: ys) (kf x) = valueAt ys (kf x) := by simp [valueAt, List.find?_cons, hh]
        obtain ⟨i1, i2⟩ := ih rt fun k hk' => hk k (List.mem_cons_of_mem _ hk')
        refine ⟨?_, by rw [e1]; simp [memK, ← e, i2]⟩
        rw [e1]
        simpa [lkK, ← e] using i1
theorem AL.len {ys : List (κ × Value)} {ks : List D} {vus : List V} (h : AL kf ys ks vus) : ys.length = ks.length ∧ ys.length = vus.length := by
  induction h with
  | nil => exact ⟨rfl, rfl⟩
  | cons _ _ ih => simp only [List.length_cons]; omega
theorem AL.keys {ys : List (κ × Value)} {ks : List D} {vus : List V} (h : AL kf ys ks vus) : ys.map (·.1) = ks.map kf := by
  induction h with
  | nil => rfl
  | cons _ _ ih => simp [ih]
theorem AL.snoc {ys : List (κ × Value)} {ks : List D} {vus : List V} {k : D} {v : V} {u : Value} (h : AL kf ys ks vus) (r : RelV v u) : AL kf (ys ++ [(kf k, u)]) (ks ++ [k]) (vus ++ [v]) := by
  induction h with
  | nil => exact .cons r .nil
  | cons a _ ih => exact .cons a ih
/-- a value is put at a key that is there -/
theorem AL.putAt {x : D} {v : V} {u : Value} {ys : List (κ × Value)} {ks ds : List D} {vus : List V} {d : D} (h : AL kf ys ks vus) (nd : (ys.map (·.1)).Nodup) (r : RepL K H ds vus) (hk : ∀ k ∈ ks, decide (kf k = kf x) = eqD k x) (hm : memK x ks = true) (rv : RelV v u) (rd : Rep K H d v) :
    ∃ vus', AL kf (ys.map fun kv => if kv.1 = kf x then (kv.1, u) else kv) ks vus' ∧ RepL K H (putV ks ds x d) vus' := by
  induction h generalizing ds with
  | nil => simp [memK] at hm
  | @cons k v0 u0 ys ks vus rv0 t ih =>
    cases r with
    | @cons _ _ d0 ds rd0 rt =>
      have e := hk k List.mem_cons_self
      rw [List.map_cons, List.nodup_cons] at nd
      by_cases hh : kf k = kf x
      · rw [decide_eq_true hh] at e
        have e1 : (ys.map fun kv => if kv.1 = kf x then (kv.1, u) else kv) = ys := map_store_of_not_mem ys (kf x) u (by rw [← hh]; exact nd.1)
        refine ⟨v :: vus, ?_, ?_⟩
        · rw [List.map_cons, e1]; simp only [hh, if_true]; rw [← hh]; exact .cons rv t
        · simp only [putV, ← e, if_true]; exact .cons rd rt
      · rw [decide_eq_false hh] at e
        obtain ⟨vus', i1, i2⟩ := ih nd.2 rt (fun k hk' => hk k (List.mem_cons_of_mem _ hk')) (by simpa [memK, ← e] using hm)
        refine ⟨v0 :: vus', ?_, ?_⟩
        · rw [List.map_cons]; simp only [hh, if_false]; exact .cons rv0 i1
        · simp only [putV, ← e, Bool.false_eq_true, if_false]; exact .cons rd0 i2
theorem AL.put {x : D} {v : V} {u : Value} {ys : List (κ × Value)} {ks ds : List D} {vus : List V} {d : D} (h : AL kf ys ks vus) (nd : (ys.map (·.1)).Nodup) (r : RepL K H ds vus) (hk : ∀ k ∈ ks, decide (kf k = kf x) = eqD k x) (rv : RelV v u) (rd : Rep K H d v) :
    ∃ vus', AL kf (stored ys (kf x) u) (putD ks ds x d).1 vus' ∧ RepL K H (putD ks ds x d).2 vus' := by
  have e : (ys.any fun kv => decide (kv.1 = kf x)) = memK x ks := by
    rw [(h.look r hk).2, valueAt, Option.isSome_map]
    cases q : ys.find? fun kv => decide (kv.1 = kf x) with
    | none =>
      rw [List.find?_eq_none] at q
      simp only [Option.isSome_none, List.any_eq_false]
      exact q
    | some p =>
      simp only [Option.isSome_some, List.any_eq_true]
      exact ⟨p, List.mem_of_find?_eq_some q, by have := List.find?_some q; exact this⟩
  unfold stored putD
  by_cases hm : memK x ks = true
  · rw [if_pos (by rw [e]; exact hm), if_pos hm]
    exact h.putAt nd r hk hm rv rd
  · rw [if_neg (by rw [e]; exact hm), if_neg hm]
    exact ⟨vus ++ [v], h.snoc rv, r.append (.cons rd .nil)⟩
end
theorem memK_map {κ : Type} [inst : DecidableEq κ] {kf : D → κ} {x : D} : ∀ {ks : List D}, (∀ k ∈ ks, decide (kf k = kf x) = eqD k x) → memK x ks = decide (kf x ∈ ks.map kf)
  | [], _ => rfl
  | k :: ks, h => by
    have e := h k List.mem_cons_self
    rw [memK, memK_map fun k hk => h k (List.mem_cons_of_mem _ hk), ← e, List.map_cons]
    by_cases h1 : kf k = kf x
    · simp [h1]
    · have h2 : ¬ kf x = kf k := fun z => h1 z.symm
      simp [h1, h2]
theorem memK_iff {κ : Type} [DecidableEq κ] {kf : D → κ} {x : D} {ks : List D} (h : ∀ k ∈ ks, decide (kf k = kf x) = eqD k x) : memK x ks = true ↔ kf x ∈ ks.map kf := by
  rw [memK_map h, decide_eq_true_iff]
theorem nd_of {κ : Type} [DecidableEq κ] {kf : D → κ} : ∀ {ks : List D}, (∀ a ∈ ks, ∀ b ∈ ks, decide (kf a = kf b) = eqD a b) → ndK ks = true → (ks.map kf).Nodup
  | [], _, _ => List.nodup_nil
  | k :: ks, h, hn => by
    simp only [ndK, Bool.and_eq_true, Bool.not_eq_true'] at hn
    rw [List.map_cons, List.nodup_cons]
    refine ⟨fun z => ?_, nd_of (fun a ha b hb => h a (List.mem_cons_of_mem _ ha) b (List.mem_cons_of_mem _ hb)) hn.2⟩
    have e := memK_map (kf := kf) (x := k) (ks := ks) fun a ha => h a (List.mem_cons_of_mem _ ha) k List.mem_cons_self
    rw [hn.1] at e
    exact (of_decide_eq_false e.symm) z
theorem nd_back {κ : Type} [DecidableEq κ] {kf : D → κ} : ∀ {ks : List D}, (∀ a ∈ ks, ∀ b ∈ ks, decide (kf a = kf b) = eqD a b) → (ks.map kf).Nodup → ndK ks = true
  | [], _, _ => rfl
  | k :: ks, h, hn => by
    rw [List.map_cons, List.nodup_cons] at hn
    simp only [ndK, Bool.and_eq_true, Bool.not_eq_true']
    refine ⟨?_, nd_back (fun a ha b hb => h a (List.mem_cons_of_mem _ ha) b (List.mem_cons_of_mem _ hb)) hn.2⟩
    rw [memK_map (kf := kf) fun a ha => h a (List.mem_cons_of_mem _ ha) k List.mem_cons_self]
    exact decide_eq_false hn.1
theorem putD_len (ks vs : List D) (x y : D) : (putD ks vs x y).1.length ≤ ks.length + 1 := by
  unfold putD
  split
  · simp
  · simp
theorem putD_keys {c : Bool} {ks vs : List D} {x y : D} (h : keysB c ks = true) (hx : kcB c x = true) : keysB c (putD ks vs x y).1 = true := by
  unfold putD
  by_cases hm : memK x ks = true
  · rw [if_pos hm]; exact h
  · rw [if_neg hm]
    simp only [keysB, Bool.and_eq_true, List.all_append, List.all_cons, List.all_nil, Bool.and_true] at h ⊢
    refine ⟨⟨h.1, hx⟩, ?_⟩
    cases c with
    | true =>
      have dec : ∀ a ∈ ks ++ [x], ∀ b ∈ ks ++ [x], decide (nk a = nk b) = eqD a b := fun a ha b hb => nk_dec (kc_hsb (c := true) (by
        rcases List.mem_append.mp ha with z | z
        · exact List.all_eq_true.mp h.1 a z
        · simp at z; rw [z]; exact hx)) (kc_hsb (c := true) (by
        rcases List.mem_append.mp hb with z | z
        · exact List.all_eq_true.mp h.1 b z
        · simp at z; rw [z]; exact hx))
      refine nd_back (kf := nk) dec ?_
      rw [List.map_append, List.nodup_append]
      refine ⟨nd_of (fun a ha b hb => dec a (List.mem_append_left _ ha) b (List.mem_append_left _ hb)) h.2, by simp, fun a ha b hb e => ?_⟩
      simp only [List.map_cons, List.map_nil, List.mem_singleton] at hb
      subst hb
      exact hm ((memK_iff (kf := nk) fun a ha => dec a (List.mem_append_left _ ha) x (by simp)).mpr (e ▸ ha))
    | false =>
      have dec : ∀ a ∈ ks ++ [x], ∀ b ∈ ks ++ [x], decide (kD a = kD b) = eqD a b := fun a ha b hb => kD_dec (by
        rcases List.mem_append.mp ha with z | z
        · exact List.all_eq_true.mp h.1 a z
        · simp at z; rw [z]; exact hx) (by
        rcases List.mem_append.mp hb with z | z
        · exact List.all_eq_true.mp h.1 b z
        · simp at z; rw [z]; exact hx)
      refine nd_back (kf := kD) dec ?_
      rw [List.map_append, List.nodup_append]
      refine ⟨nd_of (fun a ha b hb => dec a (List.mem_append_left _ ha) b (List.mem_append_left _ hb)) h.2, by simp, fun a ha b hb e => ?_⟩
      simp only [List.map_cons, List.map_nil, List.mem_singleton] at hb
      subst hb
      exact hm ((memK_iff (kf := kD) fun a ha => dec a (List.mem_append_left _ ha) x (by simp)).mpr (e ▸ ha))
end Sh

/-! dicts: what is read, what is written -/
namespace Sh
open PySem PySem.Spec PyProof.Rows L2

theorem atKey_val {κ : Type} [DecidableEq κ] (k : κ) : ∀ xs : List (κ × Addr × Value), (atKey xs k).map (·.2) = valueAt (xs.map fun x => (x.1, x.2.2)) k
  | [] => rfl
  | x :: r => by
    have ih := atKey_val k r
    by_cases h : x.1 = k
    · simp [atKey, valueAt, List.find?_cons, h]
    · simp only [atKey, valueAt, List.find?_cons, h, decide_false, List.map_cons] at ih ⊢
      exact ih
theorem storedH_val {κ : Type} [DecidableEq κ] (k : κ) (b : Addr) (u : Value) (xs : List (κ × Addr × Value)) : (storedH xs k b u).map (fun x => (x.1, x.2.2)) = stored (xs.map fun x => (x.1, x.2.2)) k u := by
  have e1 : ((xs.map fun x => (x.1, x.2.2)).any fun kv => decide (kv.1 = k)) = (atKey xs k).isSome := by
    induction xs with
    | nil => rfl
    | cons x r ih =>
      by_cases h : x.1 = k
      · simp [atKey, h]
      · have : (atKey (x :: r) k) = atKey r k := by simp [atKey, List.find?_cons, h]
        rw [this, ← ih]; simp [h]
  unfold storedH stored
  rw [e1]
  by_cases h : (atKey xs k).isSome = true
  · rw [if_pos h, if_pos h, List.map_map, List.map_map]
    refine List.map_congr_left fun x _ => ?_
    simp only [Function.comp, putAt]
    split <;> rfl
  · rw [if_neg h, if_neg h, List.map_append]; rfl
theorem storedH_adr {κ : Type} [DecidableEq κ] (k : κ) (b : Addr) (u : Value) (xs : List (κ × Addr × Value)) : (storedH xs k b u).map (fun x => V.ref x.2.1) = if (atKey xs k).isSome = true then xs.map (fun x => V.ref x.2.1) else xs.map (fun x => V.ref x.2.1) ++ [.ref b] := by
  unfold storedH
  by_cases h : (atKey xs k).isSome = true
  · rw [if_pos h, if_pos h, List.map_map]
    refine List.map_congr_left fun x _ => ?_
    simp only [Function.comp, putAt]
    split <;> rfl
  · rw [if_neg h, if_neg h, List.map_append]; rfl
theorem Ents.len {w : World} {es : List DictEntry} {ks : List D} {kus vus : List V} (h : Ents w es ks kus vus) : es.length = ks.length := by
  induction h with
  | nil => rfl
  | cons _ _ _ _ ih => simp [ih]
theorem repL_kV {K : KW} {H : Hp} : ∀ {ks : List D} {kus : List V}, RepL K H ks kus → ks.all (kcB false) = true → kus = ks.map (fun k => kV (kD k))
  | _, _, .nil, _ => rfl
  | _, _, .cons r t, h => by
    simp only [List.all_cons, Bool.and_eq_true] at h
    rw [List.map_cons, rep_kV r h.1, repL_kV t h.2]
theorem ents_true {X : Cx} {pins : List (Addr × Obj)} {σ : L2.St} {H : Hp} {s : Shared} (I : Inv X pins σ H s) : ∀ {es : List DictEntry} {ks : List D} {kus vus : List V}, Ents X.w es ks kus vus → RepL X.KK H ks kus → ks.all (kcB true) = true →
    ∃ xs : List (NestedKey × Addr × Value), es = xs.map (entryOfKey (nestedKind X.prog X.w)) ∧ AL nk (xs.map fun x => (x.1, x.2.2)) ks vus ∧ xs.map (fun x => V.ref x.2.1) = kus ∧ ∀ x ∈ xs, (nestedKind X.prog X.w).is s.heap x.1 x.2.1
  | _, _, _, _, .nil, _, _ => ⟨[], rfl, .nil, rfl, fun x hx => by simp at hx⟩
  | _, _, _, _, @Ents.cons _ e es k ks ku vu kus vus h1 h2 h3 t, .cons r rt, h => by
    simp only [List.all_cons, Bool.and_eq_true] at h
    obtain ⟨xs, e1, e2, e3, e4⟩ := ents_true I t rt h.2
    obtain ⟨b, rfl⟩ := rep_ref r h.1
    have hk : e.key = .ref b := h2
    refine ⟨(nk k, b, e.val) :: xs, ?_, .cons h3 e2, by rw [List.map_cons, e3], fun x hx => ?_⟩
    · rw [List.map_cons, ← e1]
      refine congrArg (· :: es) ?_
      show e = ⟨(nk k).hash X.w, .ref b, e.val⟩
      rw [← h1, ← hk]
    · rcases List.mem_cons.mp hx with rfl | hx
      · exact ⟨rep_nested I r (kc_hsb h.1) rfl, by rw [nk_depth k (kc_hsb h.1)]; exact kc_dep h.1⟩
      · exact e4 x hx
theorem ents_true_back {P : Program} {w : World} : ∀ {xs : List (NestedKey × Addr × Value)} {ks : List D} {vus : List V}, AL nk (xs.map fun x => (x.1, x.2.2)) ks vus → Ents w (xs.map (entryOfKey (nestedKind P w))) ks (xs.map fun x => V.ref x.2.1) vus
  | [], _, _, h => by cases h; exact .nil
  | x :: xs, _, _, h => by
    obtain ⟨x1, b, u⟩ := x
    rw [List.map_cons] at h
    cases h with
    | cons r t => exact .cons rfl rfl r (ents_true_back t)
theorem ents_false {P : Program} {w : World} : ∀ {es : List DictEntry} {ks : List D} {kus vus : List V}, Ents w es ks kus vus → kus = ks.map (fun k => kV (kD k)) → ks.all (kcB false) = true →
    ∃ ys : List (Key × Value), Pairs (mixKind P w) es ys ∧ AL kD ys ks vus ∧ ∀ e ∈ es, ∃ k, (mixKind P w).is k e.key = true ∧ e.hash = (mixKind P w).hash k
  | _, _, _, _, .nil, _, _ => ⟨[], .nil, .nil, fun e he => by simp at he⟩
  | _, _, _, _, @Ents.cons _ e es k ks ku vu kus vus h1 h2 h3 t, hk, h => by
    simp only [List.all_cons, Bool.and_eq_true] at h
    rw [List.map_cons] at hk
    injection hk with hk1 hk2
    subst hk1
    obtain ⟨ys, e1, e2, e3⟩ := ents_false (P := P) t hk2 h.2
    have hi : (mixKind P w).is (kD k) e.key = true := kV_is h2
    refine ⟨(kD k, e.val) :: ys, .cons hi rfl e1, .cons h3 e2, fun x hx => ?_⟩
    rcases List.mem_cons.mp hx with rfl | hx
    · exact ⟨kD k, hi, h1.trans (kD_hash h.1)⟩
    · exact e3 x hx
theorem ents_false_back {P : Program} {w : World} {es : List DictEntry} {ys : List (Key × Value)} (p : Pairs (mixKind P w) es ys) : ∀ {ks : List D} {vus : List V}, (∀ e ∈ es, ∃ k, (mixKind P w).is k e.key = true ∧ e.hash = (mixKind P w).hash k) → AL kD ys ks vus → ks.all (kcB false) = true → Ents w es ks (ks.map fun k => kV (kD k)) vus := by
  induction p with
  | nil => intro ks vus _ al _; cases al; exact .nil
  | @cons e kv es kvs p1 p2 pt ih =>
    intro ks vus hh al h
    cases al with
    | cons r t =>
      simp only [List.all_cons, Bool.and_eq_true] at h
      obtain ⟨k', q1, q2⟩ := hh e List.mem_cons_self
      have ek : k' = kD _ := (mixKind P w).inj _ _ _ q1 p1
      subst ek
      refine .cons (q2.trans (kD_hash h.1).symm) (relV_key p1) ?_ (ih (fun x hx => hh x (List.mem_cons_of_mem _ hx)) t h.2)
      rw [p2]; exact r
section
variable {X : Cx} {pins : List (Addr × Obj)} {σ : L2.St} {H : Hp} {s : Shared} {a : Addr} {es : List DictEntry} {c : Bool} {ks ds : List D} {kus vus : List V}
/-- the dict at a -/
structure DAt (K : KW) (H : Hp) (a : Addr) (es : List DictEntry) (c : Bool) (ks ds : List D) (kus vus : List V) : Prop where
  sys : (a == sysModules) = false
  len : es.length ≤ sizeLine
  keys : keysB c ks = true
  ents : Ents K.w es ks kus vus
  rk : RepL K H ks kus
  rv : RepL K H ds vus
theorem DAt.all {K : KW} (d : DAt K H a es c ks ds kus vus) : ks.all (kcB c) = true := by
  have := d.keys
  simp only [keysB, Bool.and_eq_true] at this
  exact this.1
theorem DAt.nd {K : KW} (d : DAt K H a es c ks ds kus vus) : ndK ks = true := by
  have := d.keys
  simp only [keysB, Bool.and_eq_true] at this
  exact this.2
theorem Is.dctA {K : KW} {v : V} (r : Is K H (.dct c ks ds) v) : ∃ a es kus vus, v = .ref a ∧ Rd H a (DctAt a es) ∧ DAt K H a es c ks ds kus vus := by
  obtain ⟨a, es, kus, vus, h1, h2, h3, h4, h5, h6, h7, h8⟩ := r.dctR
  exact ⟨a, es, kus, vus, h1, h2, ⟨h3, h4, h5, h6, h7, h8⟩⟩
/-- the raw object -/
theorem dct_raw (I : Inv X pins σ H s) (rd : Rd H a (DctAt a es)) : ∃ o ea ep, s.heap.get? a = some o ∧ o.ExactDict ∧ o.data = .dict ea ep ∧ ea.toList = es := (rd.ok I.hok).1
theorem dec_true {d : D} (hall : ks.all (kcB true) = true) (hx : kcB true d = true) : ∀ k ∈ ks, decide (nk k = nk d) = eqD k d := fun k hk => nk_dec (kc_hsb (List.all_eq_true.mp hall k hk)) (kc_hsb hx)
theorem dec_false {d : D} (hall : ks.all (kcB false) = true) (hx : kcB false d = true) : ∀ k ∈ ks, decide (kD k = kD d) = eqD k d := fun k hk => kD_dec (List.all_eq_true.mp hall k hk) hx
theorem dictH (I : Inv X pins σ H s) (rd : Rd H a (DctAt a es)) (d : DAt X.KK H a es true ks ds kus vus) : ∃ xs, s.heap.DictOfH (nestedKind X.prog X.w) a xs ∧ AL nk (xs.map fun x => (x.1, x.2.2)) ks vus ∧ xs.map (fun x => V.ref x.2.1) = kus ∧ xs.length = es.length := by
  obtain ⟨o, ea, ep, h1, h2, h3, h4⟩ := dct_raw I rd
  obtain ⟨xs, e1, e2, e3, e4⟩ := ents_true I d.ents d.rk d.all
  refine ⟨xs, ⟨o, ea, ep, h1, h2, h3, h4.trans e1, e4, ?_⟩, e2, e3, by rw [e1, List.length_map]⟩
  have := e2.keys
  rw [List.map_map] at this
  rw [show xs.map (·.1) = xs.map ((·.1) ∘ fun x => (x.1, x.2.2)) from rfl, this]
  exact nd_of (fun a ha b hb => nk_dec (kc_hsb (List.all_eq_true.mp d.all a ha)) (kc_hsb (List.all_eq_true.mp d.all b hb))) d.nd
theorem dictF (I : Inv X pins σ H s) (rd : Rd H a (DctAt a es)) (d : DAt X.KK H a es false ks ds kus vus) : ∃ ys, s.heap.DictOf (mixKind X.prog X.w) a ys ∧ AL kD ys ks vus ∧ ys.length = es.length := by
  obtain ⟨o, ea, ep, h1, h2, h3, h4⟩ := dct_raw I rd
  obtain ⟨ys, e1, e2, e3⟩ := ents_false (P := X.prog) d.ents (repL_kV d.rk d.all) d.all
  refine ⟨ys, ⟨o, ea, ep, h1, h2, h3, fun e he => e3 e (by rw [← h4]; exact Array.mem_toList_iff.mpr he), by rw [h4]; exact e1, ?_⟩, e2, e1.length.symm⟩
  rw [e2.keys]
  exact nd_of (fun a ha b hb => kD_dec (List.all_eq_true.mp d.all a ha) (List.all_eq_true.mp d.all b hb)) d.nd
theorem dct_sys (I : Inv X pins σ H s) (rd : Rd H a (DctAt a es)) : s.TypeIs (.ref a) "dict" ∧ ∀ b, Value.ref a = .ref b → ∃ ob, s.heap.get? b = some ob ∧ ob.dict = none := by
  obtain ⟨o, ea, ep, h1, h2, h3, h4⟩ := dct_raw I rd
  exact ⟨⟨o, h1, h2.1⟩, fun b e => by cases e; exact ⟨o, h1, h2.2.1⟩⟩
variable {A : Around} {E : Value → Shared → Prop} {k : D} {kv : V} {u : Value}
/-- d[k], there -/
theorem x_getItem {d : D} {Q : Value → Shared → Prop} (hu : A.units + 9 < cLine) (I : Inv X pins σ H s) (rd : Rd H a (DctAt a es)) (dt : DAt X.KK H a es c ks ds kus vus) (hc : kcB c k = true) (rk : Rep X.KK H k kv) (ru : RelV kv u) (hl : lkK ks ds k = some d)
    (h : ∀ v w' s', Inv X pins σ H s' → RelV v w' → Rep X.KK H d v → Q w' s') : wpAny (model X.prog X.w) A (getItem (.ref a) u) Q E s := by
  cases c with
  | true =>
    obtain ⟨xs, dd, al, _, _⟩ := dictH I rd dt
    obtain ⟨b, rfl⟩ := rep_ref rk hc
    obtain rfl : u = .ref b := ru
    obtain ⟨hlk, _⟩ := al.look dt.rv (dec_true dt.all hc)
    rcases hlk with ⟨d', v, u', h1, h2, h3, h4⟩ | ⟨h1, _⟩
    · rw [hl] at h1; cases h1
      rw [← atKey_val] at h2
      obtain ⟨p, hp, hp2⟩ := Option.map_eq_some_iff.mp h2
      refine wpAny_getItem_heap (knd := nestedKind X.prog X.w) (by show A.in1.units + 8 < cLine; simp only [Around.in1_units]; omega) ⟨rep_nested I rk (kc_hsb hc) rfl, by rw [nk_depth k (kc_hsb hc)]; exact kc_dep hc⟩ dd hp ?_
      rw [hp2]
      exact h v u' _ (I.tok _) h3 h4
    · rw [hl] at h1; cases h1
  | false =>
    obtain ⟨ys, dd, al, _⟩ := dictF I rd dt
    obtain rfl := rep_kV rk hc
    obtain ⟨hlk, _⟩ := al.look dt.rv (dec_false dt.all hc)
    rcases hlk with ⟨d', v, u', h1, h2, h3, h4⟩ | ⟨h1, _⟩
    · rw [hl] at h1; cases h1
      exact wpAny_getItem_of (kV_is ru) dd.mapOf h2 (h v u' _ (I.tok _) h3 h4)
    · rw [hl] at h1; cases h1
/-- k in d -/
theorem x_in {Q : Value → Shared → Prop} (hu : A.units + 9 < cLine) (I : Inv X pins σ H s) (rd : Rd H a (DctAt a es)) (dt : DAt X.KK H a es c ks ds kus vus) (hc : kcB c k = true) (rk : Rep X.KK H k kv) (ru : RelV kv u)
    (h : ∀ s', Inv X pins σ H s' → Q (.bool (memK k ks)) s') : wpAny (model X.prog X.w) A (compareOp .In u (.ref a)) Q E s := by
  cases c with
  | true =>
    obtain ⟨xs, dd, al, _, _⟩ := dictH I rd dt
    obtain ⟨b, rfl⟩ := rep_ref rk hc
    obtain rfl : u = .ref b := ru
    obtain ⟨_, hm⟩ := al.look dt.rv (dec_true dt.all hc)
    refine wpAny_in_heap (knd := nestedKind X.prog X.w) (by show A.in1.units + 8 < cLine; simp only [Around.in1_units]; omega) ⟨rep_nested I rk (kc_hsb hc) rfl, by rw [nk_depth k (kc_hsb hc)]; exact kc_dep hc⟩ dt.sys dd ?_
    rw [← atKey_val, Option.isSome_map] at hm
    rw [← hm]
    exact h _ (I.tok _)
  | false =>
    obtain ⟨ys, dd, al, _⟩ := dictF I rd dt
    obtain rfl := rep_kV rk hc
    obtain ⟨_, hm⟩ := al.look dt.rv (dec_false dt.all hc)
    refine wpAny_in_of (kV_is ru) dt.sys dd.mapOf ?_
    rw [← hm]
    exact h _ (I.tok _)
/-- k not in d -/
theorem x_nin {Q : Value → Shared → Prop} (hu : A.units + 9 < cLine) (I : Inv X pins σ H s) (rd : Rd H a (DctAt a es)) (dt : DAt X.KK H a es c ks ds kus vus) (hc : kcB c k = true) (rk : Rep X.KK H k kv) (ru : RelV kv u)
    (h : ∀ s', Inv X pins σ H s' → Q (.bool (!memK k ks)) s') : wpAny (model X.prog X.w) A (compareOp .NotIn u (.ref a)) Q E s := by
  cases c with
  | true =>
    obtain ⟨xs, dd, al, _, _⟩ := dictH I rd dt
    obtain ⟨b, rfl⟩ := rep_ref rk hc
    obtain rfl : u = .ref b := ru
    obtain ⟨_, hm⟩ := al.look dt.rv (dec_true dt.all hc)
    refine wpAny_notIn_heap (knd := nestedKind X.prog X.w) (by show A.in1.units + 8 < cLine; simp only [Around.in1_units]; omega) ⟨rep_nested I rk (kc_hsb hc) rfl, by rw [nk_depth k (kc_hsb hc)]; exact kc_dep hc⟩ dt.sys dd ?_
    rw [← atKey_val, Option.isSome_map] at hm
    rw [← hm]
    exact h _ (I.tok _)
  | false =>
    obtain ⟨ys, dd, al, _⟩ := dictF I rd dt
    obtain rfl := rep_kV rk hc
    obtain ⟨_, hm⟩ := al.look dt.rv (dec_false dt.all hc)
    refine wpAny_notIn_of (kV_is ru) dt.sys dd.mapOf ?_
    rw [← hm]
    exact h _ (I.tok _)
/-- d.get(k) -/
theorem x_get1 {Q : Value → Shared → Prop} (hu : A.units + 9 < cLine) (I : Inv X pins σ H s) (rd : Rd H a (DctAt a es)) (dt : DAt X.KK H a es c ks ds kus vus) (hc : kcB c k = true) (rk : Rep X.KK H k kv) (ru : RelV kv u)
    (h : ∀ v w' s', Inv X pins σ H s' → RelV v w' → Rep X.KK H ((lkK ks ds k).getD .non) v → Q w' s') : wpAny (model X.prog X.w) A (call (.builtin "dict.get") [.ref a, u]) Q E s := by
  have ht := (dct_sys I rd).1
  cases c with
  | true =>
    obtain ⟨xs, dd, al, _, _⟩ := dictH I rd dt
    obtain ⟨b, rfl⟩ := rep_ref rk hc
    obtain rfl : u = .ref b := ru
    obtain ⟨hlk, _⟩ := al.look dt.rv (dec_true dt.all hc)
    refine call_meetsIn PySem.F.slot_dict_get ht PySem.F.entry_dict_get (PySem.F.args_dict_get_2 _ _) (meetsH_dict_get (nestedKind X.prog X.w) a b dt.sys) ⟨by show A.in1.units + 8 < cLine; simp only [Around.in1_units]; omega, nk k, xs, ⟨rep_nested I rk (kc_hsb hc) rfl, by rw [nk_depth k (kc_hsb hc)]; exact kc_dep hc⟩, dd, ?_⟩
    rw [atKey_val]
    rcases hlk with ⟨d', v, u', h1, h2, h3, h4⟩ | ⟨h1, h2⟩
    · rw [h2]; exact h v _ _ (I.tok _) h3 (by rw [h1]; exact h4)
    · rw [h2]; exact h .non _ _ (I.tok _) rfl (by rw [h1]; exact .non)
  | false =>
    obtain ⟨ys, dd, al, _⟩ := dictF I rd dt
    obtain rfl := rep_kV rk hc
    obtain ⟨hlk, _⟩ := al.look dt.rv (dec_false dt.all hc)
    refine call_meetsIn PySem.F.slot_dict_get ht PySem.F.entry_dict_get (PySem.F.args_dict_get_2 _ _) (meets_dict_get (mixKind X.prog X.w) a (kV_is ru) dt.sys) ⟨_, dd.mapOf, ?_⟩
    rcases hlk with ⟨d', v, u', h1, h2, h3, h4⟩ | ⟨h1, h2⟩
    · rw [h2]; exact h v _ _ (I.tok _) h3 (by rw [h1]; exact h4)
    · rw [h2]; exact h .non _ _ (I.tok _) rfl (by rw [h1]; exact .non)
/-- d.get(k, x) -/
theorem x_get2 {z : D} {zv : V} {zu : Value} {Q : Value → Shared → Prop} (hu : A.units + 9 < cLine) (I : Inv X pins σ H s) (rd : Rd H a (DctAt a es)) (dt : DAt X.KK H a es c ks ds kus vus) (hc : kcB c k = true) (rk : Rep X.KK H k kv) (ru : RelV kv u) (rz : Rep X.KK H z zv) (rzu : RelV zv zu)
    (h : ∀ v w' s', Inv X pins σ H s' → RelV v w' → Rep X.KK H ((lkK ks ds k).getD z) v → Q w' s') : wpAny (model X.prog X.w) A (call (.builtin "dict.get") [.ref a, u, zu]) Q E s := by
  have ht := (dct_sys I rd).1
  cases c with
  | true =>
    obtain ⟨xs, dd, al, _, _⟩ := dictH I rd dt
    obtain ⟨b, rfl⟩ := rep_ref rk hc
    obtain rfl : u = .ref b := ru
    obtain ⟨hlk, _⟩ := al.look dt.rv (dec_true dt.all hc)
    refine call_meetsIn PySem.F.slot_dict_get ht PySem.F.entry_dict_get (PySem.F.args_dict_get_3 _ _ _) (meetsH_dict_get_default (nestedKind X.prog X.w) a b dt.sys zu) ⟨by show A.in1.units + 8 < cLine; simp only [Around.in1_units]; omega, nk k, xs, ⟨rep_nested I rk (kc_hsb hc) rfl, by rw [nk_depth k (kc_hsb hc)]; exact kc_dep hc⟩, dd, ?_⟩
    rw [atKey_val]
    rcases hlk with ⟨d', v, u', h1, h2, h3, h4⟩ | ⟨h1, h2⟩
    · rw [h2]; exact h v _ _ (I.tok _) h3 (by rw [h1]; exact h4)
    · rw [h2]; exact h zv _ _ (I.tok _) rzu (by rw [h1]; exact rz)
  | false =>
    obtain ⟨ys, dd, al, _⟩ := dictF I rd dt
    obtain rfl := rep_kV rk hc
    obtain ⟨hlk, _⟩ := al.look dt.rv (dec_false dt.all hc)
    refine call_meetsIn PySem.F.slot_dict_get ht PySem.F.entry_dict_get (PySem.F.args_dict_get_3 _ _ _) (meets_dict_get_default (mixKind X.prog X.w) a (kV_is ru) dt.sys zu) ⟨_, dd.mapOf, ?_⟩
    rcases hlk with ⟨d', v, u', h1, h2, h3, h4⟩ | ⟨h1, h2⟩
    · rw [h2]; exact h v _ _ (I.tok _) h3 (by rw [h1]; exact h4)
    · rw [h2]; exact h zv _ _ (I.tok _) rzu (by rw [h1]; exact rz)
/-- what the dict is behind d[k] = v -/
theorem x_new {h' : Heap} {es' : Array DictEntry} {o : Obj} {ep : Nat} {t' : Nat} (I : Inv X pins σ H s) (e : H a = some (DctAt a es)) (hs : Heap.SameBut a s.heap h') (h1 : h'.get? a = some o) (h2 : o.ExactDict) (h3 : o.data = .dict es' ep) :
    Inv X pins σ (upd H a (DctAt a es'.toList)) { s with heap := h', toks := t' } :=
  d_write I (by rw [e]; exact True.intro) hs ⟨o, h1⟩ ⟨⟨o, es', ep, h1, h2, h3, rfl⟩, ⟨o, h1⟩, fun g1 g2 ⟨o, ea, ep, q1, q2⟩ k => ⟨o, ea, ep, k o q1, q2⟩⟩
/-- d[k] = v -/
theorem x_setItem {d : D} {v : V} {r : Value} {Q : Unit → Shared → Prop} (hu : A.units + 9 < cLine) (I : Inv X pins σ H s) (e : H a = some (DctAt a es)) (dt : DAt X.KK H a es c ks ds kus vus) (hz : ks.length < sizeLine) (hc : kcB c k = true) (rk : Rep X.KK H k kv) (ru : RelV kv u) (rd : Rep X.KK H d v) (rv : RelV v r)
    (h : ∀ s' es' kus' vus', Inv X pins σ (upd H a (DctAt a es')) s' → DAt X.KK H a es' c (putD ks ds k d).1 (putD ks ds k d).2 kus' vus' → Q () s') : wpAny (model X.prog X.w) A (setItem (.ref a) u r) Q E s := by
  have hlen := dt.ents.len
  have hpl := putD_len ks ds k d
  cases c with
  | true =>
    obtain ⟨xs, dd, al, ha, hxl⟩ := dictH I (.inl e) dt
    obtain ⟨b, rfl⟩ := rep_ref rk hc
    obtain rfl : u = .ref b := ru
    have ndx : ((xs.map fun x => (x.1, x.2.2)).map (·.1)).Nodup := by
      rw [al.keys]; exact nd_of (fun a ha b hb => nk_dec (kc_hsb (List.all_eq_true.mp dt.all a ha)) (kc_hsb (List.all_eq_true.mp dt.all b hb))) dt.nd
    obtain ⟨vus', al', rv'⟩ := al.put ndx dt.rv (dec_true dt.all hc) rv rd
    refine wpAny_setItem_heap (knd := nestedKind X.prog X.w) (hsz := by omega) (by show A.in1.units + 8 < cLine; simp only [Around.in1_units]; omega) ⟨rep_nested I rk (kc_hsb hc) rfl, by rw [nk_depth k (kc_hsb hc)]; exact kc_dep hc⟩ dd fun h' dd' hs => ?_
    obtain ⟨o, es', ep, h1, h2, h3, h4, h5, h6⟩ := dd'
    rw [← storedH_val (nk k) b r xs] at al'
    have en := ents_true_back (P := X.prog) (w := X.w) al'
    refine h _ es'.toList ((storedH xs (nk k) b r).map fun x => V.ref x.2.1) vus' (x_new I e hs h1 h2 h3) ⟨dt.sys, ?_, putD_keys dt.keys hc, by rw [h4]; exact en, ?_, rv'⟩
    · rw [h4]; have := en.len; omega
    · rw [storedH_adr]
      have hm := (al.look dt.rv (dec_true dt.all hc)).2
      rw [← atKey_val, Option.isSome_map] at hm
      rw [← hm, ha]
      unfold putD
      by_cases q : memK k ks = true
      · rw [if_pos q, if_pos q]; exact dt.rk
      · rw [if_neg q, if_neg q]; exact dt.rk.append (.cons rk .nil)
  | false =>
    obtain ⟨ys, dd, al, hyl⟩ := dictF I (.inl e) dt
    obtain rfl := rep_kV rk hc
    have ndx : (ys.map (·.1)).Nodup := by
      rw [al.keys]; exact nd_of (fun a ha b hb => kD_dec (List.all_eq_true.mp dt.all a ha) (List.all_eq_true.mp dt.all b hb)) dt.nd
    obtain ⟨vus', al', rv'⟩ := al.put ndx dt.rv (dec_false dt.all hc) rv rd
    refine wpAny_setItem_pairs (hsz := by omega) (kV_is ru) dd fun h' dd' hs => ?_
    obtain ⟨o, es', ep, h1, h2, h3, h4, h5, h6⟩ := dd'
    have hk' : keysB false (putD ks ds k d).1 = true := putD_keys dt.keys hc
    have hall : (putD ks ds k d).1.all (kcB false) = true := by
      have := hk'
      simp only [keysB, Bool.and_eq_true] at this
      exact this.1
    have en := ents_false_back (P := X.prog) (w := X.w) h5 (fun x hx => h4 x (Array.mem_toList_iff.mp hx)) al' hall
    refine h _ es'.toList ((putD ks ds k d).1.map fun k => kV (kD k)) vus' (x_new I e hs h1 h2 h3) ⟨dt.sys, ?_, hk', en, ?_, rv'⟩
    · have := en.len; omega
    · have hold := repL_kV dt.rk dt.all
      unfold putD
      by_cases q : memK k ks = true
      · rw [if_pos q]; rw [← hold]; exact dt.rk
      · rw [if_neg q]
        show RepL X.KK H (ks ++ [k]) ((ks ++ [k]).map fun k => kV (kD k))
        rw [List.map_append, ← hold]; exact dt.rk.append (.cons rk .nil)
end
end Sh

/-! the evaluator's operations are the model's -/
namespace Sh
open PySem PySem.Spec PyProof.Rows L2

theorem okCp_append {x y : List Nat} (hx : okCp x = true) (hy : okCp y = true) : okCp (x ++ y) = true := by
  unfold okCp at *; rw [List.all_append, hx, hy]; rfl
theorem str_append (x y : List Nat) : (⟨x.toArray⟩ ++ ⟨y.toArray⟩ : Str) = ⟨(x ++ y).toArray⟩ := by
  show Str.mk _ = _
  simp
theorem str_length (x : List Nat) : Str.length ⟨x.toArray⟩ = x.length := by
  simp [Str.length]

/-- an operation by data -/
def rBin (K : KW) (o : Bop) : R2 := fun x y H Q => ∃ da db d, Is K H da x ∧ Is K H db y ∧ binD o da db = some d ∧ ∀ H' v, Same H H' → Rep K H' d v → Q v H'
section
variable {X : Cx}
theorem Inv.rdl {pins : List (Addr × Obj)} {σ : L2.St} {H : Hp} {s : Shared} {a : Addr} {vs : List V} (I : Inv X pins σ H s) (h : Rd H a (.lst vs)) :
    vs.length ≤ sizeLine ∧ ∃ (its : List Value) (n : Nat), Vals vs its ∧ vs.length = its.length ∧ s.heap.get? a = some { cls := .type "list", data := .seq its.toArray n } := by
  obtain ⟨z, its, n, r, e⟩ := h.ok I.hok
  exact ⟨z, its, n, r, r.length, e⟩
/-- a new list, frozen at once -/
theorem ep_frz {pins : List (Addr × Obj)} {σ : L2.St} {H : Hp} {s : Shared} {vs : List V} {its : List Value} {Q : VK} (I : Inv X pins σ H s) (rv : Vals vs its) (hz : vs.length ≤ sizeLine)
    (q : ∀ p o, H p = none → Q (.ref p) (upd H p (.frz o (.lst vs)))) : EP X pins σ Q (.ref s.heap.objs.size) { s with heap := s.heap.push { cls := .type "list", data := .seq its.toArray } } := by
  have hp : H s.heap.objs.size = none := I.hok.fresh (Nat.le_refl _)
  have I1 := I.lnew (t' := s.toks) rv hz
  obtain ⟨o, I2⟩ := Inv.freeze I1 (p := s.heap.objs.size) upd_same (fun _ z => by cases z) (fun _ _ z => by cases z) (fun _ z => by cases z) (fun _ z => by cases z) ⟨_, Heap.get?_push_size _ rfl⟩
  rw [upd_upd] at I2
  exact ⟨.ref _, _, I2, rfl, q _ o hp⟩
theorem same_of_frz {H : Hp} {p : Addr} {o : HO} (hp : H p = none) : Same H (upd H p o) := same_upd hp
theorem Rep.mkl {K : KW} {H : Hp} {p : Addr} {o : Obj} {ds : List D} {vs : List V} (hp : H p = none) (r : RepL K H ds vs) : Rep K (upd H p (.frz o (.lst vs))) (.lst ds) (.ref p) :=
  .lst ⟨o, upd_same⟩ (r.ext (.of_same (same_upd hp)))
theorem Rep.mkt {K : KW} {H : Hp} {p : Addr} {ds : List D} {vs : List V} (hp : H p = none) (r : RepL K H ds vs) : Rep K (upd H p (.tup vs)) (.tup ds) (.ref p) :=
  .tup (.inl (.inl upd_same)) (r.ext (.of_same (same_upd hp)))

/-- a list just made is frozen -/
theorem EP.frz {pins : List (Addr × Obj)} {σ : L2.St} {s : Shared} {Q : VK} {u : Value} (h : EP X pins σ (fun v H' => ∃ p vs, v = .ref p ∧ H' p = some (.lst vs) ∧ ∀ o, Q v (upd H' p (.frz o (.lst vs)))) u s) : EP X pins σ Q u s := by
  obtain ⟨v, H', I, r, p, vs, rfl, hp, q⟩ := h
  have ok := I.hok p _ hp
  obtain ⟨_, its, n, _, e⟩ := ok
  obtain ⟨o, I2⟩ := Inv.freeze I hp (fun _ z => by cases z) (fun _ _ z => by cases z) (fun _ z => by cases z) (fun _ z => by cases z) ⟨_, e⟩
  exact ⟨_, _, I2, r, q o⟩
theorem flat_cat {α : Type} (x y : List α) (h : x = []) : x ++ y = y := by rw [h]; rfl

theorem ob_add : OpR X (binaryOp .Add) (rBin X.KK .add) := by
  intro pins s σ H x y v u Q I rx ry hq
  obtain ⟨da, db, d, ia, ib, e, q⟩ := hq
  cases da <;> cases db <;> simp only [binD, reduceCtorEq] at e
  · rename_i i j
    cases e
    obtain rfl := ia.int
    obtain rfl := ib.int
    exact op_add pins s σ H _ _ v u Q I rx ry ⟨i, j, rfl, rfl, q H _ (Same.refl H) (.int _)⟩
  · rename_i i j
    split at e
    · rename_i hl
      cases e
      obtain ⟨rfl, o1⟩ := ia.str
      obtain ⟨rfl, o2⟩ := ib.str
      refine op_add_str pins s σ H _ _ v u Q I rx ry ⟨_, _, rfl, rfl, ?_, ?_⟩
      · rw [str_length, str_length, ← line_eq]; exact hl
      · rw [str_append]; exact q H _ (Same.refl H) (.str _ (okCp_append o1 o2))
    · cases e
  · rename_i i j
    split at e
    · rename_i hl
      cases e
      obtain ⟨a, vs, rfl, h1, r1⟩ := ia.tup
      obtain ⟨b, us, rfl, h2, r2⟩ := ib.tup
      have n1 := r1.length
      have n2 := r2.length
      refine op_catA pins s σ H _ _ v u Q I rx ry ⟨a, b, vs, us, rfl, rfl, h1, h2, ?_, fun z => ?_, fun _ z => ?_, fun _ _ p hp => ?_⟩
      · rw [← n1, ← n2, ← line_eq]; exact hl
      · subst z
        have : i = [] := List.length_eq_zero_iff.mp n1
        subst this
        exact q H _ (Same.refl H) (.tup h2 r2)
      · subst z
        have : j = [] := List.length_eq_zero_iff.mp n2
        subst this
        rw [List.append_nil] at q
        exact q H _ (Same.refl H) (.tup h1 r1)
      · exact q _ _ (same_upd hp) (.mkt hp (r1.append r2))
    · cases e
  · rename_i i j
    split at e
    · rename_i hl
      cases e
      obtain ⟨a, vs, rfl, h1, r1⟩ := ia.sq
      obtain ⟨b, us, rfl, h2, r2⟩ := ib.sq
      cases rx
      cases ry
      obtain ⟨z, its, n, r, hl1, e1⟩ := Inv.rdl I h1
      obtain ⟨z2, its2, n2, r', hl2, e2⟩ := Inv.rdl I h2
      have hz : vs.length + us.length ≤ sizeLine := by rw [← r1.length, ← r2.length, ← line_eq]; exact hl
      refine PySem.P.add_list e1 e2 ?_ (by rw [List.size_toArray, List.size_toArray]; omega)
      have ea : its.toArray ++ its2.toArray = (its ++ its2).toArray := by simp
      rw [ea]
      exact ep_frz I (r.append r') (by rw [List.length_append]; exact hz) fun p o hp => q _ _ (same_upd hp) (.mkl hp (r1.append r2))
    · cases e
theorem ob_sub : OpR X (binaryOp .Sub) (rBin X.KK .sub) := by
  intro pins s σ H x y v u Q I rx ry hq
  obtain ⟨da, db, d, ia, ib, e, q⟩ := hq
  cases da <;> cases db <;> simp only [binD, reduceCtorEq] at e
  rename_i i j
  cases e
  obtain rfl := ia.int
  obtain rfl := ib.int
  exact op_sub pins s σ H _ _ v u Q I rx ry ⟨i, j, rfl, rfl, q H _ (Same.refl H) (.int _)⟩
theorem Is.repk {K : KW} {H : Hp} {c : Bool} {d : D} {v : V} (i : Is K H d v) (h : kcB c d = true) : Rep K H d v := by
  cases i with
  | rep r => exact r
  | lst _ _ => cases c <;> simp [kcB] at h
  | dct => cases c <;> simp [kcB] at h
theorem b64_ok {i j : Int} (h : (b64 i || b64 j) = true) : CMul i j := by
  simp only [b64_iff, Bool.or_eq_true] at h
  exact h
theorem flatten_rep_length {α : Type} (x : List α) (k : Nat) : (List.replicate k x).flatten.length = x.length * k := by
  induction k with
  | zero => simp
  | succ k ih => simp [List.replicate_succ, ih, Nat.mul_succ, Nat.add_comm]
theorem okCp_rep {x : List Nat} (h : okCp x = true) : ∀ k : Nat, okCp (List.replicate k x).flatten = true
  | 0 => rfl
  | k + 1 => by rw [List.replicate_succ, List.flatten_cons]; exact okCp_append h (okCp_rep h k)
theorem foldl_repN (its : List Nat) : ∀ (k : Nat) (acc : List Nat),
    List.foldl (fun x1 x2 => x1 ++ x2) acc.toArray (List.replicate k its.toArray) = (acc ++ (List.replicate k its).flatten).toArray
  | 0, acc => by simp
  | k + 1, acc => by
    have e : acc.toArray ++ its.toArray = (acc ++ its).toArray := by simp
    have e2 : (acc ++ its) ++ (List.replicate k its).flatten = acc ++ (List.replicate (k + 1) its).flatten := by
      rw [List.replicate_succ, List.flatten_cons, List.append_assoc]
    rw [← e2, ← foldl_repN its k (acc ++ its), ← e, List.replicate_succ, List.foldl_cons]
theorem txt_mul (x : List Nat) (k : Int) : Txt.mul ⟨x.toArray⟩ k = ⟨(List.replicate k.toNat x).flatten.toArray⟩ := by
  unfold Txt.mul
  by_cases h1 : k < 1
  · have : k.toNat = 0 := by omega
    rw [if_pos h1, this]
    rfl
  · rw [if_neg h1]
    by_cases h2 : (k == 1 || Str.length ⟨x.toArray⟩ == 0) = true
    · rw [if_pos h2]
      simp only [Bool.or_eq_true, beq_iff_eq, str_length] at h2
      rcases h2 with h2 | h2
      · subst h2; simp
      · have : x = [] := List.length_eq_zero_iff.mp h2
        subst this
        have : ∀ n : Nat, (List.replicate n ([] : List Nat)).flatten = [] := fun n => by induction n with
          | zero => rfl
          | succ n ih => rw [List.replicate_succ, List.flatten_cons, ih]; rfl
        rw [this]
    · rw [if_neg h2]
      have := foldl_repN x k.toNat []
      simp only [List.nil_append] at this
      exact congrArg Str.mk this
/-- a tuple taken once, or an empty one: itself -/
theorem tup_once (l : Addr) (items : Array Value) (n : Nat) (sl : Array (Option Value)) (dd : Option Addr) (x : Int) (u : Tok) (c0 : (decide (x < -(2 ^ 63)) || decide (x ≥ 2 ^ 63)) = false) (c1 : (items.isEmpty || x == 1) = true) :
    Meets (Builtin.«tuple.__mul__» ⟨[.ref l, .int x u], []⟩) (fun _ R s => s.heap.get? l = some { cls := .type "tuple", dict := dd, data := .seq items n, slots := sl } ∧ R (.ok (.ret (Value.ref l))) s) :=
  .of_wp fun prog w A R s h => by
    obtain ⟨hp, g, d, tk, os⟩ := s
    obtain ⟨hl, h⟩ := h
    have f1 := AutoSeq1.idx_int
    wp_walk using wpAny_loadPart' hl
    repeat (first
      | (refine wpAny_ite_false (decide_eq_false (by rw [c0]; exact Bool.false_ne_true)) ?_; wp_walk using wpAny_loadPart' hl)
      | (refine wpAny_ite_true (decide_eq_true c1) ?_; wp_walk using wpAny_loadPart' hl))
    exact ⟨_, rfl, h⟩
/-- .. no time -/
theorem tup_never (l : Addr) (items : Array Value) (n : Nat) (sl : Array (Option Value)) (dd : Option Addr) (x : Int) (u : Tok) (c0 : (decide (x < -(2 ^ 63)) || decide (x ≥ 2 ^ 63)) = false) (c1 : (items.isEmpty || x == 1) = false) (c2 : (decide (x ≤ 0) || items.isEmpty) = true) :
    Meets (Builtin.«tuple.__mul__» ⟨[.ref l, .int x u], []⟩) (fun _ R s => s.heap.get? l = some { cls := .type "tuple", dict := dd, data := .seq items n, slots := sl } ∧
      R (.ok (.ret (Value.ref s.heap.objs.size))) { s with heap := s.heap.push { cls := Value.type "tuple", data := Data.seq #[] }, toks := s.toks }) :=
  .of_wp fun prog w A R s h => by
    obtain ⟨hp, g, d, tk, os⟩ := s
    obtain ⟨hl, h⟩ := h
    have f1 := AutoSeq1.idx_int
    wp_walk using wpAny_loadPart' hl
    repeat (first
      | (refine wpAny_ite_false (decide_eq_false (by rw [c0]; exact Bool.false_ne_true)) ?_; wp_walk using wpAny_loadPart' hl)
      | (refine wpAny_ite_false (decide_eq_false (by rw [c1]; exact Bool.false_ne_true)) ?_; wp_walk using wpAny_loadPart' hl)
      | (refine wpAny_ite_true (decide_eq_true c2) ?_; wp_walk using wpAny_loadPart' hl))
    exact ⟨_, rfl, h⟩
/-- a tuple so many times -/
theorem ob_tmul {pins : List (Addr × Obj)} {s : Shared} {σ : L2.St} {H : Hp} {l : Addr} {xs : List D} {vs : List V} {k : Int} {v u : Value} {Q : VK} (I : Inv X pins σ H s) (rx : RelV (.ref l) v) (ry : RelV (.int k) u) (hT : SqT X.KK H l vs) (rr : RepL X.KK H xs vs)
    (h1 : -(2 ^ 63) ≤ k) (h2 : k < 2 ^ 63) (h3 : xs.length * k.toNat ≤ line) (q : ∀ H' v, Same H H' → Rep X.KK H' (.tup (List.replicate k.toNat xs).flatten) v → Q v H') : wpAny (model X.prog X.w) X.A (binaryOp .Mult v u) (EP X pins σ Q) X.xe s := by
  obtain rfl : v = .ref l := rx
  obtain ⟨t, rfl⟩ := ry
  obtain ⟨its, r, ⟨⟨cls, dd, data, sl⟩, ho, hc, n, hd⟩, hs⟩ := I.tuple hT
  simp only at hc hd
  subst hc hd
  have hle : its.length = vs.length := r.length.symm
  have hlx : xs.length = vs.length := rr.length
  have c0 : (decide (k < -(2 ^ 63)) || decide (k ≥ 2 ^ 63)) = false := by
    rw [decide_eq_false (by omega), decide_eq_false (by omega)] <;> rfl
  have road : ∀ {R : Value → Shared → Prop}, wpAny (model X.prog X.w) X.A.in1 (call (.builtin "tuple.__mul__") [.ref l, .int k t]) R X.xe s → True := fun _ => trivial
  have hemp : its.toArray.isEmpty = vs.isEmpty := by
    cases r <;> rfl
  by_cases c1 : (its.toArray.isEmpty || k == 1) = true
  · refine wpAny_binaryOp_repeat_ref (T := "tuple") (U := "int") (by decide) ⟨_, ho, rfl⟩ (fun s' => typeIs_int s' k t) noFill_tuple_mul F.fills_int_mul F.slot_int_rmul repeat_tuple F.slot_int_index.lookup
      (call_meets F.slot_int_rmul (typeIs_int s k t) F.entry_int_rmul (F.args_int_rmul_2 _ _) (int_rmul_tuple k t l its.toArray n dd sl)
        ⟨ho, rfl, ⟨_, ho, rfl⟩, call_meets F.slot_tuple_mul ⟨_, ho, rfl⟩ F.entry_tuple_mul (F.args_tuple_mul_2 _ _) (tup_once l its.toArray n sl dd k t c0 c1) ⟨ho, ?_⟩⟩)
    refine ⟨.ref l, H, I, rfl, q H _ (Same.refl H) (.tup hT ?_)⟩
    rw [hemp, Bool.or_eq_true] at c1
    rcases c1 with c1 | c1
    · have hv : vs = [] := List.isEmpty_iff.mp c1
      subst hv
      cases rr
      have : ∀ m : Nat, (List.replicate m ([] : List D)).flatten = [] := fun m => by induction m with
        | zero => rfl
        | succ m ih => rw [List.replicate_succ, List.flatten_cons, ih]; rfl
      rw [this]; exact .nil
    · have hk : k = 1 := eq_of_beq c1
      subst hk
      have : (List.replicate (1 : Int).toNat xs).flatten = xs := by simp
      rw [this]; exact rr
  · have c1 : (its.toArray.isEmpty || k == 1) = false := by simpa using c1
    by_cases c2 : (decide (k ≤ 0) || its.toArray.isEmpty) = true
    · refine wpAny_binaryOp_repeat_ref (T := "tuple") (U := "int") (by decide) ⟨_, ho, rfl⟩ (fun s' => typeIs_int s' k t) noFill_tuple_mul F.fills_int_mul F.slot_int_rmul repeat_tuple F.slot_int_index.lookup
        (call_meets F.slot_int_rmul (typeIs_int s k t) F.entry_int_rmul (F.args_int_rmul_2 _ _) (int_rmul_tuple k t l its.toArray n dd sl)
          ⟨ho, rfl, ⟨_, ho, rfl⟩, call_meets F.slot_tuple_mul ⟨_, ho, rfl⟩ F.entry_tuple_mul (F.args_tuple_mul_2 _ _) (tup_never l its.toArray n sl dd k t c0 c1 c2) ⟨ho, ?_⟩⟩)
      have hk0 : k.toNat = 0 := by
        rw [Bool.or_eq_true] at c2
        rcases c2 with c2 | c2
        · have := of_decide_eq_true c2; omega
        · rw [c2] at c1; simp at c1
      rw [hk0] at q
      have hp : H s.heap.objs.size = none := I.hok.fresh (Nat.le_refl _)
      refine ⟨.ref s.heap.objs.size, _, I.laid (t' := s.toks) (o := .tup []) (fun b ob q => Heap.get?_push_of_some _ q) (Nat.le_refl _) ?_, rfl, q _ _ (same_upd hp) (.mkt hp .nil)⟩
      exact ⟨by simp, _, .nil, IsTup.new _ _⟩
    · have c2 : (decide (k ≤ 0) || its.toArray.isEmpty) = false := by simpa using c2
      have hk0 : 0 < k := by
        by_cases hk : k ≤ 0
        · rw [decide_eq_true hk] at c2; simp at c2
        · omega
      have hm : ((its.toArray.size : Nat) : Int) * k ≤ 16777216 := by
        rw [List.size_toArray, hle, ← hlx]
        have : ((xs.length * k.toNat : Nat) : Int) ≤ (line : Int) := by exact_mod_cast h3
        rw [Int.natCast_mul, Int.toNat_of_nonneg (by omega)] at this
        exact this
      have flen : (List.replicate k.toNat its).flatten.length ≤ sizeLine := by
        rw [flatten_rep_length, hle, ← hlx, ← line_eq]; exact h3
      have c4 : Builtin.Tuple.tupleTooMany (((its.toArray.size : Nat) : Int) * k) = false := by
        unfold Builtin.Tuple.tupleTooMany
        rw [sizeLine_eq]
        exact decide_eq_false (by omega)
      refine wpAny_binaryOp_repeat_ref (T := "tuple") (U := "int") (by decide) ⟨_, ho, rfl⟩ (fun s' => typeIs_int s' k t) noFill_tuple_mul F.fills_int_mul F.slot_int_rmul repeat_tuple F.slot_int_index.lookup
        (call_meets F.slot_int_rmul (typeIs_int s k t) F.entry_int_rmul (F.args_int_rmul_2 _ _) (int_rmul_tuple k t l its.toArray n dd sl)
          ⟨ho, rfl, ⟨_, ho, rfl⟩, call_meets F.slot_tuple_mul ⟨_, ho, rfl⟩ F.entry_tuple_mul (F.args_tuple_mul_2 _ _) (tuple_mulW l its.toArray n dd sl k t c0 c1 c2 (by omega) c4 (by rw [size_rep, List.size_toArray]; exact flen)) ⟨ho, ?_⟩⟩)
      rw [size_rep]
      have hp : H s.heap.objs.size = none := I.hok.fresh (Nat.le_refl _)
      refine ⟨.ref s.heap.objs.size, _, I.laid (t' := s.toks) (o := .tup (List.replicate k.toNat vs).flatten) (fun b ob q => Heap.get?_push_of_some _ q) (Nat.le_refl _) ?_, rfl, q _ _ (same_upd hp) (.mkt hp (rr.rep k.toNat))⟩
      exact ⟨by rw [flatten_rep_length, ← hlx, ← line_eq]; exact h3, _, r.rep k.toNat, IsTup.new _ _⟩
theorem ob_mul : OpR X (binaryOp .Mult) (rBin X.KK .mul) := by
  intro pins s σ H x y v u Q I rx ry hq
  obtain ⟨da, db, d, ia, ib, e, q⟩ := hq
  cases da <;> cases db <;> simp only [binD, reduceCtorEq] at e
  · rename_i i j
    split at e
    · rename_i hl
      cases e
      obtain rfl := ia.int
      obtain rfl := ib.int
      exact op_mul pins s σ H _ _ v u Q I rx ry ⟨i, j, rfl, rfl, b64_ok hl, q H _ (Same.refl H) (.int _)⟩
    · cases e
  · rename_i x k
    split at e
    · rename_i hl
      cases e
      simp only [Bool.and_eq_true, decide_eq_true_eq, lo62_iff, hi62_iff, lo63_iff, hi63_iff, hi30_iff, hiP_iff, hi24_iff, b64_iff] at hl
      obtain ⟨⟨k1, k2⟩, k3⟩ := hl
      obtain ⟨rfl, o1⟩ := ia.str
      obtain rfl := ib.int
      obtain ⟨t, rfl⟩ := rx
      obtain ⟨t', rfl⟩ := ry
      refine SB.mul ⟨?_, fun h1 h2 => ?_, fun h1 h2 => ?_⟩ fun t' k' => ?_
      · rw [decide_eq_false (by omega), decide_eq_false (by omega)]; rfl
      · rw [str_length]
        have hk : (x.length : Int) * k ≤ 16777216 := by
          have : ((x.length * k.toNat : Nat) : Int) ≤ (line : Int) := by exact_mod_cast k3
          rw [Int.natCast_mul, Int.toNat_of_nonneg (by omega)] at this
          exact this
        intro hgt
        have h3 : (2 ^ 63 - 1) / k ≤ (x.length : Int) - 1 := by omega
        have h4 : (2 ^ 63 - 1 : Int) < k * ((2 ^ 63 - 1) / k + 1) := by
          have := Int.lt_mul_ediv_self_add (x := (2 ^ 63 - 1 : Int)) (k := k) (by omega)
          rw [Int.mul_add, Int.mul_one]
          exact this
        have h5 : k * ((2 ^ 63 - 1) / k + 1) ≤ k * (x.length : Int) := Int.mul_le_mul_of_nonneg_left (by omega) (by omega)
        rw [Int.mul_comm] at hk
        omega
      · rw [str_length]
        show decide (_ > sizeLine) = false
        exact decide_eq_false (by rw [← line_eq]; omega)
      · rw [txt_mul]
        exact ⟨.str _, H, I.tok _, ⟨_, rfl⟩, q H _ (Same.refl H) (.str _ (okCp_rep o1 _))⟩
    · cases e
  · rename_i x k
    split at e
    · rename_i hl
      cases e
      simp only [Bool.and_eq_true, decide_eq_true_eq, lo63_iff, hi63_iff] at hl
      obtain ⟨a, vs, rfl, h1, r1⟩ := ia.tup
      obtain rfl := ib.int
      exact ob_tmul I rx ry h1 r1 hl.1.1 hl.1.2 hl.2 q
    · cases e
theorem ob_fdiv : OpR X (binaryOp .FloorDiv) (rBin X.KK .fdiv) := by
  intro pins s σ H x y v u Q I rx ry hq
  obtain ⟨da, db, d, ia, ib, e, q⟩ := hq
  cases da <;> cases db <;> simp only [binD, reduceCtorEq] at e
  rename_i i j
  split at e
  · rename_i hl
    cases e
    simp only [Bool.and_eq_true, decide_eq_true_eq, lo62_iff, hi62_iff, lo63_iff, hi63_iff, hi30_iff, hiP_iff, hi24_iff, b64_iff] at hl
    obtain rfl := ia.int
    obtain rfl := ib.int
    exact op_fdivW pins s σ H _ _ v u Q I rx ry ⟨i, j, rfl, rfl, wide_div (b := 63) hl.1 (by have := hl.2; omega) (by omega) (by omega), q H _ (Same.refl H) (.int _)⟩
  · cases e
theorem ob_mod : OpR X (binaryOp .Mod) (rBin X.KK .mod) := by
  intro pins s σ H x y v u Q I rx ry hq
  obtain ⟨da, db, d, ia, ib, e, q⟩ := hq
  cases da <;> cases db <;> simp only [binD, reduceCtorEq] at e
  rename_i i j
  split at e
  · rename_i hl
    cases e
    obtain rfl := ia.int
    obtain rfl := ib.int
    exact op_mod pins s σ H _ _ v u Q I rx ry ⟨i, j, rfl, rfl, hl, q H _ (Same.refl H) (.int _)⟩
  · cases e
theorem ob_pow : OpR X (binaryOp .Pow) (rBin X.KK .pow) := by
  intro pins s σ H x y v u Q I rx ry hq
  obtain ⟨da, db, d, ia, ib, e, q⟩ := hq
  cases da <;> cases db <;> simp only [binD, reduceCtorEq] at e
  rename_i i j
  split at e
  · rename_i hl
    cases e
    simp only [Bool.and_eq_true, decide_eq_true_eq, lo62_iff, hi62_iff, lo63_iff, hi63_iff, hi30_iff, hiP_iff, hi24_iff, b64_iff] at hl
    obtain rfl := ia.int
    obtain rfl := ib.int
    exact op_pow pins s σ H _ _ v u Q I rx ry ⟨i, j, rfl, rfl, ⟨hl.1.1, hl.1.2, by have := hl.2; omega⟩, q H _ (Same.refl H) (.int _)⟩
  · cases e
theorem is_reads {pins : List (Addr × Obj)} {σ : L2.St} {H : Hp} {s : Shared} {d : D} {x : V} {v : Value} (I : Inv X pins σ H s) (i : Is X.KK H d x) (hf : flat d = true) (rx : RelV x v) : ∃ as, Reads s.heap v (py d) as :=
  Dp.reads I (py d) x v (i.dp hf) rx
theorem shp_flat {d : D} (h : shp d = true) : flat d = true := by simp only [shp, Bool.and_eq_true] at h; exact h.1
theorem shp_dep {d : D} (h : shp d = true) : dep d ≤ 64 := by simp only [shp, Bool.and_eq_true, decide_eq_true_eq] at h; exact h.2
theorem oc_eq (hu : X.A.units + 65 < cLine) : OpR X (compareOp .Eq) (rBin X.KK .eq) := by
  intro pins s σ H x y v u Q I rx ry hq
  obtain ⟨da, db, d, ia, ib, e, q⟩ := hq
  simp only [binD] at e
  split at e
  · rename_i hs
    cases e
    simp only [Bool.and_eq_true] at hs
    exact op_eqD (by omega) pins s σ H x y v u Q I rx ry ⟨py da, py db, ia.dp (shp_flat hs.1), ib.dp (shp_flat hs.2), ia.shaped hs.1, ib.shaped hs.2, by rw [py_eqv _ _ (shp_flat hs.1) (shp_flat hs.2)]; exact q H _ (Same.refl H) (.bl _)⟩
  · cases e
theorem oc_ne (hu : X.A.units + 65 < cLine) : OpR X (compareOp .NotEq) (rBin X.KK .ne) := by
  intro pins s σ H x y v u Q I rx ry hq
  obtain ⟨da, db, d, ia, ib, e, q⟩ := hq
  simp only [binD] at e
  split at e
  · rename_i hs
    cases e
    simp only [Bool.and_eq_true] at hs
    exact op_neD (by omega) pins s σ H x y v u Q I rx ry ⟨py da, py db, ia.dp (shp_flat hs.1), ib.dp (shp_flat hs.2), ia.shaped hs.1, ib.shaped hs.2, by rw [py_eqv _ _ (shp_flat hs.1) (shp_flat hs.2)]; exact q H _ (Same.refl H) (.bl _)⟩
  · cases e
theorem cmp_of {da db : D} (h : cmpOk da db = true) : PySem.W.alike (py da) (py db) = true ∧ shp da = true ∧ shp db = true ∧ py da ≠ .none := by
  unfold cmpOk alk at h
  simp only [Bool.and_eq_true] at h
  refine ⟨h.1.1.1, h.1.1.2, h.1.2, ?_⟩
  have hf := shp_flat h.1.1.2
  cases da <;> simp_all [py, flat]
theorem oc_lt (hu : X.A.units + 65 < cLine) : OpR X (compareOp .Lt) (rBin X.KK .lt) := by
  intro pins s σ H x y v u Q I rx ry hq
  obtain ⟨da, db, d, ia, ib, e, q⟩ := hq
  simp only [binD] at e
  split at e
  · rename_i hs
    cases e
    obtain ⟨h1, h2, h3, h4⟩ := cmp_of hs
    obtain ⟨as, r1⟩ := is_reads I ia (shp_flat h2) rx
    obtain ⟨bs, r2⟩ := is_reads I ib (shp_flat h3) ry
    have := shp_dep h2
    exact PySem.W.lt_data r1 r2 h1 h4 (by rw [py_depth, py_depth]; omega) ⟨.bl _, H, I, rfl, q H _ (Same.refl H) (.bl _)⟩
  · cases e
theorem oc_gt (hu : X.A.units + 65 < cLine) : OpR X (compareOp .Gt) (rBin X.KK .gt) := by
  intro pins s σ H x y v u Q I rx ry hq
  obtain ⟨da, db, d, ia, ib, e, q⟩ := hq
  simp only [binD] at e
  split at e
  · rename_i hs
    cases e
    obtain ⟨h1, h2, h3, h4⟩ := cmp_of hs
    obtain ⟨as, r1⟩ := is_reads I ia (shp_flat h2) rx
    obtain ⟨bs, r2⟩ := is_reads I ib (shp_flat h3) ry
    have := shp_dep h2
    exact PySem.W.gt_data r1 r2 h1 h4 (by rw [py_depth, py_depth]; omega) ⟨.bl _, H, I, rfl, q H _ (Same.refl H) (.bl _)⟩
  · cases e
theorem oc_le (hu : X.A.units + 65 < cLine) : OpR X (compareOp .LtE) (rBin X.KK .le) := by
  intro pins s σ H x y v u Q I rx ry hq
  obtain ⟨da, db, d, ia, ib, e, q⟩ := hq
  simp only [binD] at e
  split at e
  · rename_i hs
    cases e
    obtain ⟨h1, h2, h3, h4⟩ := cmp_of hs
    obtain ⟨as, r1⟩ := is_reads I ia (shp_flat h2) rx
    obtain ⟨bs, r2⟩ := is_reads I ib (shp_flat h3) ry
    have := shp_dep h2
    exact PySem.W.le_data r1 r2 h1 h4 (by rw [py_depth, py_depth]; omega) ⟨.bl _, H, I, rfl, q H _ (Same.refl H) (.bl _)⟩
  · cases e
theorem oc_ge (hu : X.A.units + 65 < cLine) : OpR X (compareOp .GtE) (rBin X.KK .ge) := by
  intro pins s σ H x y v u Q I rx ry hq
  obtain ⟨da, db, d, ia, ib, e, q⟩ := hq
  simp only [binD] at e
  split at e
  · rename_i hs
    cases e
    obtain ⟨h1, h2, h3, h4⟩ := cmp_of hs
    obtain ⟨as, r1⟩ := is_reads I ia (shp_flat h2) rx
    obtain ⟨bs, r2⟩ := is_reads I ib (shp_flat h3) ry
    have := shp_dep h2
    exact PySem.W.ge_data r1 r2 h1 h4 (by rw [py_depth, py_depth]; omega) ⟨.bl _, H, I, rfl, q H _ (Same.refl H) (.bl _)⟩
  · cases e
theorem oc_is : OpR X (compareOp .Is) (rBin X.KK .is) := by
  intro pins s σ H x y v u Q I rx ry hq
  obtain ⟨da, db, d, ia, ib, e, q⟩ := hq
  cases db with
  | non =>
    have e' : d = .bl (isNon da) := by cases da <;> (simp only [binD, isNon, Option.some.injEq] at e ⊢; exact e.symm)
    subst e'
    obtain rfl := ib.non
    exact op_isN pins s σ H _ _ v u Q I rx ry ⟨rfl, by rw [ia.none_iff]; exact q H _ (Same.refl H) (.bl _)⟩
  | bl b =>
    cases da <;> simp only [binD, reduceCtorEq] at e
    rename_i a
    cases e
    obtain rfl := ia.bl
    obtain rfl := ib.bl
    exact op_isBl pins s σ H _ _ v u Q I rx ry ⟨a, b, rfl, rfl, q H _ (Same.refl H) (.bl _)⟩
  | _ => cases da <;> simp [binD] at e
theorem oc_isnot : OpR X (compareOp .IsNot) (rBin X.KK .isnot) := by
  intro pins s σ H x y v u Q I rx ry hq
  obtain ⟨da, db, d, ia, ib, e, q⟩ := hq
  cases db with
  | non =>
    have e' : d = .bl (!isNon da) := by cases da <;> (simp only [binD, isNon, Option.some.injEq, Bool.not_true, Bool.not_false] at e ⊢; exact e.symm)
    subst e'
    obtain rfl := ib.non
    exact op_notN pins s σ H _ _ v u Q I rx ry ⟨rfl, by rw [ia.none_iff]; exact q H _ (Same.refl H) (.bl _)⟩
  | bl b =>
    cases da <;> simp only [binD, reduceCtorEq] at e
    rename_i a
    cases e
    obtain rfl := ia.bl
    obtain rfl := ib.bl
    exact op_notBl pins s σ H _ _ v u Q I rx ry ⟨a, b, rfl, rfl, q H _ (Same.refl H) (.bl _)⟩
  | _ => cases da <;> simp [binD] at e
theorem any_py (x : D) (hx : flat x = true) : ∀ ys : List D, flatL ys = true → ((pyL ys).any fun z => PyData.eqv z (py x)) = ys.any fun y => eqD y x
  | [], _ => by simp [pyL]
  | y :: ys, hf => by
    simp only [flatL, Bool.and_eq_true] at hf
    simp only [pyL, List.any_cons, py_eqv y x hf.1 hx, any_py x hx ys hf.2]
theorem in_len (x y : List Nat) : (!(Builtin.Str.occurrences ⟨y.toArray⟩ ⟨x.toArray⟩ 0 (Str.length ⟨y.toArray⟩) 1).isEmpty) = inS x y := by
  unfold inS; rw [str_length]
theorem oc_mem (hu : X.A.units + 65 < cLine) : OpR X (compareOp .In) (rBin X.KK .mem) := by
  intro pins s σ H x y v u Q I rx ry hq
  obtain ⟨da, db, d, ia, ib, e, q⟩ := hq
  cases db with
  | str t =>
    cases da <;> simp only [binD, reduceCtorEq] at e
    cases e
    obtain ⟨rfl, o1⟩ := ia.str
    obtain ⟨rfl, o2⟩ := ib.str
    exact op_in_str pins s σ H _ _ v u Q I rx ry ⟨_, _, rfl, rfl, by rw [in_len]; exact q H _ (Same.refl H) (.bl _)⟩
  | lst ys =>
    have e' : (shp da && shp (.lst ys)) = true ∧ d = .bl (ys.any fun y => eqD y da) := by
      cases da <;> simp only [binD] at e <;> (split at e <;> simp_all)
    obtain ⟨hs, rfl⟩ := e'
    simp only [Bool.and_eq_true] at hs
    obtain ⟨a, vs, rfl, h1, r1⟩ := ib.sq
    have hfl : flatL ys = true := by have := shp_flat hs.2; simpa [flat] using this
    exact op_inD hu pins s σ H _ _ v u Q I rx ry ⟨py da, pyL ys, ia.dp (shp_flat hs.1), .lst (.inl h1) (r1.dp hfl), ia.shaped hs.1, by have := ib.shaped hs.2; simpa only [py] using this, by rw [any_py da (shp_flat hs.1) ys hfl]; exact q H _ (Same.refl H) (.bl _)⟩
  | tup ys =>
    have e' : (shp da && shp (.tup ys)) = true ∧ d = .bl (ys.any fun y => eqD y da) := by
      cases da <;> simp only [binD] at e <;> (split at e <;> simp_all)
    obtain ⟨hs, rfl⟩ := e'
    simp only [Bool.and_eq_true] at hs
    have hfl : flatL ys = true := by have := shp_flat hs.2; simpa [flat] using this
    obtain ⟨as, r1⟩ := is_reads I ia (shp_flat hs.1) rx
    obtain ⟨bs, r2⟩ := is_reads I ib (shp_flat hs.2) ry
    have hsh := ib.shaped hs.2
    simp only [py] at r2 hsh
    refine SeqAt.in_tuple_reads r2 r1 ?_ (ia.lay (shp_flat hs.1)) (room_in_shaped (ia.shaped hs.1) hu) ?_
    · have := ib.lay (shp_flat hs.2); simpa only [py, PyData.canLay0] using this
    · rw [any_py da (shp_flat hs.1) ys hfl]; exact ⟨.bl _, H, I, rfl, q H _ (Same.refl H) (.bl _)⟩
  | dct c ks vs =>
    have e' : kcB c da = true ∧ d = .bl (memK da ks) := by
      cases da <;> simp only [binD] at e <;> (split at e <;> simp_all)
    obtain ⟨hc, rfl⟩ := e'
    obtain ⟨a, es, kus, vus, rfl, hr, dt⟩ := ib.dctA
    obtain rfl : u = .ref a := ry
    exact x_in (by omega) I hr dt hc (ia.repk hc) rx fun s' I' => ⟨.bl _, H, I', rfl, q H _ (Same.refl H) (.bl _)⟩
  | _ => cases da <;> simp [binD] at e
theorem oc_nmem (hu : X.A.units + 65 < cLine) : OpR X (compareOp .NotIn) (rBin X.KK .nmem) := by
  intro pins s σ H x y v u Q I rx ry hq
  obtain ⟨da, db, d, ia, ib, e, q⟩ := hq
  cases db with
  | str t =>
    cases da <;> simp only [binD, reduceCtorEq] at e
    cases e
    obtain ⟨rfl, o1⟩ := ia.str
    obtain ⟨rfl, o2⟩ := ib.str
    exact op_notin_str pins s σ H _ _ v u Q I rx ry ⟨_, _, rfl, rfl, by rw [in_len]; exact q H _ (Same.refl H) (.bl _)⟩
  | lst ys =>
    have e' : (shp da && shp (.lst ys)) = true ∧ d = .bl (!ys.any fun y => eqD y da) := by
      cases da <;> simp only [binD] at e <;> (split at e <;> simp_all)
    obtain ⟨hs, rfl⟩ := e'
    simp only [Bool.and_eq_true] at hs
    obtain ⟨a, vs, rfl, h1, r1⟩ := ib.sq
    have hfl : flatL ys = true := by have := shp_flat hs.2; simpa [flat] using this
    exact op_notInD hu pins s σ H _ _ v u Q I rx ry ⟨py da, pyL ys, ia.dp (shp_flat hs.1), .lst (.inl h1) (r1.dp hfl), ia.shaped hs.1, by have := ib.shaped hs.2; simpa only [py] using this, by rw [any_py da (shp_flat hs.1) ys hfl]; exact q H _ (Same.refl H) (.bl _)⟩
  | tup ys =>
    have e' : (shp da && shp (.tup ys)) = true ∧ d = .bl (!ys.any fun y => eqD y da) := by
      cases da <;> simp only [binD] at e <;> (split at e <;> simp_all)
    obtain ⟨hs, rfl⟩ := e'
    simp only [Bool.and_eq_true] at hs
    have hfl : flatL ys = true := by have := shp_flat hs.2; simpa [flat] using this
    obtain ⟨as, r1⟩ := is_reads I ia (shp_flat hs.1) rx
    obtain ⟨bs, r2⟩ := is_reads I ib (shp_flat hs.2) ry
    have hsh := ib.shaped hs.2
    simp only [py] at r2 hsh
    refine SeqAt.notIn_tuple_reads r2 r1 ?_ (ia.lay (shp_flat hs.1)) (room_in_shaped (ia.shaped hs.1) hu) ?_
    · have := ib.lay (shp_flat hs.2); simpa only [py, PyData.canLay0] using this
    · rw [any_py da (shp_flat hs.1) ys hfl]; exact ⟨.bl _, H, I, rfl, q H _ (Same.refl H) (.bl _)⟩
  | dct c ks vs =>
    have e' : kcB c da = true ∧ d = .bl (!memK da ks) := by
      cases da <;> simp only [binD] at e <;> (split at e <;> simp_all)
    obtain ⟨hc, rfl⟩ := e'
    obtain ⟨a, es, kus, vus, rfl, hr, dt⟩ := ib.dctA
    obtain rfl : u = .ref a := ry
    exact x_nin (by omega) I hr dt hc (ia.repk hc) rx fun s' I' => ⟨.bl _, H, I', rfl, q H _ (Same.refl H) (.bl _)⟩
  | _ => cases da <;> simp [binD] at e
end
end Sh

/-! sorted, min, max of data; len of a dict -/
namespace Sh
open PySem PySem.Spec PyProof.Rows L2

def leD (a b : D) : Bool := !ltD b a
theorem leD_eq : leD = PySem.W.dataLe false py := rfl
theorem leD_total : PySem.W.TotalLe leD := by rw [leD_eq]; exact PySem.W.sortLe_total _ _ _
theorem insD_mem {x z : D} : ∀ {ys : List D}, z ∈ insD x ys ↔ z = x ∨ z ∈ ys
  | [] => by simp [insD]
  | y :: ys => by
    unfold insD
    by_cases h : ltD y x = true
    · rw [if_pos h, List.mem_cons, insD_mem, List.mem_cons]
      constructor
      · rintro (a | a | a)
        · exact .inr (.inl a)
        · exact .inl a
        · exact .inr (.inr a)
      · rintro (a | a | a)
        · exact .inr (.inl a)
        · exact .inl a
        · exact .inr (.inr a)
    · rw [if_neg h, List.mem_cons]
theorem insD_pw {x : D} : ∀ {ys : List D}, ys.Pairwise (fun a b => leD a b = true) → (insD x ys).Pairwise (fun a b => leD a b = true)
  | [], _ => by simp [insD]
  | y :: ys, h => by
    obtain ⟨h1, h2⟩ := List.pairwise_cons.mp h
    unfold insD
    by_cases hl : ltD y x = true
    · rw [if_pos hl, List.pairwise_cons]
      refine ⟨fun z hz => ?_, insD_pw h2⟩
      rcases insD_mem.mp hz with rfl | hz
      · rcases leD_total.total y z with q | q
        · exact q
        · unfold leD at q; rw [hl] at q; cases q
      · exact h1 z hz
    · rw [if_neg hl, List.pairwise_cons]
      have hxy : leD x y = true := by unfold leD; simpa using hl
      refine ⟨fun z hz => ?_, h⟩
      rcases List.mem_cons.mp hz with rfl | hz
      · exact hxy
      · exact leD_total.trans _ _ _ hxy (h1 z hz)
theorem insD_filter {x : D} (c : D) : ∀ {ys : List D}, (insD x ys).filter (PySem.W.sameRank leD c) = (x :: ys).filter (PySem.W.sameRank leD c)
  | [] => rfl
  | y :: ys => by
    unfold insD
    by_cases hl : ltD y x = true
    · rw [if_pos hl, List.filter_cons, insD_filter c, List.filter_cons, List.filter_cons, List.filter_cons]
      by_cases hy : PySem.W.sameRank leD c y = true
      · by_cases hx : PySem.W.sameRank leD c x = true
        · exfalso
          unfold PySem.W.sameRank at hy hx
          rw [Bool.and_eq_true] at hy hx
          have := leD_total.trans _ _ _ hx.2 hy.1
          unfold leD at this
          rw [hl] at this; cases this
        · rw [if_pos hy, if_neg hx, if_neg hx, if_pos hy]
      · rw [if_neg hy, if_neg hy]
    · rw [if_neg hl]
theorem isort_merge (l : List D) : isortD l = l.mergeSort leD := by
  refine PySem.W.sort_unique leD_total ?_ ?_
  · induction l with
    | nil => exact List.Pairwise.nil
    | cons x r ih => exact insD_pw ih
  · intro c
    induction l with
    | nil => rfl
    | cons x r ih =>
      show (insD x (isortD r)).filter _ = _
      rw [insD_filter, List.filter_cons, List.filter_cons, ih]
theorem insD_len (x : D) : ∀ ys : List D, (insD x ys).length = ys.length + 1
  | [] => rfl
  | y :: ys => by
    unfold insD
    split
    · simp [insD_len x ys]
    · simp
theorem isortD_len : ∀ l : List D, (isortD l).length = l.length
  | [] => rfl
  | x :: r => by show (insD x (isortD r)).length = _; rw [insD_len, isortD_len r]; rfl

section
variable {X : Cx} {pins : List (Addr × Obj)} {σ : L2.St} {H : Hp} {s : Shared}
/-- what makes a list of the things that a value walks -/
def Coll (X : Cx) (A : Around) (s : Shared) (v : Value) (vs : List Value) : Prop :=
  ∀ (R : List Value → Shared → Prop) (E : Value → Shared → Prop), (∀ h' tk, (∀ b o, s.heap.get? b = some o → h'.get? b = some o) → R vs { s with heap := h', toks := tk }) → wpAny (model X.prog X.w) A (collect v) R E s
theorem pyL_map : ∀ ds : List D, pyL ds = ds.map py
  | [] => rfl
  | d :: ds => by simp only [pyL, List.map_cons, pyL_map ds]
theorem srt_split {ds : List D} (h : srtOk ds = true) : PySem.W.AllAlike (ds.map py) ∧ PySem.W.Sortable (ds.map py) ∧ (∀ d ∈ ds, shp d = true) ∧ ds.length ≤ line := by
  simp only [srtOk, Bool.and_eq_true, decide_eq_true_eq] at h
  obtain ⟨⟨⟨h1, h2⟩, h3⟩, h4⟩ := h
  refine ⟨?_, ?_, fun d hd => List.all_eq_true.mp h2 d hd, h4⟩
  · intro a ha b hb
    obtain ⟨x, hx, rfl⟩ := List.mem_map.mp ha
    obtain ⟨y, hy, rfl⟩ := List.mem_map.mp hb
    have := List.all_eq_true.mp h1 x hx
    exact List.all_eq_true.mp this y hy
  · rw [Bool.or_eq_true] at h3
    rcases h3 with h3 | h3
    · left
      intro a ha
      obtain ⟨x, hx, rfl⟩ := List.mem_map.mp ha
      have := List.all_eq_true.mp h3 x hx
      cases x <;> simp only [tupNE, Bool.false_eq_true] at this
      rename_i xs
      cases xs with
      | nil => simp at this
      | cons y r => exact ⟨py y, pyL r, by simp only [py, pyL]⟩
    · right
      intro a ha
      obtain ⟨x, hx, rfl⟩ := List.mem_map.mp ha
      have := List.all_eq_true.mp h3 x hx
      have hf := shp_flat (List.all_eq_true.mp h2 x hx)
      cases x <;> simp_all [notTN, py, flat]
theorem each_of {β : Type} {R : Value → β → Prop} : ∀ {us : List Value} {bs : List β}, us.length = bs.length → (∀ (i : Nat) (u : Value) (b : β), us[i]? = some u → bs[i]? = some b → R u b) → PySem.W.EachIs R us bs
  | [], [], _, _ => .nil
  | [], _ :: _, h, _ => by simp at h
  | _ :: _, [], h, _ => by simp at h
  | u :: us, b :: bs, h, r => .cons (r 0 u b rfl rfl) (each_of (by simpa using h) fun i u b h1 h2 => r (i + 1) u b (by simpa using h1) (by simpa using h2))
/-- data with the values that they are -/
def Zr (K : KW) (H : Hp) (bs : List (D × V)) : Prop := ∀ b ∈ bs, Rep K H b.1 b.2
theorem zr_of {K : KW} {H : Hp} : ∀ {ds : List D} {ws : List V}, RepL K H ds ws → Zr K H (ds.zip ws) ∧ (ds.zip ws).map (·.1) = ds ∧ (ds.zip ws).map (·.2) = ws
  | _, _, .nil => ⟨fun b h => by simp at h, rfl, rfl⟩
  | _, _, .cons r t => by
    obtain ⟨a, b, c⟩ := zr_of t
    refine ⟨fun x hx => ?_, by rw [List.zip_cons_cons, List.map_cons, b], by rw [List.zip_cons_cons, List.map_cons, c]⟩
    rw [List.zip_cons_cons] at hx
    rcases List.mem_cons.mp hx with rfl | hx
    · exact r
    · exact a x hx
theorem zr_rep {K : KW} {H : Hp} : ∀ {bs : List (D × V)}, Zr K H bs → RepL K H (bs.map (·.1)) (bs.map (·.2))
  | [], _ => .nil
  | b :: bs, h => .cons (h b List.mem_cons_self) (zr_rep fun x hx => h x (List.mem_cons_of_mem _ hx))
theorem each_vals : ∀ {us : List Value} {bs : List (D × V)}, PySem.W.EachIs (fun u (b : D × V) => RelV b.2 u) us bs → Vals (bs.map (·.2)) us
  | _, _, .nil => .nil
  | _, _, .cons r t => .cons r (each_vals t)
/-- sorted(x), by what x walks -/
theorem sorted_coll {u : Value} {us : List Value} {ds : List D} {ws : List V} {Q : VK} (hu : X.A.units + 70 < cLine) (I : Inv X pins σ H s) (hc : Coll X X.A.in1 s u us) (rv : Vals ws us) (r : RepL X.KK H ds ws) (hs : srtOk ds = true) (q : ∀ H' v, Same H H' → Rep X.KK H' (.lst (isortD ds)) v → Q v H') :
    wpAny (model X.prog X.w) X.A (call (.builtin "sorted") [u]) (EP X pins σ Q) X.xe s := by
  obtain ⟨s1, s2, s3, s4⟩ := srt_split hs
  have hlen : us.length ≤ sizeLine := by rw [← rv.length, ← r.length, ← line_eq]; exact s4
  obtain ⟨z1, z2, z3⟩ := zr_of r
  refine Calls.call_function_entry kind_sorted plain_sorted entry_sorted (args_sorted1 _) ?_
  show wpAny _ _ (Builtin.«sorted» ⟨[u], []⟩) _ _ s
  unfold Builtin.«sorted»
  refine wpAny_bind (m := checkCount "sorted" 1 1 _) (wpAny_pure ?_)
  refine wpAny_bind (hc _ _ fun g tk hk => ?_)
  refine wpAny_bind (wpAny_newList ?_ hlen)
  have at0 : (g.push (seqObj "list" us.toArray 0)).get? g.objs.size = some (seqObj "list" us.toArray 0) := Heap.get?_push_size _ rfl
  have old0 : ∀ b o, s.heap.get? b = some o → (g.push (seqObj "list" us.toArray 0)).get? b = some o := fun b o e => Heap.get?_push_of_some _ (hk b o e)
  have ltp : ∀ b o, s.heap.get? b = some o → b ≠ g.objs.size := fun b o e => Nat.ne_of_lt (Heap.lt_size (hk b o e))
  have len1 : us.length = (ds.zip ws).length := by rw [← rv.length]; rw [← z3, List.length_map]; simp
  have rel1 : PySem.W.EachIs (fun x (b : D × V) => RelV b.2 x) us (ds.zip ws) := each_of len1 fun i x b h1 h2 => by
    have : ws[i]? = some b.2 := by rw [← z3, List.getElem?_map, h2]; rfl
    obtain ⟨x', e1, e2⟩ := rv.get this
    rw [h1] at e1; cases e1; exact e2
  have srt_old : ∀ b o, s.heap.get? b = some o → (PySem.W.sortingHeap (g.push (seqObj "list" us.toArray 0)) g.objs.size us).get? b = some o := fun b o e => PySem.W.sortingHeap_old (ltp b o e) (old0 b o e)
  have rel2 : PySem.W.EachIs (fun x (b : D × V) => ∃ as, Reads (PySem.W.sortingHeap (g.push (seqObj "list" us.toArray 0)) g.objs.size us) x (py b.1) as) us (ds.zip ws) := each_of len1 fun i x b h1 h2 => by
    have hb := List.mem_of_getElem? h2
    have : ws[i]? = some b.2 := by rw [← z3, List.getElem?_map, h2]; rfl
    obtain ⟨x', e1, e2⟩ := rv.get this
    rw [h1] at e1; cases e1
    have hd : b.1 ∈ ds := by rw [← z2]; exact List.mem_map_of_mem hb
    obtain ⟨as, rd⟩ := is_reads I (.rep (z1 b hb)) (shp_flat (s3 _ hd)) e2
    exact ⟨as, PyProof.Rows.Reads.keeps srt_old rd⟩
  have hall : PySem.W.AllAlike ((ds.zip ws).map fun b => py b.1) := by
    have : (ds.zip ws).map (fun b => py b.1) = ds.map py := by
      have e := congrArg (List.map py) z2
      rw [List.map_map] at e
      exact e
    rw [this]; exact s1
  have hsrt : PySem.W.Sortable ((ds.zip ws).map fun b => py b.1) := by
    have : (ds.zip ws).map (fun b => py b.1) = ds.map py := by
      have e := congrArg (List.map py) z2
      rw [List.map_map] at e
      exact e
    rw [this]; exact s2
  have S := PySem.W.SortsAt.data (prog := X.prog) (w := X.w) (A := X.A.in1.in1) (s := { s with heap := PySem.W.sortingHeap (g.push (seqObj "list" us.toArray 0)) g.objs.size us, toks := tk }) (PySem.W.each_map (R := fun v d => ∃ as, Reads _ v d as) (fun b : D × V => py b.1) rel2) hall hsrt (fun d hd => by
    obtain ⟨b, hb, rfl⟩ := List.mem_map.mp hd
    have hd : b.1 ∈ ds := by rw [← z2]; exact List.mem_map_of_mem hb
    have := shp_dep (s3 _ hd)
    rw [py_depth]
    simp only [Around.in1_units]; omega)
  have key := PySem.W.sortVals_data (enc := fun b : D × V => py b.1) false rel1 rel2 hall
  refine wpAny_bind (wpAny_holding (wpAny_call_entry slot_list_sort ⟨_, at0, rfl⟩ entry_list_sort (PySem.W.list_sort_vals (s := { s with heap := g.push (seqObj "list" us.toArray 0), toks := tk }) at0 S hlen ⟨.none, rfl, wpAny_pure ⟨_, rfl, ?_⟩⟩) (args_list_sort _)))
  generalize hout : PySem.W.sortVals _ false us us = out at key
  obtain ⟨ne, hne⟩ := sortedHeap_at (out := out.toArray) at0
  have fin_old : ∀ b o, s.heap.get? b = some o → (sortedHeap (g.push (seqObj "list" us.toArray 0)) g.objs.size us out.toArray).get? b = some o := fun b o e => by
    rw [sortedHeap_old (ltp b o e) (Heap.lt_size (old0 b o e))]; exact old0 b o e
  have vals := each_vals key
  have le1 : (PySem.W.dataLe false fun b : D × V => py b.1) = fun a b => leD a.1 b.1 := rfl
  have e1 : ((ds.zip ws).mergeSort (PySem.W.dataLe false fun b : D × V => py b.1)).map (·.1) = isortD ds := by
    have e := PySem.W.sort_maps (r := PySem.W.dataLe false fun b : D × V => py b.1) (s := leD) Prod.fst (l := ds.zip ws) (fun a _ b _ => rfl)
    rw [isort_merge]
    exact e.trans (congrArg (List.mergeSort · leD) z2)
  have zr2 : Zr X.KK H ((ds.zip ws).mergeSort (PySem.W.dataLe false fun b : D × V => py b.1)) := fun b hb => z1 b ((List.mergeSort_perm _ _).mem_iff.mp hb)
  have rr := zr_rep zr2
  rw [e1] at rr
  generalize hws : ((ds.zip ws).mergeSort (PySem.W.dataLe false fun b : D × V => py b.1)).map (·.2) = ws2 at rr vals
  have I1 : Inv X pins σ H { s with heap := g, toks := tk } := I.kept (h' := g) (t' := tk) hk
  have hp : H g.objs.size = none := I1.hok.fresh (Nat.le_refl _)
  have I2 := I1.laid (a := g.objs.size) (o := .lst ws2) (h' := sortedHeap (g.push (seqObj "list" us.toArray 0)) g.objs.size us out.toArray) (t' := tk) (fun b o e => by
    have hb : b ≠ g.objs.size := Nat.ne_of_lt (Heap.lt_size e)
    have e2 : (g.push (seqObj "list" us.toArray 0)).get? b = some o := Heap.get?_push_of_some _ e
    rw [sortedHeap_old hb (Heap.lt_size e2)]; exact e2) (Nat.le_refl _) ⟨by rw [← rr.length, isortD_len, ← line_eq]; exact s4, out, ne, vals, hne⟩
  refine EP.frz ⟨.ref g.objs.size, _, I2, rfl, g.objs.size, ws2, rfl, upd_same, fun o => ?_⟩
  rw [upd_upd]
  exact q _ _ (same_upd hp) (.mkl hp rr)
/-- what a list, a tuple, a dict's keys are collected to -/
theorem coll_list {A : Around} {a : Addr} {vs : List V} (I : Inv X pins σ H s) (h : SqL X.KK H a vs) : ∃ us, Vals vs us ∧ Coll X A s (.ref a) us := by
  obtain ⟨its, rv, p, hz⟩ := I.list h
  have pl : s.heap.IsList a its.toArray := p.isList
  obtain ⟨o, ho, hc, n, hd⟩ := pl
  refine ⟨its, rv, fun R E q => wpAny_collect_seq (hsz := by rw [List.size_toArray, ← rv.length]; exact hz) a (.inl rfl) ho hc hd fun g hk => ?_⟩
  have := q g s.toks hk
  simpa using this
theorem coll_tup {A : Around} {a : Addr} {vs : List V} (I : Inv X pins σ H s) (h : SqT X.KK H a vs) : ∃ us, Vals vs us ∧ Coll X A s (.ref a) us := by
  obtain ⟨its, rv, ⟨o, ho, hc, n, hd⟩, hz⟩ := I.tuple h
  refine ⟨its, rv, fun R E q => wpAny_collect_seq (hsz := by rw [List.size_toArray, ← rv.length]; exact hz) a (.inr rfl) ho hc hd fun g hk => ?_⟩
  have := q g s.toks hk
  simpa using this
theorem ents_keys {w : World} {es : List DictEntry} {ks : List D} {kus vus : List V} (h : Ents w es ks kus vus) : Vals kus (es.map (·.key)) := by
  induction h with
  | nil => exact .nil
  | cons _ h2 _ _ ih => exact .cons h2 ih
theorem ents_vals {w : World} {es : List DictEntry} {ks : List D} {kus vus : List V} (h : Ents w es ks kus vus) : Vals vus (es.map (·.val)) := by
  induction h with
  | nil => exact .nil
  | cons _ _ h3 _ ih => exact .cons h3 ih
theorem itemsOf_eq {P : Nat → Value → Prop} {acc : Array Value} {n : Nat} {us : List Value} (h : ItemsOf P acc n) (hn : us.length = n) (hP : ∀ i v, P i v → us[i]? = some v) : acc.toList = us := by
  obtain ⟨h1, h2⟩ := h
  refine List.ext_getElem? fun i => ?_
  by_cases hi : i < n
  · have hlt : i < acc.size := by omega
    rw [Array.getElem?_toList, Array.getElem?_eq_getElem hlt, hP i _ (h2 i _ (Array.getElem?_eq_getElem hlt))]
  · rw [List.getElem?_eq_none (by rw [Array.length_toList, h1]; omega), List.getElem?_eq_none (by omega)]
theorem coll_dct {A : Around} {a : Addr} {es : List DictEntry} {c : Bool} {ks ds : List D} {kus vus : List V} (hh : A.handled = none) (I : Inv X pins σ H s) (h : Rd H a (DctAt a es)) (d : DAt X.KK H a es c ks ds kus vus) : Coll X A s (.ref a) (es.map (·.key)) := by
  obtain ⟨o, ea, ep, h1, h2, h3, h4⟩ := dct_raw I h
  have hz : ea.size = es.length := by rw [← h4, Array.length_toList]
  intro R E q
  refine PySem.W.kdu_collect (PySem.KdlSrc.rawDict (es := ea) (ep := ep) d.sys) hh ⟨o, h1, h2, h3⟩ (by rw [hz]; exact d.len) fun g tk acc hk hi => ?_
  have e : acc.toList = es.map (·.key) := itemsOf_eq hi (by rw [List.length_map, hz]) fun i v ⟨hlt, e⟩ => by
    rw [List.getElem?_map, ← h4, Array.getElem?_toList, Array.getElem?_eq_getElem hlt, e]; rfl
  rw [e]
  exact q g tk hk
/-- min, max of a list -/
theorem mm_split {x : D} {ds : List D} (h : mmOk (x :: ds) = true) : PySem.W.AlikeAll (pyL (x :: ds)) ∧ ∀ d ∈ x :: ds, shp d = true := by
  simp only [mmOk, Bool.and_eq_true] at h
  obtain ⟨⟨h1, h2⟩, h3⟩ := h
  refine ⟨⟨?_, ?_⟩, fun d hd => List.all_eq_true.mp h2 d hd⟩
  · intro a ha b hb
    rw [pyL_map] at ha hb
    obtain ⟨x, hx, rfl⟩ := List.mem_map.mp ha
    obtain ⟨y, hy, rfl⟩ := List.mem_map.mp hb
    exact List.all_eq_true.mp (List.all_eq_true.mp h1 x hx) y hy
  · intro a ha
    rw [pyL_map] at ha
    obtain ⟨x, hx, rfl⟩ := List.mem_map.mp ha
    have h4 := List.all_eq_true.mp h3 x hx
    have h5 := shp_flat (List.all_eq_true.mp h2 x hx)
    cases x <;> simp_all [py, flat]
theorem minL_py (x : D) : ∀ ds : List D, py (minL x ds) = PySem.W.minD (py x) (pyL ds) := by
  intro ds
  unfold minL PySem.W.minD
  induction ds generalizing x with
  | nil => rfl
  | cons y r ih =>
    rw [List.foldl_cons, pyL, List.foldl_cons, ih]
    unfold ltD
    split <;> rfl
theorem maxL_py (x : D) : ∀ ds : List D, py (maxL x ds) = PySem.W.maxD (py x) (pyL ds) := by
  intro ds
  unfold maxL PySem.W.maxD
  induction ds generalizing x with
  | nil => rfl
  | cons y r ih =>
    rw [List.foldl_cons, pyL, List.foldl_cons, ih]
    unfold ltD
    split <;> rfl
theorem depL_shp {ds : List D} (h : ∀ d ∈ ds, shp d = true) : depL ds ≤ 64 := by
  induction ds with
  | nil => exact Nat.zero_le _
  | cons d ds ih =>
    have h1 := shp_dep (h d List.mem_cons_self)
    have h2 := ih fun x hx => h x (List.mem_cons_of_mem _ hx)
    simp only [depL]; omega
theorem py_inj {a b : D} (ha : flat a = true) (hb : flat b = true) (e : py a = py b) : a = b := by
  have key : ∀ a : D, flat a = true → ∀ b, flat b = true → py a = py b → a = b := fun a => by
    refine D.rec (motive_1 := fun a => flat a = true → ∀ b, flat b = true → py a = py b → a = b) (motive_2 := fun xs => flatL xs = true → ∀ ys, flatL ys = true → pyL xs = pyL ys → xs = ys) ?_ ?_ ?_ ?_ ?_ ?_ ?_ ?_ ?_ ?_ a
    · intro _ b hb e; cases b <;> simp_all [py, flat]
    · intro x _ b hb e; cases b <;> simp_all [py, flat]
    · intro x _ b hb e; cases b <;> simp_all [py, flat]
    · intro x _ b hb e; cases b <;> simp_all [py, flat]
    · intro xs ih hx b hb e
      cases b <;> simp only [py, PyData.tuple.injEq, reduceCtorEq] at e
      rw [ih (by simpa [flat] using hx) _ (by simpa [flat] using hb) e]
    · intro xs ih hx b hb e
      cases b <;> simp only [py, PyData.list.injEq, reduceCtorEq] at e
      rw [ih (by simpa [flat] using hx) _ (by simpa [flat] using hb) e]
    · intro c ks vs _ _ hx; simp [flat] at hx
    · intro ns hx; simp [flat] at hx
    · intro _ ys _ e; cases ys <;> simp_all [pyL]
    · intro x r i1 i2 hx ys hy e
      cases ys with
      | nil => simp [pyL] at e
      | cons y ys =>
        simp only [pyL, List.cons.injEq] at e
        simp only [flatL, Bool.and_eq_true] at hx hy
        rw [i1 hx.1 y hy.1 e.1, i2 hx.2 ys hy.2 e.2]
  exact key a ha b hb e
theorem minL_mem (x : D) : ∀ ds : List D, minL x ds ∈ x :: ds := by
  intro ds
  unfold minL
  induction ds generalizing x with
  | nil => simp
  | cons y r ih =>
    rw [List.foldl_cons]
    have := ih (if ltD y x = true then y else x)
    rcases List.mem_cons.mp this with e | e
    · rw [e]; split <;> simp
    · simp [e]
theorem maxL_mem (x : D) : ∀ ds : List D, maxL x ds ∈ x :: ds := by
  intro ds
  unfold maxL
  induction ds generalizing x with
  | nil => simp
  | cons y r ih =>
    rw [List.foldl_cons]
    have := ih (if ltD x y = true then y else x)
    rcases List.mem_cons.mp this with e | e
    · rw [e]; split <;> simp
    · simp [e]
/-- the item of a list that reads as a given one is it -/
theorem item_rep {g : Heap} {ds : List D} {ws : List V} {us : List Value} {i : Nat} {u : Value} {d : D} {bs : List Addr} (I : Inv X pins σ H s) (hk : ∀ b o, s.heap.get? b = some o → g.get? b = some o) (r : RepL X.KK H ds ws) (rv : Vals ws us) (hs : ∀ d ∈ ds, shp d = true) (hal : ∀ a ∈ ds, ∀ b ∈ ds, PySem.W.alike (py a) (py b) = true) (hi : us[i]? = some u) (hd : d ∈ ds) (rd : Reads g u (py d) bs) : ∃ v, RelV v u ∧ Rep X.KK H d v := by
  have h1 : i < us.length := (List.getElem?_eq_some_iff.mp hi).1
  have h2 : i < ds.length := by rw [r.length, rv.length]; exact h1
  obtain ⟨v, hv, rr⟩ := r.get (List.getElem?_eq_getElem h2)
  obtain ⟨u', hu', rel⟩ := rv.get hv
  rw [hi] at hu'; cases hu'
  have hm : ds[i] ∈ ds := List.getElem_mem h2
  obtain ⟨as, r2⟩ := is_reads I (.rep rr) (shp_flat (hs _ hm)) rel
  have e := PySem.W.alike_unique _ _ _ _ _ (hal _ hm _ hd) (PyProof.Rows.Reads.keeps hk r2) rd
  rw [py_inj (shp_flat (hs _ hm)) (shp_flat (hs _ hd)) e] at rr
  exact ⟨v, rel, rr⟩
theorem flatL_of {l : List D} (h : ∀ d ∈ l, shp d = true) : flatL l = true := by
  induction l with
  | nil => rfl
  | cons y l ih => simp only [flatL, Bool.and_eq_true]; exact ⟨shp_flat (h y List.mem_cons_self), ih fun z hz => h z (List.mem_cons_of_mem _ hz)⟩
theorem min_call {a : Addr} {x : D} {ds : List D} {ws : List V} {Q : VK} (hc : X.calm = true) (hu : X.A.units + 70 < cLine) (I : Inv X pins σ H s) (hl : SqL X.KK H a ws) (r : RepL X.KK H (x :: ds) ws) (hm : mmOk (x :: ds) = true) (q : ∀ H' v, Same H H' → Rep X.KK H' (minL x ds) v → Q v H') :
    wpAny (model X.prog X.w) X.A (call (.builtin "min") [.ref a]) (EP X pins σ Q) X.xe s := by
  obtain ⟨m1, m2⟩ := mm_split hm
  obtain ⟨its, rv, p, hz⟩ := I.list hl
  obtain ⟨as, rd⟩ := Dp.readsAll I (pyL (x :: ds)) ws its (r.dp (flatL_of m2)) rv
  have rd' : ReadsAll s.heap its.toArray.toList (py x :: pyL ds) as := rd
  refine PySem.W.min_list_data (I.ok.hd hc) p.isList rd' m1 ?_ fun i u g tk bs hi hr hk => ?_
  · have e : PyData.depthAll (py x :: pyL ds) = depL (x :: ds) := pyL_depth (x :: ds)
    have := depL_shp m2
    omega
  · rw [← minL_py] at hr
    obtain ⟨v, rel, rr⟩ := item_rep I hk r rv m2 (fun a ha b hb => m1.1 _ (by rw [pyL_map]; exact List.mem_map_of_mem ha) _ (by rw [pyL_map]; exact List.mem_map_of_mem hb)) (by simpa using hi) (minL_mem x ds) hr
    exact ⟨v, H, I.kept (h' := g) (t' := tk) hk, rel, q H v (Same.refl H) rr⟩
theorem max_call {a : Addr} {x : D} {ds : List D} {ws : List V} {Q : VK} (hc : X.calm = true) (hu : X.A.units + 70 < cLine) (I : Inv X pins σ H s) (hl : SqL X.KK H a ws) (r : RepL X.KK H (x :: ds) ws) (hm : mmOk (x :: ds) = true) (q : ∀ H' v, Same H H' → Rep X.KK H' (maxL x ds) v → Q v H') :
    wpAny (model X.prog X.w) X.A (call (.builtin "max") [.ref a]) (EP X pins σ Q) X.xe s := by
  obtain ⟨m1, m2⟩ := mm_split hm
  obtain ⟨its, rv, p, hz⟩ := I.list hl
  obtain ⟨as, rd⟩ := Dp.readsAll I (pyL (x :: ds)) ws its (r.dp (flatL_of m2)) rv
  have rd' : ReadsAll s.heap its.toArray.toList (py x :: pyL ds) as := rd
  refine PySem.W.max_list_data (I.ok.hd hc) p.isList rd' m1 ?_ fun i u g tk bs hi hr hk => ?_
  · have e : PyData.depthAll (py x :: pyL ds) = depL (x :: ds) := pyL_depth (x :: ds)
    have := depL_shp m2
    omega
  · rw [← maxL_py] at hr
    obtain ⟨v, rel, rr⟩ := item_rep I hk r rv m2 (fun a ha b hb => m1.1 _ (by rw [pyL_map]; exact List.mem_map_of_mem ha) _ (by rw [pyL_map]; exact List.mem_map_of_mem hb)) (by simpa using hi) (maxL_mem x ds) hr
    exact ⟨v, H, I.kept (h' := g) (t' := tk) hk, rel, q H v (Same.refl H) rr⟩
/-- len of a dict -/
theorem len_dct {a : Addr} {es : List DictEntry} {c : Bool} {ks ds : List D} {kus vus : List V} {Q : VK} (I : Inv X pins σ H s) (h : Rd H a (DctAt a es)) (d : DAt X.KK H a es c ks ds kus vus) (q : Q (.int ks.length) H) :
    wpAny (model X.prog X.w) X.A (call (.builtin "len") [.ref a]) (EP X pins σ Q) X.xe s := by
  have hz := d.ents.len
  have hl := d.len
  rw [sizeLine_eq] at hl
  cases c with
  | true =>
    obtain ⟨xs, dd, _, _, hx⟩ := dictH I h d
    refine call_len_dictH d.sys dd (by omega) ?_
    rw [hx, hz]
    exact ⟨.int ks.length, H, I.tok _, ⟨_, rfl⟩, q⟩
  | false =>
    obtain ⟨ys, dd, _, hy⟩ := dictF I h d
    refine call_len_dict d.sys dd (by omega) ?_
    rw [hy, hz]
    exact ⟨.int ks.length, H, I.tok _, ⟨_, rfl⟩, q⟩
end
end Sh

/-! subscripts, slices, built-in functions, isinstance -/
namespace Sh
open PySem PySem.Spec PyProof.Rows L2

section
variable {K : KW} {H H' : Hp} {ι ι' : List Addr} {h : DH}
theorem atI_rep {ds : List D} {vs : List V} {i : Int} {d : D} (r : RepL K H ds vs) (e : atI ds i = some d) : ∃ v, atI vs i = some v ∧ Rep K H d v := by
  unfold atI at *
  simp only [Option.bind_eq_some_iff] at e
  obtain ⟨j, h1, h2⟩ := e
  obtain ⟨v, h3, h4⟩ := r.get h2
  exact ⟨v, by rw [← r.length, h1]; exact h3, h4⟩
theorem atI_repW {ds : List W} {vs : List V} {i : Int} {d : W} (r : RepWL K ι H ds vs) (e : atI ds i = some d) : ∃ v, atI vs i = some v ∧ RepW K ι H d v := by
  unfold atI at *
  simp only [Option.bind_eq_some_iff] at e
  obtain ⟨j, h1, h2⟩ := e
  obtain ⟨v, h3, h4⟩ := r.get h2
  exact ⟨v, by rw [← r.length, h1]; exact h3, h4⟩
theorem atI_mem {α : Type} {xs : List α} {i : Int} {x : α} (e : atI xs i = some x) : x ∈ xs := by
  unfold atI at e
  simp only [Option.bind_eq_some_iff] at e
  obtain ⟨j, _, h2⟩ := e
  exact List.mem_of_getElem? h2
theorem RepL.cut {ds : List D} {vs : List V} (r : RepL K H ds vs) (lo hi : Option Int) : RepL K H (cutL ds lo hi) (cutV vs lo hi) := by
  unfold cutL cutV
  rw [r.length]
  exact (r.drop _).take _
end

/-- x[i] by data -/
def rIxW (K : KW) : R2 := fun x y H Q => ∃ ι h a b w, SR K ι H h ∧ RepW K ι H a x ∧ RepW K ι H b y ∧ ixW h a b = some w ∧ Post K ι H w h Q
section
variable {X : Cx}
/-- a dict's subscript -/
theorem sub_dct {value slice : Expr} {v u : Value} {s : Shared} {Q : Value → Shared → Prop} {E : Value → Shared → Prop} {A : Around} (ht : s.TypeIs v "dict") (he : subscripted slice false v u = operate [v, u] (getItem v u)) (h : wpAny (model X.prog X.w) A (getItem v u) Q E s) : wpAny (model X.prog X.w) A (subscriptTail value slice v u) Q E s := by
  unfold subscriptTail
  refine wpAny_bind ?_
  rw [getitemInPython_of_ne ht.not_modules]
  refine wpAny_bind (wpAny_specialOf ht PySem.F.slot_dict_getitem.lookup ?_)
  have road : wpAny (model X.prog X.w) A (subscripted slice false v u) (fun r s3 => wpAny (model X.prog X.w) A (letTemporaryGo value v r >>= fun _ => pure r) Q E s3) E s := by
    rw [he]
    exact wpAny_operating (wpAny_mono h (fun r s3 h3 => wpAny_bind (wpAny_letTemporaryGo (wpAny_pure h3))) fun _ _ z => z)
  first
    | exact wpAny_pure (wpAny_bind road)
    | exact wpAny_bind (wpAny_pure (wpAny_bind road))
    | exact wpAny_bind road
theorem ix_dct {c : Bool} {ks ds : List D} {k d : D} {x y : V} {v u : Value} {value slice : Expr} {pins : List (Addr × Obj)} {s : Shared} {σ : L2.St} {H : Hp} {Q : VK} (hu : X.A.units + 65 < cLine) (I : Inv X pins σ H s) (rx : RelV x v) (ry : RelV y u) (hs : subscripted slice false v u = operate [v, u] (getItem v u))
    (ix : Is X.KK H (.dct c ks ds) x) (iy : Is X.KK H k y) (e : ixD (.dct c ks ds) k = some d) (q : ∀ H' v, Same H H' → Rep X.KK H' d v → Q v H') : wpAny (model X.prog X.w) X.A (subscriptTail value slice v u) (EP X pins σ Q) X.xe s := by
  simp only [ixD] at e
  split at e
  · rename_i hc
    obtain ⟨a, es, kus, vus, rfl, hr, dt⟩ := ix.dctA
    obtain rfl : v = .ref a := rx
    exact sub_dct (dct_sys I hr).1 hs (x_getItem (by omega) I hr dt hc (iy.repk hc) ry e fun z w' s' I' rz rr => ⟨z, H, I', rz, q H z (Same.refl H) rr⟩)
  · cases e
theorem ixr (hu : X.A.units + 65 < cLine) : IxR X (rIxW X.KK) := by
  intro value slice pins s σ H x y v u Q I rx ry hq hs
  obtain ⟨ι, h, a, b, w, sr, ra, rb, e, q⟩ := hq
  cases ra with
  | @d dx _ ra =>
    cases rb with
    | @ref n c hn => simp [ixW] at e
    | @d dy _ rb =>
      simp only [ixW, Option.map_eq_some_iff] at e
      obtain ⟨d, e, rfl⟩ := e
      have hdct : (∃ c ks ds, dx = .dct c ks ds) ∨ ∀ c ks ds, dx ≠ .dct c ks ds := by
        cases dx <;> first | exact .inl ⟨_, _, _, rfl⟩ | (right; intro _ _ _ z; cases z)
      rcases hdct with ⟨c, ks, ds, rfl⟩ | hdct
      · exact ix_dct hu I rx ry hs (.rep ra) (.rep rb) e fun H' v p r => q ι H' v (.same p) (sr.same p) (.d r)
      cases rb <;> cases ra <;> first | (exact absurd rfl (hdct _ _ _)) | simp only [ixD, reduceCtorEq] at e
      · rename_i i s' ho
        split at e
        · rename_i hl
          simp only [Option.map_eq_some_iff] at e
          obtain ⟨c, e, rfl⟩ := e
          refine ix_str value slice pins s σ H _ _ v u Q I rx ry ⟨_, i, c, rfl, rfl, by rw [str_length, ← line_eq]; exact hl, by simpa using e, ?_⟩ hs
          refine q.now sr (.d (.str [c] ?_))
          have hm := atI_mem e
          unfold okCp at ho ⊢
          simp only [List.all_eq_true] at ho
          simp only [List.all_cons, List.all_nil, Bool.and_true]
          exact ho c hm
        · cases e
      · rename_i i a vs ds hq' r
        obtain ⟨v', h1, h2⟩ := atI_rep r e
        exact ix_tup value slice pins s σ H _ _ v u Q I rx ry ⟨a, vs, i, v', rfl, rfl, hq', h1, q.now sr (.d h2)⟩ hs
      · rename_i i a vs ds hq' r
        obtain ⟨v', h1, h2⟩ := atI_rep r e
        exact ix_list value slice pins s σ H _ _ v u Q I rx ry ⟨a, vs, i, v', rfl, rfl, hq'.sql, h1, q.now sr (.d h2)⟩ hs
  | @ref n a hn =>
    cases rb with
    | @ref n c hn => simp [ixW] at e
    | @d dy _ rb =>
      simp only [ixW] at e
      split at e
      · rename_i ws hc
        split at e
        · rename_i i
          cases rb
          obtain ⟨vs, hv, r⟩ := sr.cell n _ a hc hn
          obtain ⟨v', h1, h2⟩ := atI_repW r e
          exact ix_list value slice pins s σ H _ _ v u Q I rx ry ⟨a, vs, i, v', rfl, rfl, .inl (.inl hv), h1, q.now sr h2⟩ hs
        · cases e
      · rename_i c ks ds hc
        simp only [Option.map_eq_some_iff] at e
        obtain ⟨d, e, rfl⟩ := e
        exact ix_dct hu I rx ry hs (RepW.is sr (.ref hn) (by simp only [valD, hc])) (.rep rb) e fun H' v p r => q ι H' v (.same p) (sr.same p) (.d r)
      · cases e

/-- x[lo:hi] by data -/
def rSlD (K : KW) : V → Option Int → Option Int → Hp → VK → Prop := fun x lo hi H Q => ∃ da d, Is K H da x ∧ slD da lo hi = some d ∧ ∀ H' v, Same H H' → Rep K H' d v → Q v H'
theorem cutS_eq (xs : List Nat) (lo hi : Option Int) : cutS ⟨xs.toArray⟩ lo hi = ⟨(cutL xs lo hi).toArray⟩ := by
  unfold cutS cutL
  simp [str_length]
theorem okCp_sub {x y : List Nat} (h : okCp x = true) (hs : ∀ z ∈ y, z ∈ x) : okCp y = true := by
  unfold okCp at *
  rw [List.all_eq_true] at *
  exact fun z hz => h z (hs z hz)
theorem cutL_sub {α : Type} (xs : List α) (lo hi : Option Int) : ∀ z ∈ cutL xs lo hi, z ∈ xs := fun z hz => List.mem_of_mem_drop (List.mem_of_mem_take hz)
theorem slr : SlR X (rSlD X.KK) := by
  intro pins s σ H x v vl vu lo hi sl Q I rx hs pl pu hq
  obtain ⟨da, d, ia, e, q⟩ := hq
  cases da <;> simp only [slD, reduceCtorEq, Option.some.injEq] at e
  · rename_i xs
    split at e
    · rename_i hl
      cases e
      obtain ⟨rfl, o1⟩ := ia.str
      refine sl_str pins s σ H _ v vl vu lo hi sl Q I rx hs pl pu ⟨_, rfl, by rw [str_length, ← line_eq]; exact hl, ?_⟩
      rw [cutS_eq]
      exact q H _ (Same.refl H) (.str _ (okCp_sub o1 (cutL_sub _ _ _)))
    · cases e
  · rename_i xs
    subst e
    obtain ⟨a, vs, rfl, h1, r1⟩ := ia.tup
    refine sl_tupA pins s σ H _ v vl vu lo hi sl Q I rx hs pl pu ⟨a, vs, rfl, h1, fun hw => ?_, fun _ p hp => ?_⟩
    · refine q H _ (Same.refl H) (.tup h1 ?_)
      have e : cutV vs lo hi = vs := by unfold cutV; rw [hw.1, hw.2]; simp
      have := r1.cut lo hi
      rw [e] at this
      exact this
    · exact q _ _ (same_upd hp) (.mkt hp (r1.cut lo hi))
  · rename_i xs
    subst e
    obtain ⟨a, vs, rfl, h1, r1⟩ := ia.sq
    obtain ⟨T, id, t1, t2, t3⟩ := sl_list pins s σ H _ v vl vu lo hi sl (fun v H' => ∃ p vs, v = .ref p ∧ H' p = some (.lst vs) ∧ ∀ o, Q v (upd H' p (.frz o (.lst vs)))) I rx hs pl pu
      ⟨a, vs, rfl, .inl h1, fun p hp => ⟨p, _, rfl, upd_same, fun o => by rw [upd_upd]; exact q _ _ (same_upd hp) (.mkl hp (r1.cut lo hi))⟩⟩
    exact ⟨T, id, t1, t2, thn t3 fun _ _ => EP.frz⟩

/-- a list of data -/
inductive IsL (K : KW) (H : Hp) : List D → List V → Prop
  | nil : IsL K H [] []
  | cons {d : D} {v : V} {ds : List D} {vs : List V} : Is K H d v → IsL K H ds vs → IsL K H (d :: ds) (v :: vs)
/-- a built-in function by data -/
def rBif (K : KW) (b : Bif) : List V → Hp → VK → Prop := fun xs H Q => ∃ ds d, IsL K H ds xs ∧ bifD b ds = some d ∧ ∀ H' v, Same H H' → Rep K H' d v → Q v H'
theorem blsD_eq : ∀ {ds : List D} {bs : List Bool}, blsD ds = some bs → ds = bs.map D.bl
  | [], _, e => by simp [blsD] at e; subst e; rfl
  | .bl b :: r, _, e => by
    simp only [blsD, Option.map_eq_some_iff] at e
    obtain ⟨bs, h, rfl⟩ := e
    rw [blsD_eq h]; rfl
  | .non :: _, _, e => by simp [blsD] at e
  | .int _ :: _, _, e => by simp [blsD] at e
  | .str _ :: _, _, e => by simp [blsD] at e
  | .tup _ :: _, _, e => by simp [blsD] at e
  | .lst _ :: _, _, e => by simp [blsD] at e
  | .dct .. :: _, _, e => by simp [blsD] at e
  | .scr _ :: _, _, e => by simp [blsD] at e
theorem intsD_eq : ∀ {ds : List D} {bs : List Int}, intsD ds = some bs → ds = bs.map D.int
  | [], _, e => by simp [intsD] at e; subst e; rfl
  | .int b :: r, _, e => by
    simp only [intsD, Option.map_eq_some_iff] at e
    obtain ⟨bs, h, rfl⟩ := e
    rw [intsD_eq h]; rfl
  | .non :: _, _, e => by simp [intsD] at e
  | .bl _ :: _, _, e => by simp [intsD] at e
  | .str _ :: _, _, e => by simp [intsD] at e
  | .tup _ :: _, _, e => by simp [intsD] at e
  | .lst _ :: _, _, e => by simp [intsD] at e
  | .dct .. :: _, _, e => by simp [intsD] at e
  | .scr _ :: _, _, e => by simp [intsD] at e
def bifV : Bif → Value
  | .len => .builtin "len"
  | .abs => .builtin "abs"
  | .int1 => .type "int"
  | .tuple => .type "tuple"
  | .all => .builtin "all"
  | .any => .builtin "any"
  | .sum => .builtin "sum"
  | .min2 => .builtin "min"
  | .max2 => .builtin "max"
  | .gcd => .builtin "math.gcd"
  | .str1 => .type "str"
  | .sorted => .builtin "sorted"
theorem isl1 {K : KW} {H : Hp} {d : D} {xs : List V} (r : IsL K H [d] xs) : ∃ v, xs = [v] ∧ Is K H d v := by
  cases r with | cons a b => cases b; exact ⟨_, rfl, a⟩
theorem isl2 {K : KW} {H : Hp} {d e : D} {xs : List V} (r : IsL K H [d, e] xs) : ∃ v u, xs = [v, u] ∧ Is K H d v ∧ Is K H e u := by
  cases r with | cons a b => cases b with | cons b c => cases c; exact ⟨_, _, rfl, a, b⟩
theorem bifR (hc : X.calm = true) (hu : X.A.units + 70 < cLine) (b : Bif) : CallR X (bifV b) (rBif X.KK b) := by
  intro pins s σ H xs us Q I rs hq
  obtain ⟨ds, d, il, e, q⟩ := hq
  unfold bifD at e
  split at e <;> (try simp only [Option.some.injEq, Option.map_eq_some_iff, reduceCtorEq] at e)
  · subst e
    obtain ⟨v, rfl, i⟩ := isl1 il
    obtain ⟨a, vs, rfl, h1, r1⟩ := i.sq
    exact call_len_seq pins s σ H _ us Q I rs ⟨a, vs, rfl, .inl (.inl h1), by rw [← r1.length]; exact q H _ (Same.refl H) (.int _)⟩
  · subst e
    obtain ⟨v, rfl, i⟩ := isl1 il
    obtain ⟨a, vs, rfl, h1, r1⟩ := i.tup
    exact call_len_seq pins s σ H _ us Q I rs ⟨a, vs, rfl, .inr h1, by rw [← r1.length]; exact q H _ (Same.refl H) (.int _)⟩
  · split at e
    · rename_i hl
      cases e
      obtain ⟨v, rfl, i⟩ := isl1 il
      obtain ⟨rfl, o1⟩ := i.str
      exact call_len_str pins s σ H _ us Q I rs ⟨_, rfl, by rw [str_length, ← line_eq]; exact hl, by rw [str_length]; exact q H _ (Same.refl H) (.int _)⟩
    · cases e
  · subst e
    obtain ⟨v, rfl, i⟩ := isl1 il
    obtain rfl := i.int
    exact call_abs pins s σ H _ us Q I rs ⟨_, rfl, q H _ (Same.refl H) (.int _)⟩
  · subst e
    obtain ⟨v, rfl, i⟩ := isl1 il
    obtain rfl := i.int
    exact call_int1 pins s σ H _ us Q I rs (.inl ⟨_, rfl, q H _ (Same.refl H) (.int _)⟩)
  · subst e
    obtain ⟨v, rfl, i⟩ := isl1 il
    obtain rfl := i.bl
    exact call_int1 pins s σ H _ us Q I rs (.inr ⟨_, rfl, q H _ (Same.refl H) (.int _)⟩)
  · subst e
    obtain ⟨v, rfl, i⟩ := isl1 il
    obtain ⟨a, vs, rfl, h1, r1⟩ := i.tup
    exact call_tuple_of pins s σ H _ us Q I rs ⟨a, vs, rfl, .inr ⟨h1, q H _ (Same.refl H) (.tup h1 r1)⟩⟩
  · subst e
    obtain ⟨v, rfl, i⟩ := isl1 il
    obtain ⟨a, vs, rfl, h1, r1⟩ := i.sq
    exact call_tuple_of pins s σ H _ us Q I rs ⟨a, vs, rfl, .inl ⟨.inl h1, fun l hl => q _ _ (same_upd hl) (.mkt hl r1)⟩⟩
  · obtain ⟨bs, hb, rfl⟩ := e
    obtain ⟨v, rfl, i⟩ := isl1 il
    obtain ⟨a, vs, rfl, h1, r1⟩ := i.sq
    rw [blsD_eq hb] at r1
    rw [r1.bls] at h1
    exact cr_all hc pins s σ H _ us Q I rs ⟨a, bs, rfl, .inl h1, q H _ (Same.refl H) (.bl _)⟩
  · obtain ⟨bs, hb, rfl⟩ := e
    obtain ⟨v, rfl, i⟩ := isl1 il
    obtain ⟨a, vs, rfl, h1, r1⟩ := i.sq
    rw [blsD_eq hb] at r1
    rw [r1.bls] at h1
    exact cr_any hc pins s σ H _ us Q I rs ⟨a, bs, rfl, .inl h1, q H _ (Same.refl H) (.bl _)⟩
  · obtain ⟨bs, hb, rfl⟩ := e
    obtain ⟨v, rfl, i⟩ := isl1 il
    obtain ⟨a, vs, rfl, h1, r1⟩ := i.sq
    rw [intsD_eq hb] at r1
    rw [r1.ints] at h1
    exact cr_sum hc pins s σ H _ us Q I rs ⟨a, bs, rfl, .inl h1, q H _ (Same.refl H) (.int _)⟩
  · subst e
    obtain ⟨v, u, rfl, i1, i2⟩ := isl2 il
    obtain rfl := i1.int
    obtain rfl := i2.int
    exact call_min2 hc pins s σ H _ us Q I rs ⟨_, _, rfl, q H _ (Same.refl H) (.int _)⟩
  · subst e
    obtain ⟨v, u, rfl, i1, i2⟩ := isl2 il
    obtain rfl := i1.int
    obtain rfl := i2.int
    exact call_max2 hc pins s σ H _ us Q I rs ⟨_, _, rfl, q H _ (Same.refl H) (.int _)⟩
  · subst e
    obtain ⟨v, rfl, i⟩ := isl1 il
    obtain ⟨rfl, o1⟩ := i.str
    exact SkE.call_str_str pins s σ H _ us Q I rs ⟨_, rfl, q H _ (Same.refl H) (.str _ o1)⟩
  · subst e
    obtain ⟨v, u, rfl, i1, i2⟩ := isl2 il
    obtain rfl := i1.int
    obtain rfl := i2.int
    exact cr_gcd pins s σ H _ us Q I rs ⟨_, _, rfl, q H _ (Same.refl H) (.int _)⟩
  · subst e
    obtain ⟨v, rfl, i⟩ := isl1 il
    obtain ⟨a, es, kus, vus, rfl, hr, dt⟩ := i.dctA
    obtain ⟨u, rfl, rx⟩ := vals1 rs
    obtain rfl : u = .ref a := rx
    exact len_dct I hr dt (q H _ (Same.refl H) (.int _))
  · split at e
    · rename_i hs
      cases e
      obtain ⟨v, rfl, i⟩ := isl1 il
      obtain ⟨a, vs, rfl, h1, r1⟩ := i.sq
      obtain ⟨u, rfl, rx⟩ := vals1 rs
      obtain rfl : u = .ref a := rx
      obtain ⟨its, rv, hcl⟩ := coll_list (A := X.A.in1) I (.inl h1)
      exact sorted_coll hu I hcl rv r1 hs q
    · cases e
  · split at e
    · rename_i hs
      cases e
      obtain ⟨v, rfl, i⟩ := isl1 il
      obtain ⟨a, vs, rfl, h1, r1⟩ := i.tup
      obtain ⟨u, rfl, rx⟩ := vals1 rs
      obtain rfl : u = .ref a := rx
      obtain ⟨its, rv, hcl⟩ := coll_tup (A := X.A.in1) I h1
      exact sorted_coll hu I hcl rv r1 hs q
    · cases e
  · split at e
    · rename_i hs
      cases e
      obtain ⟨v, rfl, i⟩ := isl1 il
      obtain ⟨a, es, kus, vus, rfl, hr, dt⟩ := i.dctA
      obtain ⟨u, rfl, rx⟩ := vals1 rs
      obtain rfl : u = .ref a := rx
      exact sorted_coll hu I (coll_dct (A := X.A.in1) (I.ok.hd hc) I hr dt) (ents_keys dt.ents) dt.rk hs q
    · cases e
  · split at e
    · rename_i hs
      cases e
      obtain ⟨v, rfl, i⟩ := isl1 il
      obtain ⟨a, vs, rfl, h1, r1⟩ := i.sq
      obtain ⟨u, rfl, rx⟩ := vals1 rs
      obtain rfl : u = .ref a := rx
      exact min_call hc hu I (.inl h1) r1 hs q
    · cases e
  · split at e
    · rename_i hs
      cases e
      obtain ⟨v, rfl, i⟩ := isl1 il
      obtain ⟨a, vs, rfl, h1, r1⟩ := i.sq
      obtain ⟨u, rfl, rx⟩ := vals1 rs
      obtain rfl : u = .ref a := rx
      exact max_call hc hu I (.inl h1) r1 hs q
    · cases e

/-- isinstance -/
def tyS : Ty → String
  | .int => "int" | .bool => "bool" | .str => "str" | .tuple => "tuple" | .list => "list"
theorem kit_all (d : D) (t : Ty) (n : String) (h : dTy d = some n) : kitB n (tyS t) = some (isD d t) := by
  cases d <;> cases t <;> simp only [dTy, Option.some.injEq, reduceCtorEq] at h <;> subst h <;> simp only [isD, tyS] <;> decide +kernel
theorem rep_ty {K : KW} {H : Hp} {d : D} {v : V} {n : String} (r : Is K H d v) (h : dTy d = some n) : TyX K H v (.type n) := by
  cases r with
  | rep r =>
    cases r <;> simp only [dTy, Option.some.injEq, reduceCtorEq] at h <;> subst h
    · exact .base .non
    · exact .base (.bl _)
    · exact .base (.int _)
    · exact .base (.str _)
    · rename_i q r
      rcases q with (q | ⟨o, q⟩) | ⟨o, its, m, h1, h2, _⟩
      · exact .base (.tup q)
      · exact .fTuple q
      · exact .kTuple h1 h2
    · rename_i q r
      obtain ⟨o, q⟩ := q
      exact .base (.frz q)
  | lst q r =>
    simp only [dTy, Option.some.injEq] at h
    subst h
    exact .base (.lst q)
  | dct => simp [dTy] at h
def rIsD (K : KW) (t : Ty) : List V → Hp → VK → Prop := fun xs H Q => ∃ x d n, xs = [x, .ty (tyS t)] ∧ Is K H d x ∧ dTy d = some n ∧ Q (.bl (isD d t)) H
theorem isiR (t : Ty) : CallR X (.builtin "isinstance") (rIsD X.KK t) := by
  intro pins s σ H xs us Q I rs hq
  obtain ⟨x, d, n, rfl, i, h, q⟩ := hq
  exact call_isi pins s σ H _ us Q I rs ⟨x, _, _, _, _, rfl, .ty _, rep_ty i h, kit_ty (kit_all d t n h), q⟩
end
end Sh

/-! more operations: a tuple from behind -/
namespace Sh
open PySem PySem.Spec PyProof.Rows L2 HT

theorem fm_congr {α β : Type} {f g : α → Option β} : ∀ {l : List α}, (∀ k ∈ l, f k = g k) → l.filterMap f = l.filterMap g
  | [], _ => rfl
  | x :: l, h => by rw [List.filterMap_cons, List.filterMap_cons, h x (by simp), fm_congr fun k hk => h k (by simp [hk])]
section
variable {prog : Program} {w : World} {A : Around} {E : Value → Shared → Prop} {s : Shared}
theorem rev_places (n : Nat) : Builtin.Slice.slicePlaces ((n : Int) - 1) (-1) (-1) = n := by
  unfold Builtin.Slice.slicePlaces
  rw [if_neg (by omega)]
  by_cases h : n = 0
  · subst h; rfl
  · rw [if_pos (by omega)]
    have : ((n : Int) - 1 - -1 - 1) / (- -1) = (n : Int) - 1 := by
      have e : (- -1 : Int) = 1 := rfl
      rw [e, Int.ediv_one]; omega
    rw [this]; omega
theorem rev_pick (xs : List Value) : (List.range xs.length).filterMap (fun (k : Nat) => xs.toArray[((xs.length : Int) - 1 + (k : Int) * (-1)).toNat]?) = xs.reverse := by
  have e : ∀ k ∈ List.range xs.length, xs.toArray[((xs.length : Int) - 1 + (k : Int) * (-1)).toNat]? = xs.reverse[k]? := by
    intro k hk
    have hk' := List.mem_range.mp hk
    have : ((xs.length : Int) - 1 + (k : Int) * (-1)).toNat = xs.length - 1 - k := by omega
    rw [this, List.getElem?_reverse hk']
    simp
  have e2 : (List.range xs.length).filterMap (fun (k : Nat) => xs.toArray[((xs.length : Int) - 1 + (k : Int) * (-1)).toNat]?) = (List.range xs.length).filterMap (fun k => xs.reverse[k]?) := fm_congr e
  rw [e2]
  have h3 : ∀ ys : List Value, (List.range ys.length).filterMap (fun k => ys[k]?) = ys := by
    intro ys
    induction ys with
    | nil => rfl
    | cons y ys ih =>
      rw [List.length_cons, List.range_succ_eq_map, List.filterMap_cons]
      simp only [List.getElem?_cons_zero, List.filterMap_map]
      refine congrArg _ (Eq.trans ?_ ih)
      exact fm_congr fun k _ => by simp
  have := h3 xs.reverse
  rwa [List.length_reverse] at this
theorem rev_applied {sl : Addr} {n : Nat} {vl vu vs : Value} {Q : Int × Int × Nat → Shared → Prop} (hs : s.heap.IsSliceOf sl vl vu vs) (pl : IsPart vl none) (pu : IsPart vu none) (ps : IsPart vs (some (-1)))
    (h : Q ((n : Int) - 1, -1, n) s) : wpAny (model prog w) A (Builtin.Slice.sliceApplied (.ref sl) (pure (n : Int))) Q E s := by
  obtain ⟨ob, ho, hcl, hdt⟩ := hs
  unfold Builtin.Slice.sliceApplied Builtin.Slice.sliceFields
  refine wpAny_bind (wpAny_bind (wpAny_field ho hdt (x := vl) rfl ?_))
  refine wpAny_bind (wpAny_field ho hdt (x := vu) rfl ?_)
  refine wpAny_bind (wpAny_field ho hdt (x := vs) rfl (wpAny_pure ?_))
  refine wpAny_bind (slicePart_ ps ?_)
  show wpAny _ _ (if ((-1 : Int) == 0) = true then _ else _) _ _ s
  rw [if_neg (by decide)]
  refine wpAny_bind (slicePart_ pl ?_)
  refine wpAny_bind (slicePart_ pu (wpAny_bind (wpAny_pure ?_)))
  show wpAny _ _ (match Builtin.Slice.sliceAdjust none none (-1) (n : Int) with | (lo, hi) => pure (lo, (-1 : Int), Builtin.Slice.slicePlaces lo hi (-1))) _ _ s
  have e : Builtin.Slice.sliceAdjust none none (-1) (n : Int) = ((n : Int) - 1, -1) := by
    unfold Builtin.Slice.sliceAdjust
    simp
  rw [e]
  show wpAny _ _ (pure ((n : Int) - 1, (-1 : Int), Builtin.Slice.slicePlaces ((n : Int) - 1) (-1) (-1))) _ _ s
  rw [rev_places]
  exact wpAny_pure h
theorem tup_rev {t sl : Addr} {its : List Value} {vl vu vs : Value} {Q : Value → Shared → Prop} (ht : IsTup s.heap t its.toArray) (hs : s.heap.IsSliceOf sl vl vu vs) (pl : IsPart vl none) (pu : IsPart vu none) (ps : IsPart vs (some (-1)))
    (hz : its.length ≤ sizeLine) (h : Q (.ref s.heap.objs.size) { s with heap := s.heap.push { cls := .type "tuple", data := .seq its.reverse.toArray } }) : wpAny (model prog w) A (getItem (.ref t) (.ref sl)) Q E s := by
  have hfit : sizeOk (.seq its.reverse.toArray) := by
    show its.reverse.toArray.size ≤ sizeLine
    rw [List.size_toArray, List.length_reverse]; exact hz
  obtain ⟨ob, ho, hcl, hdt⟩ := id hs
  have hSl : s.TypeIs (.ref sl) "slice" := ⟨ob, ho, hcl⟩
  unfold getItem
  try with_reducible refine wpAny_holding ?_
  first | refine wpAny_bind (wpAny_pure ?_) | skip
  refine wpAny_bind (wpAny_sequenceKey ht.typeIs (by decide) ?_)
  have slot := PyProof.Rows.slot_tuple_getitem
  refine wpAny_bind (wpAny_callSpecial?_slot (name := Str.ofString "__getitem__") ht.typeIs slot ?_)
  refine wpAny_call_entry slot ht.typeIs entry_tuple_getitem ?_ (args_tuple_getitem _ _)
  show wpAny _ _ (Builtin.Tuple.tupleItemsOf (.ref t) >>= _) _ _ s
  refine wpAny_bind (tupleItemsOf_ ht ?_)
  refine wpAny_bind (wpAny_typeOf hSl ?_)
  rw [if_pos (by decide)]
  rw [List.size_toArray]
  refine wpAny_bind (rev_applied hs pl pu ps ?_)
  have hno : ¬ (((its.length : Int) - 1 == 0 && (-1 : Int) == 1 && its.length == its.toArray.size) = true) := by simp
  show wpAny _ _ (if ((its.length : Int) - 1 == 0 && (-1 : Int) == 1 && its.length == its.toArray.size) = true then _ else _) _ _ s
  rw [if_neg hno, rev_pick]
  first
    | exact wpAny_bind (m := Builtin.Tuple.tupleExact _) (wpAny_newObj_type (wpAny_pure ⟨_, rfl, wpAny_pure h⟩) hfit)
    | exact wpAny_bind (m := Builtin.Tuple.tupleExact _) (wpAny_newObj_type (wpAny_bind (wpAny_pure (wpAny_pure ⟨_, rfl, wpAny_pure h⟩))) hfit)
    | exact wpAny_bind (wpAny_bind (m := Builtin.Tuple.tupleExact _) (wpAny_newObj_type (wpAny_pure (wpAny_pure ⟨_, rfl, wpAny_pure h⟩)) hfit))
    | exact wpAny_bind (wpAny_bind (m := Builtin.Tuple.tupleExact _) (wpAny_newObj_type (wpAny_pure ⟨_, rfl, wpAny_pure h⟩) hfit))
end
section
variable {X : Cx}
/-- x[::-1] of a list or of a tuple -/
def tRevA (K : PySem.W.Frag) (te : TE) : TE := fun σ H Q => te σ H fun x H1 => ∃ a xs, x = .ref a ∧
  ((SqL K H1 a xs ∧ ∀ p, H1 p = none → Q (.ref p) (upd H1 p (.lst xs.reverse))) ∨ (SqT K H1 a xs ∧ ∀ p, H1 p = none → Q (.ref p) (upd H1 p (.tup xs.reverse))))
theorem pe_revA {e : Expr} {te : TE} {k : Nat} {p1 p2 p3 pos : Pos} (he : PE X e te) : PE X (.Subscript e (.Slice none none (some (.UnaryOp .USub (.Constant (.int 1) k p1) p2)) p3) pos) (tRevA X.K te) := by
  refine ⟨fun pins s σ H Q I h => ?_⟩
  refine Subscript_ (thn (he.run pins s σ H _ I h) fun v s1 ⟨x, H1, I1, r1, q1⟩ => ?_)
  obtain ⟨a, xs, ex, q⟩ := q1
  subst ex
  cases r1
  have hm1 : PO X (some (.UnaryOp .USub (.Constant (.int 1) k p1) p2)) (tPart (tUn (rU fun i => .int (-i)) (tC (.int 1)))) := po_some (pe_un un_neg pe_int)
  have hn : PO X none _ := po_none
  refine wpAny_Slice (thn (hn.run pins s1 σ H1 (fun o H2 => o = none ∧ H2 = H1) I1 ⟨rfl, rfl⟩) fun vl s2 ⟨l, H2, I2, pl, el, e2⟩ => ?_)
  subst el e2
  refine thn (hn.run pins s2 σ H2 (fun o H3 => o = none ∧ H3 = H2) I2 ⟨rfl, rfl⟩) fun vu s3 ⟨u, H3, I3, pu, eu, e3⟩ => ?_
  subst eu e3
  refine thn (hm1.run pins s3 σ H3 (fun o H4 => o = some (-1) ∧ H4 = H3) I3 ⟨1, rfl, -1, rfl, rfl, rfl⟩) fun vs s4 ⟨o, H4, I4, ps, eo, e4⟩ => ?_
  subst eo e4
  let sm : Shared := { s4 with heap := s4.heap.push { cls := .type "slice", data := .fields #[vl, vu, vs] } }
  have I5 : Inv X pins σ H4 sm := I4.kept (t' := s4.toks) fun b ob q => Heap.get?_push_of_some _ q
  show wpAny (model X.prog X.w) X.A (subscriptTail e (.Slice none none (some (.UnaryOp .USub (.Constant (.int 1) k p1) p2)) p3) (.ref a) (.ref s4.heap.objs.size)) (EP X pins σ Q) X.xe sm
  have hsl : sm.heap.IsSliceOf s4.heap.objs.size vl vu vs := Heap.IsSliceOf.new _ vl vu vs
  rcases q with ⟨hx, q⟩ | ⟨hx, q⟩
  · obtain ⟨its, r, ht, hz⟩ := I5.list hx
    have hlen := r.length
    refine tail_any (ops := [.ref a, .ref s4.heap.objs.size]) ht.isList.typeIs (PySem.slot_list_getitem.lookup) ?_ (by with_unfolding_all rfl)
    refine wpAny_getItem_list_slice ht.isList hsl pl pu ps (by decide) ?_ (by rw [List.size_toArray]; omega)
    rw [PySem.W.krv_pick]
    refine ⟨.ref _, _, I5.laid (t' := s4.toks) (o := .lst xs.reverse) (fun b ob q => Heap.get?_push_of_some _ q) (Nat.le_refl _) ?_, rfl, q _ (I5.hok.fresh (Nat.le_refl _))⟩
    exact ⟨by rw [List.length_reverse]; exact hz, _, 0, r.reverse, Heap.get?_push_size _ rfl⟩
  · obtain ⟨its, r, ht, hz⟩ := I5.tuple hx
    have hlen := r.length
    refine tail_any (ops := [.ref a, .ref s4.heap.objs.size]) ht.typeIs (PyProof.Rows.slot_tuple_getitem.lookup) ?_ (by with_unfolding_all rfl)
    refine tup_rev ht hsl pl pu ps (by omega) ?_
    refine ⟨.ref _, _, I5.laid (t' := s4.toks) (o := .tup xs.reverse) (fun b ob q => Heap.get?_push_of_some _ q) (Nat.le_refl _) ?_, rfl, q _ (I5.hok.fresh (Nat.le_refl _))⟩
    exact ⟨by rw [List.length_reverse]; exact hz, _, r.reverse, IsTup.new _ _⟩
end
/-! ### the keys of a dict that stays -/
def Itx (a : Addr) (o : Obj) (es : List DictEntry) (kus : List V) : It :=
  ⟨fun i H => H a = some (.frz o (DctAt a es)) ∧ i < kus.length, fun i H v H' => H' = H ∧ kus[i]? = some v, fun i H => H a = some (.frz o (DctAt a es)) ∧ kus.length ≤ i⟩
theorem frz_dct {X : Cx} {pins : List (Addr × Obj)} {σ : L2.St} {H : Hp} {s : Shared} {a : Addr} {o : Obj} {es : List DictEntry} (I : Inv X pins σ H s) (h : H a = some (.frz o (DctAt a es))) : s.heap.get? a = some o ∧ o.ExactDict ∧ ∃ ea ep, o.data = .dict ea ep ∧ ea.toList = es := by
  obtain ⟨hg, z⟩ := (show ObjOk X.prog X.w H s.heap a (.frz o (DctAt a es)) from I.hok a _ h)
  obtain ⟨o', ea, ep, h1, h2, h3, h4⟩ := dct_raw I (.inr ⟨o, h⟩)
  rw [hg] at h1
  cases h1
  exact ⟨hg, h2, ea, ep, h3, h4⟩
theorem turn_dk {P : Program} {w : World} {K : PySem.W.Frag} {tg : Expr} {a : Addr} {o : Obj} {es : List DictEntry} {kus : List V} {ea : Array DictEntry} {ep : Nat} (it : Addr) (rv : Vals kus (es.map (·.key))) (hod : o.data = .dict ea ep) (hes : ea.toList = es) :
    Turn P w K tg (Itx a o es kus) [it] it (fun i h => h.IsKeyIter it a i kus.length ep) where
  mem := by simp
  obj := fun i h st b hb => by
    obtain rfl : b = it := by simpa using hb
    obtain ⟨oi, e, c, dd⟩ := st
    exact ⟨oi, e, fun v z => by rw [dd] at z; cases z⟩
  keep := fun i h h' st k => st.at fun oi e => k it (by simp) oi e
  item := by
    intro X hP hw hK hc i pins s σ H E I hf st hg
    subst hP hw hK
    obtain ⟨hd, hi⟩ := hg
    obtain ⟨f0, f1, f2, f3, f4, f5⟩ := hf it (by simp)
    obtain ⟨hgd, hx, ea', ep', hdt, hes'⟩ := frz_dct I hd
    rw [hod] at hdt
    cases hdt
    have hlen : kus.length = ea.size := by rw [rv.length, List.length_map, ← hes]; simp
    have hi' : i < ea.size := by omega
    obtain ⟨v, hv⟩ : ∃ v, kus[i]? = some v := ⟨kus[i], List.getElem?_eq_getElem hi⟩
    obtain ⟨u, hu, ru⟩ := rv.get hv
    have hu' : ea[i].key = u := by
      rw [← hes, List.getElem?_map] at hu
      simp only [Array.getElem?_toList, Array.getElem?_eq_getElem hi', Option.map_some, Option.some.injEq] at hu
      exact hu
    refine next_key_item st hgd hod (by omega) (Array.getElem?_eq_getElem hi') fun h' st' sb => ?_
    have I1 : Inv X pins σ H { s with heap := h' } := I.turned (t' := s.toks) (fun b ob hb e => (sb.2 b hb).trans e) f0 f1 f3 f4 f5
    obtain ⟨oi, e, c, dd⟩ := id st'
    exact ⟨_, rfl, go_of (s := { s with heap := h' }) e c dd (by decide) ⟨v, H, I1, by rw [hu']; exact ru, ⟨rfl, hv⟩, st', fun b hb => (hf b hb).1⟩⟩
  done := by
    intro X hP hw hK hc i pins s σ H E I hf st hg
    subst hP hw hK
    obtain ⟨hd, hi⟩ := hg
    obtain ⟨f0, f1, f2, f3, f4, f5⟩ := hf it (by simp)
    obtain ⟨hgd, hx, ea', ep', hdt, hes'⟩ := frz_dct I hd
    rw [hod] at hdt
    cases hdt
    have hlen : kus.length = ea.size := by rw [rv.length, List.length_map, ← hes]; simp
    exact next_key_end (I.ok.hd hc) st hgd hod (by omega) hi fun h' eb => ⟨rfl, I.turned (t' := s.toks) (fun b ob hb e => eb b ob hb e) f0 f1 f3 f4 f5⟩
  self := fun A i s Q E st h => wpAny_pyIter_keyiter st h
end Sh

/-! which Python text is which term of the small language -/
namespace Sh
open PySem PySem.Spec PyProof.Rows L2

structure Cf where
  N : List Str
  fns : List (Option Str)
  cons : List (Option Str)
  /-- gcd is math's -/
  gcd : Bool := false
def visB (sc : Scope) (x : Str) : Bool := decide (sc.names.lookup x = some .local) || decide (sc.names.lookup x = some .cell) || decide (sc.names.lookup x = some .free)
def locB (sc : Scope) (x : Str) : Bool := decide (sc.names.lookup x = some .local) || decide (sc.names.lookup x = some .cell)
def glB (sc : Scope) (x : Str) : Bool := decide (sc.names.lookup x = some .globalImplicit)
def okN (x : Str) : Bool := !(x == ("__debug__" : Str)) && !(x == ("__classdict__" : Str)) && decide (x ≠ "__name__")
def bopO : Operator → Option Bop
  | .Add => some .add | .Sub => some .sub | .Mult => some .mul | .FloorDiv => some .fdiv | .Mod => some .mod | .Pow => some .pow
  | _ => none
def bopC : CmpOp → Option Bop
  | .Eq => some .eq | .NotEq => some .ne | .Lt => some .lt | .LtE => some .le | .Gt => some .gt | .GtE => some .ge
  | .Is => some .is | .IsNot => some .isnot | .In => some .mem | .NotIn => some .nmem
def notSet : Expr → Bool
  | .Set .. => false
  | _ => true
def notSlice : Expr → Bool
  | .Slice .. => false
  | _ => true
def notStar : Expr → Bool
  | .Starred .. => false
  | _ => true
def noStar : List Expr → Bool
  | [] => true
  | e :: r => notStar e && noStar r
def notC0 : Expr → Bool
  | .Call (.Name _ _) [] [] _ => false
  | _ => true
def litB : Const → D → Bool
  | .none, .non => true
  | .bool a, .bl b => a == b
  | .int i, .int j => decide (i = j)
  | .str x, .str s => decide (x = ⟨s.toArray⟩) && okCp s
  | _, _ => false
def bifN : Bif → Str
  | .len => "len" | .abs => "abs" | .int1 => "int" | .tuple => "tuple" | .all => "all" | .any => "any" | .sum => "sum" | .min2 => "min" | .max2 => "max" | .gcd => "gcd" | .str1 => "str" | .sorted => "sorted"
def tyN : Ty → Str
  | .int => "int" | .bool => "bool" | .str => "str" | .tuple => "tuple" | .list => "list"
/-- the names of the built-in things that the small language uses -/
def bltNames : List Str := ["len", "abs", "int", "tuple", "all", "any", "sum", "min", "max", "str", "bool", "list", "isinstance", "range", "enumerate", "zip", "sorted", "set", "dict", "repr"]
def patB (cf : Cf) (sc : Scope) : Pat → Expr → Bool
  | .nm i, .Name x _ => decide (cf.N[i]? = some x) && locB sc x
  | .tup is, .Tuple es _ _ => go is es
  | .two i is, .Tuple [.Name x _, .Tuple es _ _] _ _ => decide (cf.N[i]? = some x) && locB sc x && go is es
  | _, _ => false
where go : List Nat → List Expr → Bool
  | [], [] => true
  | i :: is, .Name x _ :: es => decide (cf.N[i]? = some x) && locB sc x && go is es
  | _, _ => false
/-- what is a value of its own (not only something to walk) -/
def isVal : E → Bool
  | .rng _ => false
  | .enum _ => false
  | .zip _ _ => false
  | .items _ => false
  | _ => true
/-- what list(..) takes -/
def oflOk : E → Bool
  | .enum _ => false
  | .items _ => false
  | _ => true
/-- a test whose truth is its value's -/
def tst : Expr → Bool
  | .IfExp .. => false
  | _ => true
/-- what is walked and a target go together -/
def tgB : E → Expr → Bool
  | .enum _, .Tuple .. => true
  | .enum _, _ => false
  | .zip _ _, .Tuple .. => true
  | .zip _ _, _ => false
  | .items _, .Tuple .. => true
  | .items _, _ => false
  | _, _ => true
/-- the places of a block's own names -/
def ownOf (cf : Cf) (own : List Nat) : List (Str × Nat) := own.filterMap fun i => (cf.N[i]?).map fun x => (x, i)
def ownB (cf : Cf) (sc scope : Scope) (own : List Nat) (vars : List Nat) : Bool :=
  blkC cf.N sc scope (ownOf cf own) && decide ((ownOf cf own).map (·.2) = own) && vars.all fun i => decide (i ∈ own)
mutual
def mE (cf : Cf) : E → Scope → Expr → Bool
  | .var i, sc, e => match e with
    | .Name x _ => decide (cf.N[i]? = some x) && visB sc x && okN x
    | _ => false
  | .lit d, _, e => match e with
    | .Constant c _ _ => litB c d
    | _ => false
  | .con g, sc, e => match e with
    | .Name x _ => decide (cf.cons[g]? = some (some x)) && glB sc x && okN x
    | _ => false
  | .bin o a b, sc, e => match e with
    | .BinOp l op r _ => decide (bopO op = some o) && isVal a && isVal b && mE cf a sc l && mE cf b sc r
    | .Compare l [op] [r] _ => decide (bopC op = some o) && notSet r && isVal a && isVal b && mE cf a sc l && mE cf b sc r
    | _ => false
  | .neg a, sc, e => match e with
    | .UnaryOp .USub x _ => isVal a && mE cf a sc x
    | _ => false
  | .not a, sc, e => match e with
    | .UnaryOp .Not x _ => isVal a && tst x && mE cf a sc x
    | _ => false
  | .and a b, sc, e => match e with
    | .BoolOp .And (x :: y :: r) p => isVal a && isVal b && tst x && mE cf a sc x && (match r with
      | [] => tst y && mE cf b sc y
      | _ => mE cf b sc (.BoolOp .And (y :: r) p))
    | _ => false
  | .or a b, sc, e => match e with
    | .BoolOp .Or (x :: y :: r) p => isVal a && isVal b && tst x && mE cf a sc x && (match r with
      | [] => tst y && mE cf b sc y
      | _ => mE cf b sc (.BoolOp .Or (y :: r) p))
    | _ => false
  | .chain o p a b c, sc, e => match e with
    | .Compare l [op, op'] [m, r] _ => decide (bopC op = some o) && decide (bopC op' = some p) && notSet r && isVal a && isVal b && isVal c && mE cf a sc l && mE cf b sc m && mE cf c sc r
    | _ => false
  | .ite c a b, sc, e => match e with
    | .IfExp t x y _ => isVal c && isVal a && isVal b && tst t && mE cf c sc t && mE cf a sc x && mE cf b sc y
    | _ => false
  | .tup es, sc, e => match e with
    | .Tuple xs _ _ => noStar xs && mEs cf es sc xs
    | _ => false
  | .ix a b, sc, e => match e with
    | .Subscript x y _ => notSlice y && isVal a && isVal b && mE cf a sc x && mE cf b sc y
    | _ => false
  | .sl a lo hi, sc, e => match e with
    | .Subscript x (.Slice l u none _) _ => isVal a && mE cf a sc x && mPart cf lo sc l && mPart cf hi sc u
    | _ => false
  | .rev a, sc, e => match e with
    | .Subscript x (.Slice none none (some (.UnaryOp .USub (.Constant (.int 1) _ _) _)) _) _ => isVal a && mE cf a sc x
    | _ => false
  | .isi a t, sc, e => match e with
    | .Call (.Name f _) [x, .Name n _] [] _ => decide (f = "isinstance") && glB sc f && decide (n = tyN t) && glB sc n && isVal a && notStar x && mE cf a sc x
    | _ => false
  | .bif b es, sc, e => match e with
    | .Call (.Name f _) (x :: xs) [] _ => decide (f = bifN b) && (decide (b ≠ .gcd) || cf.gcd) && glB sc f && noStar (x :: xs) && mEs cf es sc (x :: xs)
    | _ => false
  | .call g es, sc, e => match e with
    | .Call (.Name f _) xs [] _ => decide (cf.fns[g]? = some (some f)) && glB sc f && okN f && noStar xs && mEs cf es sc xs
    | _ => false
  | .mkl m c, sc, e => mC cf c sc e
  | .rng es, sc, e => match e with
    | .Call (.Name f _) xs [] _ => decide (f = "range") && glB sc f && noStar xs && mEs cf es sc xs && decide (1 ≤ xs.length ∧ xs.length ≤ 2)
    | _ => false
  | .enum a, sc, e => match e with
    | .Call (.Name f _) [x] [] _ => decide (f = "enumerate") && glB sc f && notStar x && isVal a && mE cf a sc x
    | _ => false
  | .zip a b, sc, e => match e with
    | .Call (.Name f _) [x, y] [] _ => decide (f = "zip") && glB sc f && notStar x && notStar y && isVal a && isVal b && mE cf a sc x && mE cf b sc y
    | _ => false
  | .items _, _, _ => false
  | .trng es, sc, e => match e with
    | .Call (.Name f _) [.Call (.Name g _) xs [] _] [] _ => decide (f = "tuple") && glB sc f && decide (g = "range") && glB sc g && noStar xs && mEs cf es sc xs && decide (1 ≤ xs.length ∧ xs.length ≤ 2)
    | _ => false
  | .join s a, sc, e => match e with
    | .Call (.Attribute (.Constant (.str z) _ _) m apos) [x] [] cpos => decide (z = ⟨s.toArray⟩) && okCp s && decide (m = "join") && (apos.endLine == cpos.line) && notStar x && isVal a && mE cf a sc x
    | _ => false
  | .idx a b, sc, e => match e with
    | .Call (.Attribute x m apos) [y] [] cpos => decide (m = "index") && (apos.endLine == cpos.line) && notC0 x && notStar y && isVal a && isVal b && mE cf a sc x && mE cf b sc y
    | _ => false
  | .cnt _ _, _, _ => false
  | .get a b c, sc, e => match e with
    | .Call (.Attribute x m apos) (y :: zs) [] cpos => decide (m = "get") && (apos.endLine == cpos.line) && notC0 x && notStar y && noStar zs && isVal a && isVal b && mE cf a sc x && mE cf b sc y && mEs cf c sc zs && decide (zs.length ≤ 1)
    | _ => false
  | .pop i es, sc, e => match e with
    | .Call (.Attribute (.Name n _) m apos) xs [] cpos => decide (m = "pop") && (apos.endLine == cpos.line) && decide (cf.N[i]? = some n) && visB sc n && okN n && noStar xs && mEs cf es sc xs && decide (xs.length ≤ 1)
    | _ => false
  | .lset a, sc, e => match e with
    | .Call (.Name f _) [.Call (.Name g _) [x] [] _] [] _ => decide (f = "len") && glB sc f && decide (g = "set") && glB sc g && notStar x && isVal a && mE cf a sc x
    | _ => false
  | .sset _, _, _ => false
  | .emp _ _, _, _ => false
  | .mkd _ _ x, sc, e => mD cf x sc e
  | .ksrt _ _ _, _, _ => false
def mD (cf : Cf) : DC → Scope → Expr → Bool
  | .disp ks vs, sc, e => match e with
    | .Dict kx vx _ => (match kx with
      | [] => (match ks with | .nil => true | _ => false) && (match vs with | .nil => true | _ => false) && vx.isEmpty
      | [some x] => mEs cf ks sc [x] && mEs cf vs sc vx && decide (vx.length = 1)
      | _ => false)
    | _ => false
  | .comp .., _, _ => false
  | .ofp _, _, _ => false
def mEs (cf : Cf) : Es → Scope → List Expr → Bool
  | .nil, _, es => es.isEmpty
  | .cons a r, sc, es => match es with
    | x :: xs => isVal a && mE cf a sc x && mEs cf r sc xs
    | [] => false
def mPart (cf : Cf) : Es → Scope → Option Expr → Bool
  | .nil, _, o => o.isNone
  | .cons a _, sc, o => match o with
    | some x => isVal a && mE cf a sc x
    | none => false
def mIf (cf : Cf) : Es → Scope → List Expr → Bool
  | .nil, _, o => o.isEmpty
  | .cons a _, sc, o => match o with
    | [x] => isVal a && tst x && mE cf a sc x
    | _ => false
def mC (cf : Cf) : C → Scope → Expr → Bool
  | .disp es, sc, e => match e with
    | .List xs _ => noStar xs && mEs cf es sc xs
    | _ => false
  | .ofl a, sc, e => match e with
    | .Call (.Name f _) [x] [] _ => decide (f = "list") && glB sc f && notStar x && oflOk a && mE cf a sc x
    | _ => false
  | .comp own p it c elt, sc, e => match e with
    | .ListComp elt' [⟨tg, iter, ifs, 0⟩] scope _ => notSet iter && ownB cf sc scope own p.vars && mE cf it sc iter && patB cf scope p tg && tgB it tg && mIf cf c (relS scope sc) ifs && isVal elt && mE cf elt (relS scope sc) elt'
    | _ => false
  | .comp2 own vs1 p it c p1 it1 c1 elt, sc, e => match e with
    | .ListComp elt' [⟨tg, iter, ifs, 0⟩, ⟨tg1, iter1, ifs1, 0⟩] scope _ => notSet iter && notSet iter1 && ownB cf sc scope own p.vars && (p1.vars.all fun i => decide (i ∈ vs1)) && (vs1.all fun i => decide (i ∈ own)) &&
      mE cf it sc iter && patB cf scope p tg && tgB it tg && mIf cf c (relS scope sc) ifs &&
      mE cf it1 (relS scope sc) iter1 && patB cf scope p1 tg1 && tgB it1 tg1 && mIf cf c1 (relS scope sc) ifs1 && isVal elt && mE cf elt (relS scope sc) elt'
    | _ => false
  | .rep a b, sc, e => match e with
    | .BinOp l .Mult r _ => isVal a && isVal b && mE cf a sc l && mE cf b sc r
    | _ => false
end
end Sh

/-! expressions: the evaluator is sound -/
namespace Sh
open PySem PySem.Spec PyProof.Rows L2

/-- what an own function promises -/
def spOf (K : KW) : FSpec → Sp
  | .pure f => fun vs H Q _ => ∃ ds d, RepL K H ds vs ∧ f ds = some d ∧ ∀ H' v, Same H H' → Rep K H' d v → Q v H'
  | .new f => fun vs H Q _ => ∃ ds r, RepL K H ds vs ∧ f ds = some r ∧ ∀ H' p us, Same H H' → H p = none → H' p = some (.lst us) → RepL K H' r us → Q (.ref p) H'
  | .cell f => fun vs H Q _ => ∃ a ws c us d c', RepWL K [a] H ws vs ∧ H a = some (.lst us) ∧ RepL K H c us ∧ f ws c = some (d, c') ∧
      ∀ H' v us', Ext [a] H H' → H' a = some (.lst us') → RepL K H' c' us' → Rep K H' d v → Q v H'
  | .none => fun _ _ _ _ => False
structure FnAt (X : Cx) (k : Nat) (x : Str) (sp : FSpec) : Prop where
  ok : ∃ (a : Addr) (fd : FuncData) (ps : List Str) (j : Nat), j ≤ k ∧ X.mg x = some (.ref a) ∧ PySem.W.keepIn X.KK (.ref a) = true ∧ Binds X.KK fd ps [] ∧ FnOk X.prog X.w X.KK X.mg X.base CX0 j a fd ps (spOf X.KK sp)
/-- the names that are stored -/
def FOk (fs : Scope) (X : Cx) : Prop := ∀ n, locB fs n = true → Loc X.env.scope n ∧ (X.fn n = true ∨ X.env.scope.names.lookup n = some .local)
structure XOk (cf : Cf) (Φ : Nat → FSpec) (G : Nat → D) (sc : Scope) (k : Nat) (X : Cx) : Prop where
  N : X.N = cf.N
  nd : cf.N.Nodup
  sc : X.env.scope = sc
  calm : X.calm = true
  room : Room k X.A
  fns : ∀ (g : Nat) (x : Str), cf.fns[g]? = some (some x) → FnAt X k x (Φ g)
  cons : ∀ (g : Nat) (x : Str), cf.cons[g]? = some (some x) → ∃ u v, X.mg x = some u ∧ RelV v u ∧ ∀ H, Rep X.KK H (G g) v
  blt : ∀ x ∈ bltNames, X.mg x = none
  gcd : cf.gcd = true → X.mg "gcd" = some (.builtin "math.gcd")

/-- an expression's reading by the evaluator -/
def tE (K : KW) (f : Env → DH → Option (W × DH)) : TE := fun σ H Q => ∃ ι env h w h', SR K ι H h ∧ EnvOk K ι H env σ ∧ f env h = some (w, h') ∧ Post K ι H w h' Q
def tT (K : KW) (f : Env → DH → Option (Bool × DH)) : TT := fun σ H Q => ∃ ι env h b h', SR K ι H h ∧ EnvOk K ι H env σ ∧ f env h = some (b, h') ∧ ∀ ι' H', Stp ι H ι' H' → SR K ι' H' h' → Q b H'
def tA (K : KW) (f : Env → DH → Option (List W × DH)) : TA := fun σ H Q => ∃ ι env h ws h', SR K ι H h ∧ EnvOk K ι H env σ ∧ f env h = some (ws, h') ∧ ∀ ι' H' vs, Stp ι H ι' H' → SR K ι' H' h' → RepWL K ι' H' ws vs → Q vs H'
/-- a list's making -/
def tR (K : KW) (f : Env → DH → Option (List W × DH)) : TE := fun σ H Q => ∃ ι env h ws h', SR K ι H h ∧ EnvOk K ι H env σ ∧ f env h = some (ws, h') ∧ PostC K ι H ws h' Q
def tO (K : KW) (f : Env → DH → Option (Option Int × DH)) : TO := fun σ H Q => ∃ ι env h o h', SR K ι H h ∧ EnvOk K ι H env σ ∧ f env h = some (o, h') ∧ ∀ ι' H', Stp ι H ι' H' → SR K ι' H' h' → Q o H'
/-- an iterator that walks plain data -/
def WkOk (K : KW) (J : It) (ds : List D) (H1 : Hp) : Prop := ∀ H, Fx H1 H → ∀ i,
  (∀ d, ds[i]? = some d → J.go i H ∧ ∀ x H', J.yld i H x H' → Same H H' ∧ Rep K H' d x) ∧ (ds.length ≤ i → J.stop i H)
def tI (K : KW) (f : Env → DH → Option (W × DH)) : TI := fun σ H R => ∃ ι env h x h' ds, SR K ι H h ∧ EnvOk K ι H env σ ∧ f env h = some (.d x, h') ∧ itemsD x = some ds ∧
  ∀ ι' H' J, Stp ι H ι' H' → SR K ι' H' h' → WkOk K J ds H' → R J H'

section
variable {X : Cx} {x y z : Expr} {pos : Pos}
theorem _root_.L2.PE.imp {t t' : TE} (h : PE X x t) (i : ∀ σ H Q, t' σ H Q → t σ H Q) : PE X x t' := ⟨fun pins s σ H Q I q => h.run pins s σ H Q I (i σ H Q q)⟩
theorem _root_.L2.PT.imp {t t' : TT} (h : PT X x t) (i : ∀ σ H Q, t' σ H Q → t σ H Q) : PT X x t' := ⟨fun pins s σ H Q I q => h.run pins s σ H Q I (i σ H Q q)⟩
theorem _root_.L2.PW.imp {t t' : TT} (h : PW X x t) (i : ∀ σ H Q, t' σ H Q → t σ H Q) : PW X x t' := ⟨fun w pins s σ H Q I q => h.run w pins s σ H Q I (i σ H Q q)⟩
theorem _root_.L2.PA.imp {es : List Expr} {t t' : TA} (h : PA X es t) (i : ∀ σ H Q, t' σ H Q → t σ H Q) : PA X es t' := ⟨fun p pins s σ H Q I q => h.run p pins s σ H Q I (i σ H Q q)⟩
theorem _root_.L2.PI.imp {tg : Expr} {t t' : TI} (h : PI X tg x t) (i : ∀ σ H Q, t' σ H Q → t σ H Q) : PI X tg x t' := ⟨fun pins s σ H Q I q => h.run pins s σ H Q I (i σ H Q q)⟩
theorem _root_.L2.PO.imp {o : Option Expr} {t t' : TO} (h : PO X o t) (i : ∀ σ H Q, t' σ H Q → t σ H Q) : PO X o t' := ⟨fun pins s σ H Q I q => h.run pins s σ H Q I (i σ H Q q)⟩

/-- the test of an expression that gives a bool -/
def evB (f : Env → DH → Option (W × DH)) (env : Env) (h : DH) : Option (Bool × DH) := do
  let (w, h1) ← f env h
  match w with
  | .d (.bl b) => some (b, h1)
  | _ => .none
theorem evB_some {f : Env → DH → Option (W × DH)} {env : Env} {h h' : DH} {b : Bool} (e : evB f env h = some (b, h')) : f env h = some (.d (.bl b), h') := by
  unfold evB at e
  cases q : f env h with
  | none => rw [q] at e; cases e
  | some p =>
    obtain ⟨w, h1⟩ := p
    rw [q] at e
    simp only [Option.bind_eq_bind, Option.bind_some] at e
    split at e
    · cases e; rfl
    · cases e
theorem evB_of {f : Env → DH → Option (W × DH)} {env : Env} {h h' : DH} {b : Bool} (e : f env h = some (.d (.bl b), h')) : evB f env h = some (b, h') := by
  unfold evB; rw [e]; rfl
/-- two operands, one after the other -/
theorem tOp_of {K : KW} {f g : Env → DH → Option (W × DH)} {r : R2} {σ : L2.St} {H : Hp} {Q : VK} {ι : List Addr} {env : Env} {h h1 h2 : DH} {a b : W}
    (sr : SR K ι H h) (eo : EnvOk K ι H env σ) (e1 : f env h = some (a, h1)) (e2 : g env h1 = some (b, h2))
    (q : ∀ ι2 H2 x y, Stp ι H ι2 H2 → SR K ι2 H2 h2 → RepW K ι2 H2 a x → RepW K ι2 H2 b y → r x y H2 Q) : tOp r (tE K f) (tE K g) σ H Q :=
  ⟨ι, env, h, a, h1, sr, eo, e1, fun ι1 H1 x p1 s1 r1 => ⟨ι1, env, h1, b, h2, s1, eo.stp p1, e2, fun ι2 H2 y p2 s2 r2 => q ι2 H2 x y (p1.trans p2) s2 (r1.stp p2) r2⟩⟩
theorem rep_post {K : KW} {ι : List Addr} {H : Hp} {h : DH} {d : D} {Q : VK} (s : SR K ι H h) (p : Post K ι H (.d d) h Q) : ∀ H' v, Same H H' → Rep K H' d v → Q v H' :=
  fun H' v e r => p ι H' v (.same e) (s.same e) (.d r)


theorem RepW.bl {K : KW} {ι : List Addr} {H : Hp} {b : Bool} {v : V} (r : RepW K ι H (.d (.bl b)) v) : v = .bl b := by cases r with | d r => cases r; rfl
theorem RepW.int {K : KW} {ι : List Addr} {H : Hp} {b : Int} {v : V} (r : RepW K ι H (.d (.int b)) v) : v = .int b := by cases r with | d r => cases r; rfl
/-- a test by its value -/
theorem tB_of {K : KW} {f : Env → DH → Option (W × DH)} {σ : L2.St} {H : Hp} {Q : Bool → Hp → Prop} (h : tT K (evB f) σ H Q) : tE K f σ H fun x H' => ∃ c, x = .bl c ∧ Q c H' := by
  obtain ⟨ι, env, h, b, h', sr, eo, e, q⟩ := h
  exact ⟨ι, env, h, _, h', sr, eo, evB_some e, fun ι' H' v p s r => ⟨b, r.bl, q ι' H' p s⟩⟩
theorem pt_def {f : Env → DH → Option (W × DH)} (h : PE X x (tE X.KK f)) (he : ∀ whole, isTrue x X.env whole = (do let v ← whole; standAt x.pos; holding [v] (truthy v))) : PT X x (tT X.KK (evB f)) :=
  (pt_val h he).imp fun σ H Q q => tB_of q
/-- what is to be shown of an expression -/
structure Ok1 (X : Cx) (x : Expr) (f : Env → DH → Option (W × DH)) : Prop where
  pe : PE X x (tE X.KK f)
  pt : tst x = true → PT X x (tT X.KK (evB f))
  pw : ∀ op es p, x = .BoolOp op es p → PW X x (tT X.KK (evB f))
theorem Ok1.plain {f : Env → DH → Option (W × DH)} (h : PE X x (tE X.KK f)) (he : ∀ whole, isTrue x X.env whole = (do let v ← whole; standAt x.pos; holding [v] (truthy v))) (nb : ∀ op es p, x ≠ .BoolOp op es p) : Ok1 X x f :=
  ⟨h, fun _ => pt_def h he, fun op es p e => absurd e (nb op es p)⟩

variable {cf : Cf} {Φ : Nat → FSpec} {G : Nat → D} {sc : Scope} {k : Nat}
theorem XOk.vis (ok : XOk cf Φ G sc k X) {n : Str} (h : visB sc n = true) : Vis X.env.scope n := by
  rw [ok.sc]
  simp only [visB, Bool.or_eq_true, decide_eq_true_eq] at h
  rcases h with (h | h) | h
  · exact .inl h
  · exact .inr (.inl h)
  · exact .inr (.inr h)
theorem XOk.loc (ok : XOk cf Φ G sc k X) {n : Str} (h : locB sc n = true) : Loc X.env.scope n := by
  rw [ok.sc]
  simp only [locB, Bool.or_eq_true, decide_eq_true_eq] at h
  exact h
theorem XOk.gl (ok : XOk cf Φ G sc k X) {n : Str} (h : glB sc n = true) : Gl X n := by
  simp only [glB, decide_eq_true_eq] at h
  show X.env.scope.names.lookup n = _
  rw [ok.sc]; exact h
theorem okN_dbg {n : Str} (h : okN n = true) : (n == ("__debug__" : Str)) = false ∧ (n == ("__classdict__" : Str)) = false ∧ n ≠ "__name__" := by
  simp only [okN, Bool.and_eq_true, Bool.not_eq_true', decide_eq_true_eq] at h
  exact ⟨h.1.1, h.1.2, h.2⟩
theorem s_var (ok : XOk cf Φ G sc k X) {i : Nat} {n : Str} (h1 : cf.N[i]? = some n) (h2 : visB sc n = true) (h3 : okN n = true) : Ok1 X (.Name n pos) (evE Φ G (.var i)) := by
  have hd := okN_dbg h3
  refine .plain ((pe_var (by rw [ok.N]; exact h1) (ok.vis h2) hd.1 hd.2.1).imp fun σ H Q q => ?_) (fun _ => rfl) (fun _ _ _ z => by cases z)
  obtain ⟨ι, env, h, w, h', sr, eo, e, q⟩ := q
  simp only [evE] at e
  split at e
  · rename_i w' hw
    cases e
    obtain ⟨v, h1, h2⟩ := eo.val i _ hw
    exact ⟨v, h1, q.now sr h2⟩
  · cases e
theorem s_con (ok : XOk cf Φ G sc k X) {g : Nat} {n : Str} (h1 : cf.cons[g]? = some (some n)) (h2 : glB sc n = true) (h3 : okN n = true) : Ok1 X (.Name n pos) (evE Φ G (.con g)) := by
  obtain ⟨u, v, hm, r, hr⟩ := ok.cons g n h1
  refine .plain ((pe_glob (ok.gl h2) hm r (okN_dbg h3).1).imp fun σ H Q q => ?_) (fun _ => rfl) (fun _ _ _ z => by cases z)
  obtain ⟨ι, env, h, w, h', sr, eo, e, q⟩ := q
  simp only [evE] at e
  cases e
  exact q.now sr (.d (hr H))
theorem s_lit {c : Const} {kk : Nat} {d : D} (hl : litB c d = true) : Ok1 X (.Constant c kk pos) (evE Φ G (.lit d)) := by
  have go : ∀ {v : V}, PE X (.Constant c kk pos) (tC v) → (∀ H, Rep X.KK H d v) → Ok1 X (.Constant c kk pos) (evE Φ G (.lit d)) := fun {v} pe hr => by
    refine .plain (pe.imp fun σ H Q q => ?_) (fun _ => rfl) (fun _ _ _ z => by cases z)
    obtain ⟨ι, env, h, w, h', sr, eo, e, q⟩ := q
    simp only [evE] at e
    cases e
    exact q.now sr (.d (hr H))
  cases c <;> cases d <;> simp only [litB, Bool.false_eq_true] at hl
  · exact go pe_non fun _ => .non
  · have := eq_of_beq hl; subst this; exact go pe_bl fun _ => .bl _
  · simp only [decide_eq_true_eq] at hl; subst hl; exact go pe_int fun _ => .int _
  · simp only [Bool.and_eq_true, decide_eq_true_eq] at hl; obtain ⟨rfl, h2⟩ := hl; exact go pe_str fun _ => .str _ h2
/-- an operation of two operands -/
def rBinW (K : KW) (o : Bop) : R2 := fun x y H Q => ∃ ι h a b da db d, SR K ι H h ∧ RepW K ι H a x ∧ RepW K ι H b y ∧ valD h a = some da ∧ valD h b = some db ∧ binD o da db = some d ∧ Post K ι H (.d d) h Q
theorem binW_of {o : Bop} {f : Value → Value → Sem Value} (h : OpR X f (rBin X.KK o)) : OpR X f (rBinW X.KK o) := by
  intro pins s σ H x y v u Q I rx ry hq
  obtain ⟨ι, h', a, b, da, db, d, sr, ra, rb, ea, eb, e, q⟩ := hq
  exact h pins s σ H x y v u Q I rx ry ⟨da, db, d, ra.is sr ea, rb.is sr eb, e, rep_post sr q⟩
theorem opO (hr : Room k X.A) {o : Bop} {op : Operator} (h : bopO op = some o) : OpR X (binaryOp op) (rBinW X.KK o) := by
  refine binW_of ?_
  cases op <;> simp only [bopO, Option.some.injEq, reduceCtorEq] at h <;> subst h
  · exact ob_add
  · exact ob_sub
  · exact ob_mul
  · exact ob_mod
  · exact ob_pow
  · exact ob_fdiv
theorem opC (hr : Room k X.A) {o : Bop} {op : CmpOp} (h : bopC op = some o) : OpR X (compareOp op) (rBinW X.KK o) := by
  have hu : X.A.units + 65 < cLine := by have := hr.un; omega
  refine binW_of ?_
  cases op <;> simp only [bopC, Option.some.injEq, reduceCtorEq] at h <;> subst h
  · exact oc_eq hu
  · exact oc_ne hu
  · exact oc_lt hu
  · exact oc_le hu
  · exact oc_gt hu
  · exact oc_ge hu
  · exact oc_is
  · exact oc_isnot
  · exact oc_mem hu
  · exact oc_nmem hu
theorem tOp_bin {o : Bop} {a b : E} {σ : L2.St} {H : Hp} {Q : VK} (h : tE X.KK (evE Φ G (.bin o a b)) σ H Q) : tOp (rBinW X.KK o) (tE X.KK (evE Φ G a)) (tE X.KK (evE Φ G b)) σ H Q := by
  obtain ⟨ι, env, h, w, h', sr, eo, e, q⟩ := h
  simp only [evE, Option.bind_eq_bind, Option.bind_eq_some_iff, Prod.exists, Option.some.injEq, Prod.mk.injEq] at e
  obtain ⟨x, h1, e1, y, h2, e2, dx, e3, dy, e4, d, e5, rfl, rfl⟩ := e
  exact tOp_of sr eo e1 e2 fun ι2 H2 vx vy p s2 r1 r2 => ⟨ι2, h2, x, y, dx, dy, d, s2, r1, r2, e3, e4, e5, q.stp p⟩
theorem s_bin (hr : Room k X.A) {o : Bop} {op : Operator} (h : bopO op = some o) {a b : E} (ha : Ok1 X x (evE Φ G a)) (hb : Ok1 X y (evE Φ G b)) : Ok1 X (.BinOp x op y pos) (evE Φ G (.bin o a b)) :=
  .plain ((pe_op (opO hr h) ha.pe hb.pe).imp fun σ H Q q => tOp_bin q) (fun _ => rfl) (fun _ _ _ z => by cases z)
theorem nomarkS {op : CmpOp} (h : notSet y = true) : behindInMarks op y = false := by
  cases y <;> simp_all [notSet, behindInMarks]
theorem s_cmp (hr : Room k X.A) {o : Bop} {op : CmpOp} (h : bopC op = some o) {a b : E} (ha : Ok1 X x (evE Φ G a)) (hb : Ok1 X y (evE Φ G b)) (hn : notSet y = true) : Ok1 X (.Compare x [op] [y] pos) (evE Φ G (.bin o a b)) := by
  refine ⟨(pe_cmpR (opC hr h) ha.pe hb.pe (nomarkS hn)).imp fun σ H Q q => tOp_bin q, fun _ => (pt_cmpR (opC hr h) ha.pe hb.pe (nomarkS hn)).imp fun σ H Q q => ?_, fun _ _ _ z => by cases z⟩
  exact tOp_bin (tB_of q)
theorem lastMarks2 {op op' : CmpOp} (h : notSet z = true) : lastMarks [op, op'] [y, z] = false := by
  show behindInMarks op' z = false
  exact nomarkS h
theorem s_chain (hr : Room k X.A) {o o' : Bop} {op op' : CmpOp} (h : bopC op = some o) (h' : bopC op' = some o') {a b c : E} (ha : Ok1 X x (evE Φ G a)) (hb : Ok1 X y (evE Φ G b)) (hc : Ok1 X z (evE Φ G c)) (hn : notSet z = true) :
    Ok1 X (.Compare x [op, op'] [y, z] pos) (evE Φ G (.chain o o' a b c)) := by
  have key : ∀ {σ : L2.St} {H : Hp} {Q : VK}, tE X.KK (evE Φ G (.chain o o' a b c)) σ H Q → tChain (rBinW X.KK o) (rBinW X.KK o') (tE X.KK (evE Φ G a)) (tE X.KK (evE Φ G b)) (tE X.KK (evE Φ G c)) σ H Q := by
    intro σ H Q hq
    obtain ⟨ι, env, h, w, h', sr, eo, e, q⟩ := hq
    simp only [evE, Option.bind_eq_bind, Option.bind_eq_some_iff, Prod.exists] at e
    obtain ⟨x, h1, e1, y, h2, e2, dx, e3, dy, e4, d, e5, e⟩ := e
    refine ⟨ι, env, h, x, h1, sr, eo, e1, fun ι1 H1 vx p1 s1 r1 => ⟨ι1, env, h1, y, h2, s1, eo.stp p1, e2, fun ι2 H2 vy p2 s2 r2 => ?_⟩⟩
    refine ⟨ι2, h2, x, y, dx, dy, d, s2, r1.stp p2, r2, e3, e4, e5, fun ι3 H3 v3 p3 s3 r3 => ?_⟩
    split at e
    · simp only [Option.bind_eq_some_iff, Prod.exists, Option.some.injEq, Prod.mk.injEq] at e
      obtain ⟨z, h3, e6, dy', e7, dz, e8, d', e9, rfl, rfl⟩ := e
      refine ⟨true, r3.bl, iteT ⟨ι3, env, h2, z, h3, s3, (eo.stp (p1.trans p2)).stp p3, e6, fun ι4 H4 vz p4 s4 r4 => ?_⟩⟩
      exact ⟨ι4, h3, y, z, dy', dz, d', s4, (r2.stp p3).stp p4, r4, e7, e8, e9, q.stp (((p1.trans p2).trans p3).trans p4)⟩
    · cases e
      exact ⟨false, r3.bl, iteF (q ι3 H3 _ ((p1.trans p2).trans p3) s3 (.d (.bl false)))⟩
    · cases e
  refine ⟨(pe_chain (opC hr h) (opC hr h') ha.pe hb.pe hc.pe (lastMarks2 hn)).imp fun σ H Q q => key q, fun _ => (pt_chain (opC hr h) (opC hr h') ha.pe hb.pe hc.pe (lastMarks2 hn)).imp fun σ H Q q => ?_, fun _ _ _ z => by cases z⟩
  exact key (tB_of q)
theorem s_neg {a : E} (ha : Ok1 X x (evE Φ G a)) : Ok1 X (.UnaryOp .USub x pos) (evE Φ G (.neg a)) := by
  refine .plain ((pe_un un_neg ha.pe).imp fun σ H Q q => ?_) (fun _ => rfl) (fun _ _ _ z => by cases z)
  obtain ⟨ι, env, h, w, h', sr, eo, e, q⟩ := q
  simp only [evE, Option.bind_eq_bind, Option.bind_eq_some_iff, Prod.exists] at e
  obtain ⟨x, h1, e1, e⟩ := e
  split at e
  · cases e
    exact ⟨ι, env, h, _, h', sr, eo, e1, fun ι1 H1 vx p1 s1 r1 => ⟨_, r1.int, q ι1 H1 _ p1 s1 (.d (.int _))⟩⟩
  · cases e
theorem s_not {a : E} (ha : Ok1 X x (evE Φ G a)) (ht : tst x = true) : Ok1 X (.UnaryOp .Not x pos) (evE Φ G (.not a)) := by
  refine ⟨(pe_not ha.pe).imp fun σ H Q q => ?_, fun _ => (pt_not (ha.pt ht)).imp fun σ H Q q => ?_, fun _ _ _ z => by cases z⟩
  · obtain ⟨ι, env, h, w, h', sr, eo, e, q⟩ := q
    simp only [evE, Option.bind_eq_bind, Option.bind_eq_some_iff, Prod.exists] at e
    obtain ⟨x, h1, e1, e⟩ := e
    split at e
    · cases e
      exact ⟨ι, env, h, _, h', sr, eo, e1, fun ι1 H1 vx p1 s1 r1 => ⟨_, r1.bl, q ι1 H1 _ p1 s1 (.d (.bl _))⟩⟩
    · cases e
  · obtain ⟨ι, env, h, b, h', sr, eo, e, q⟩ := q
    have e := evB_some e
    simp only [evE, Option.bind_eq_bind, Option.bind_eq_some_iff, Prod.exists] at e
    obtain ⟨x, h1, e1, e⟩ := e
    split at e
    · rename_i b'
      cases e
      exact ⟨ι, env, h, _, h', sr, eo, evB_of e1, fun ι1 H1 p1 s1 => q ι1 H1 p1 s1⟩
    · cases e
/-- and, or: the steps -/
theorem and_step {a b : E} {env : Env} {h h' : DH} {w : W} (e : evE Φ G (.and a b) env h = some (w, h')) : ∃ h1, (evE Φ G a env h = some (.d (.bl true), h1) ∧ evE Φ G b env h1 = some (w, h')) ∨ (evE Φ G a env h = some (.d (.bl false), h') ∧ w = .d (.bl false)) := by
  simp only [evE, Option.bind_eq_bind, Option.bind_eq_some_iff, Prod.exists] at e
  obtain ⟨x, h1, e1, e⟩ := e
  split at e
  · exact ⟨h1, .inl ⟨e1, e⟩⟩
  · cases e; exact ⟨h', .inr ⟨e1, rfl⟩⟩
  · cases e
theorem or_step {a b : E} {env : Env} {h h' : DH} {w : W} (e : evE Φ G (.or a b) env h = some (w, h')) : ∃ h1, (evE Φ G a env h = some (.d (.bl false), h1) ∧ evE Φ G b env h1 = some (w, h')) ∨ (evE Φ G a env h = some (.d (.bl true), h') ∧ w = .d (.bl true)) := by
  simp only [evE, Option.bind_eq_bind, Option.bind_eq_some_iff, Prod.exists] at e
  obtain ⟨x, h1, e1, e⟩ := e
  split at e
  · exact ⟨h1, .inl ⟨e1, e⟩⟩
  · cases e; exact ⟨h', .inr ⟨e1, rfl⟩⟩
  · cases e
theorem tAnd_of {a b : E} {σ : L2.St} {H : Hp} {Q : Bool → Hp → Prop} (hq : tT X.KK (evB (evE Φ G (.and a b))) σ H Q) : tAnd (tT X.KK (evB (evE Φ G a))) (tT X.KK (evB (evE Φ G b))) σ H Q := by
  obtain ⟨ι, env, h, c, h', sr, eo, e, q⟩ := hq
  obtain ⟨h1, (⟨e1, e2⟩ | ⟨e1, e2⟩)⟩ := and_step (evB_some e)
  · exact ⟨ι, env, h, _, h1, sr, eo, evB_of e1, fun ι1 H1 p1 s1 => iteT ⟨ι1, env, h1, c, h', s1, eo.stp p1, evB_of e2, fun ι2 H2 p2 s2 => q ι2 H2 (p1.trans p2) s2⟩⟩
  · cases e2
    exact ⟨ι, env, h, _, h', sr, eo, evB_of e1, fun ι1 H1 p1 s1 => iteF (q ι1 H1 p1 s1)⟩
theorem tOr_of {a b : E} {σ : L2.St} {H : Hp} {Q : Bool → Hp → Prop} (hq : tT X.KK (evB (evE Φ G (.or a b))) σ H Q) : tOr (tT X.KK (evB (evE Φ G a))) (tT X.KK (evB (evE Φ G b))) σ H Q := by
  obtain ⟨ι, env, h, c, h', sr, eo, e, q⟩ := hq
  obtain ⟨h1, (⟨e1, e2⟩ | ⟨e1, e2⟩)⟩ := or_step (evB_some e)
  · exact ⟨ι, env, h, _, h1, sr, eo, evB_of e1, fun ι1 H1 p1 s1 => iteF ⟨ι1, env, h1, c, h', s1, eo.stp p1, evB_of e2, fun ι2 H2 p2 s2 => q ι2 H2 (p1.trans p2) s2⟩⟩
  · cases e2
    exact ⟨ι, env, h, _, h', sr, eo, evB_of e1, fun ι1 H1 p1 s1 => iteT (q ι1 H1 p1 s1)⟩
theorem s_and {a b : E} {r : List Expr} (ha : Ok1 X x (evE Φ G a)) (ht : tst x = true)
    (hb : (r = [] ∧ tst y = true ∧ Ok1 X y (evE Φ G b)) ∨ Ok1 X (.BoolOp .And (y :: r) pos) (evE Φ G b)) : Ok1 X (.BoolOp .And (x :: y :: r) pos) (evE Φ G (.and a b)) := by
  have pb : PE X (.BoolOp .And (y :: r) pos) (tE X.KK (evE Φ G b)) := by
    rcases hb with ⟨rfl, _, hb⟩ | hb
    · exact pe_one hb.pe
    · exact hb.pe
  have wb : PW X (.BoolOp .And (y :: r) pos) (tT X.KK (evB (evE Φ G b))) := by
    rcases hb with ⟨rfl, ht, hb⟩ | hb
    · exact pw_and1 (hb.pt ht)
    · exact hb.pw _ _ _ rfl
  have w : PW X (.BoolOp .And (x :: y :: r) pos) (tT X.KK (evB (evE Φ G (.and a b)))) := (pw_and (ha.pt ht) wb).imp fun σ H Q q => tAnd_of q
  refine ⟨(pe_and ha.pe pb).imp fun σ H Q q => ?_, fun _ => w.pt, fun _ _ _ z => by cases z; exact w⟩
  obtain ⟨ι, env, h, c, h', sr, eo, e, q⟩ := q
  obtain ⟨h1, (⟨e1, e2⟩ | ⟨e1, e2⟩)⟩ := and_step e
  · exact ⟨ι, env, h, _, h1, sr, eo, e1, fun ι1 H1 v1 p1 s1 r1 => ⟨true, r1.bl, iteT ⟨ι1, env, h1, c, h', s1, eo.stp p1, e2, q.stp p1⟩⟩⟩
  · cases e2
    exact ⟨ι, env, h, _, h', sr, eo, e1, fun ι1 H1 v1 p1 s1 r1 => ⟨false, r1.bl, iteF (q ι1 H1 _ p1 s1 (.d (.bl false)))⟩⟩
theorem s_or {a b : E} {r : List Expr} (ha : Ok1 X x (evE Φ G a)) (ht : tst x = true)
    (hb : (r = [] ∧ tst y = true ∧ Ok1 X y (evE Φ G b)) ∨ Ok1 X (.BoolOp .Or (y :: r) pos) (evE Φ G b)) : Ok1 X (.BoolOp .Or (x :: y :: r) pos) (evE Φ G (.or a b)) := by
  have pb : PE X (.BoolOp .Or (y :: r) pos) (tE X.KK (evE Φ G b)) := by
    rcases hb with ⟨rfl, _, hb⟩ | hb
    · exact pe_one hb.pe
    · exact hb.pe
  have wb : PW X (.BoolOp .Or (y :: r) pos) (tT X.KK (evB (evE Φ G b))) := by
    rcases hb with ⟨rfl, ht, hb⟩ | hb
    · exact pw_or1 (hb.pt ht)
    · exact hb.pw _ _ _ rfl
  have w : PW X (.BoolOp .Or (x :: y :: r) pos) (tT X.KK (evB (evE Φ G (.or a b)))) := (pw_or (ha.pt ht) wb).imp fun σ H Q q => tOr_of q
  refine ⟨(pe_or ha.pe pb).imp fun σ H Q q => ?_, fun _ => w.pt, fun _ _ _ z => by cases z; exact w⟩
  obtain ⟨ι, env, h, c, h', sr, eo, e, q⟩ := q
  obtain ⟨h1, (⟨e1, e2⟩ | ⟨e1, e2⟩)⟩ := or_step e
  · exact ⟨ι, env, h, _, h1, sr, eo, e1, fun ι1 H1 v1 p1 s1 r1 => ⟨false, r1.bl, iteF ⟨ι1, env, h1, c, h', s1, eo.stp p1, e2, q.stp p1⟩⟩⟩
  · cases e2
    exact ⟨ι, env, h, _, h', sr, eo, e1, fun ι1 H1 v1 p1 s1 r1 => ⟨true, r1.bl, iteT (q ι1 H1 _ p1 s1 (.d (.bl true)))⟩⟩
theorem s_ite {c a b : E} (hc : Ok1 X x (evE Φ G c)) (ht : tst x = true) (ha : Ok1 X y (evE Φ G a)) (hb : Ok1 X z (evE Φ G b)) : Ok1 X (.IfExp x y z pos) (evE Φ G (.ite c a b)) := by
  refine ⟨(pe_ifExp (hc.pt ht) ha.pe hb.pe).imp fun σ H Q q => ?_, fun z => (by cases z), fun _ _ _ z => by cases z⟩
  obtain ⟨ι, env, h, w, h', sr, eo, e, q⟩ := q
  simp only [evE, Option.bind_eq_bind, Option.bind_eq_some_iff, Prod.exists] at e
  obtain ⟨x, h1, e1, e⟩ := e
  split at e
  · exact ⟨ι, env, h, _, h1, sr, eo, evB_of e1, fun ι1 H1 p1 s1 => iteT ⟨ι1, env, h1, w, h', s1, eo.stp p1, e, q.stp p1⟩⟩
  · exact ⟨ι, env, h, _, h1, sr, eo, evB_of e1, fun ι1 H1 p1 s1 => iteF ⟨ι1, env, h1, w, h', s1, eo.stp p1, e, q.stp p1⟩⟩
  · cases e
theorem s_nil : PA X [] (tA X.KK (evEs Φ G .nil)) := pa_nil.imp fun σ H Q q => by
  obtain ⟨ι, env, h, w, h', sr, eo, e, q⟩ := q
  simp only [evEs] at e
  cases e
  exact q ι H [] .refl sr .nil
theorem starEach_cons {env : PySem.Env} {es : List Expr} (h : notStar x = true) : starEach (x :: es) env = (false, eval x env) :: starEach es env := by
  cases x <;> simp_all [notStar, starEach]
theorem s_cons {a : E} {r : Es} {es : List Expr} (ha : Ok1 X x (evE Φ G a)) (hr : PA X es (tA X.KK (evEs Φ G r))) (hs : notStar x = true) : PA X (x :: es) (tA X.KK (evEs Φ G (.cons a r))) :=
  (pa_cons ha.pe hr (starEach_cons hs)).imp fun σ H Q q => by
    obtain ⟨ι, env, h, w, h', sr, eo, e, q⟩ := q
    simp only [evEs, Option.bind_eq_bind, Option.bind_eq_some_iff, Prod.exists, Option.some.injEq, Prod.mk.injEq] at e
    obtain ⟨x, h1, e1, ws, h2, e2, rfl, rfl⟩ := e
    exact ⟨ι, env, h, x, h1, sr, eo, e1, fun ι1 H1 v p1 s1 r1 => ⟨ι1, env, h1, ws, h2, s1, eo.stp p1, e2, fun ι2 H2 vs p2 s2 r2 => q ι2 H2 _ (p1.trans p2) s2 (.cons (r1.stp p2) r2)⟩⟩
theorem s_tup {es : Es} {xs : List Expr} {kk : Nat} (ha : PA X xs (tA X.KK (evEs Φ G es))) : Ok1 X (.Tuple xs kk pos) (evE Φ G (.tup es)) := by
  refine .plain ((pe_tup ha).imp fun σ H Q q => ?_) (fun _ => rfl) (fun _ _ _ z => by cases z)
  obtain ⟨ι, env, h, w, h', sr, eo, e, q⟩ := q
  simp only [evE, Option.bind_eq_bind, Option.bind_eq_some_iff, Prod.exists] at e
  obtain ⟨ws, h1, e1, ds, e2, e⟩ := e
  split at e
  · rename_i hl
    cases e
    exact ⟨ι, env, h, ws, h', sr, eo, e1, fun ι1 H1 vs p1 s1 r1 => ⟨by rw [← (r1.pure e2).length, ← line_eq]; exact hl, fun p hp => (q.stp p1).tup s1 hp (r1.pure e2)⟩⟩
  · cases e
theorem plainIx {y : Expr} (h : notSlice y = true) : PlainIx y := by
  intro o i
  cases y <;> simp_all [notSlice, subscripted]
theorem s_ix (hr : Room k X.A) {a b : E} (ha : Ok1 X x (evE Φ G a)) (hb : Ok1 X y (evE Φ G b)) (hs : notSlice y = true) : Ok1 X (.Subscript x y pos) (evE Φ G (.ix a b)) := by
  refine .plain ((pe_ix (ixr (by have := hr.un; omega)) ha.pe hb.pe (plainIx hs)).imp fun σ H Q q => ?_) (fun _ => rfl) (fun _ _ _ z => by cases z)
  obtain ⟨ι, env, h, w, h', sr, eo, e, q⟩ := q
  simp only [evE, Option.bind_eq_bind, Option.bind_eq_some_iff, Prod.exists, Option.some.injEq, Prod.mk.injEq] at e
  obtain ⟨x, h1, e1, y, h2, e2, w', e3, rfl, rfl⟩ := e
  exact tOp_of sr eo e1 e2 fun ι2 H2 vx vy p s2 r1 r2 => ⟨ι2, h2, x, y, w', s2, r1, r2, e3, q.stp p⟩
theorem s_part0 : PO X none (tO X.KK (evPart Φ G .nil)) := po_none.imp fun σ H Q q => by
  obtain ⟨ι, env, h, o, h', sr, eo, e, q⟩ := q
  simp only [evPart] at e
  cases e
  exact q ι H .refl sr
theorem s_part1 {a : E} {r : Es} (ha : Ok1 X x (evE Φ G a)) : PO X (some x) (tO X.KK (evPart Φ G (.cons a r))) := (po_some ha.pe).imp fun σ H Q q => by
  obtain ⟨ι, env, h, o, h', sr, eo, e, q⟩ := q
  simp only [evPart, Option.bind_eq_bind, Option.bind_eq_some_iff, Prod.exists] at e
  obtain ⟨w, h1, e1, e⟩ := e
  split at e
  · cases e
    exact ⟨ι, env, h, _, h', sr, eo, e1, fun ι1 H1 v p1 s1 r1 => ⟨_, r1.int, q ι1 H1 p1 s1⟩⟩
  · cases e
theorem s_sl {a : E} {lo hi : Es} {l u : Option Expr} {p2 : Pos} (ha : Ok1 X x (evE Φ G a)) (hl : PO X l (tO X.KK (evPart Φ G lo))) (hu : PO X u (tO X.KK (evPart Φ G hi))) : Ok1 X (.Subscript x (.Slice l u none p2) pos) (evE Φ G (.sl a lo hi)) := by
  refine .plain ((pe_slice slr ha.pe hl hu).imp fun σ H Q q => ?_) (fun _ => rfl) (fun _ _ _ z => by cases z)
  obtain ⟨ι, env, h, w, h', sr, eo, e, q⟩ := q
  simp only [evE, Option.bind_eq_bind, Option.bind_eq_some_iff, Prod.exists, Option.some.injEq, Prod.mk.injEq] at e
  obtain ⟨x, h1, e1, l, h2, e2, u, h3, e3, dx, e4, d, e5, rfl, rfl⟩ := e
  refine ⟨ι, env, h, x, h1, sr, eo, e1, fun ι1 H1 vx p1 s1 r1 => ⟨ι1, env, h1, l, h2, s1, eo.stp p1, e2, fun ι2 H2 p2 s2 => ⟨ι2, env, h2, u, h3, s2, (eo.stp p1).stp p2, e3, fun ι3 H3 p3 s3 => ?_⟩⟩⟩
  exact ⟨dx, d, ((r1.stp p2).stp p3).is s3 e4, e5, rep_post s3 (q.stp ((p1.trans p2).trans p3))⟩
theorem s_rev {a : E} {kk : Nat} {p1 p2 p3 : Pos} (ha : Ok1 X x (evE Φ G a)) : Ok1 X (.Subscript x (.Slice none none (some (.UnaryOp .USub (.Constant (.int 1) kk p1) p2)) p3) pos) (evE Φ G (.rev a)) := by
  refine .plain ⟨fun pins s σ H Q I q => thn ((pe_revA ha.pe).run pins s σ H (fun v H' => Q v H' ∨ ∃ p vs, v = .ref p ∧ H' p = some (.lst vs) ∧ ∀ o, Q v (upd H' p (.frz o (.lst vs)))) I ?_) fun _ _ h => ?_⟩ (fun _ => rfl) (fun _ _ _ z => by cases z)
  rotate_left
  · obtain ⟨v, H', I', rv, q | q⟩ := h
    · exact ⟨v, H', I', rv, q⟩
    · exact EP.frz ⟨v, H', I', rv, q⟩
  obtain ⟨ι, env, h, w, h', sr, eo, e, q⟩ := q
  simp only [evE, Option.bind_eq_bind, Option.bind_eq_some_iff, Prod.exists, Option.some.injEq, Prod.mk.injEq] at e
  obtain ⟨x, h1, e1, dx, e2, d, e3, rfl, rfl⟩ := e
  refine ⟨ι, env, h, x, h1, sr, eo, e1, fun ι1 H1 vx p1 s1 r1 => ?_⟩
  cases dx <;> simp only [revD, Option.some.injEq, reduceCtorEq] at e3
  · subst e3
    obtain ⟨a, vs, rfl, hq, r⟩ := (r1.is s1 e2).tup
    refine ⟨a, vs, rfl, .inr ⟨hq, fun p hp => .inl ?_⟩⟩
    exact rep_post s1 (q.stp p1) _ _ (same_upd hp) (.mkt hp r.reverse)
  · subst e3
    obtain ⟨a, vs, rfl, hq, r⟩ := (r1.is s1 e2).sq
    refine ⟨a, vs, rfl, .inl ⟨.inl hq, fun p hp => .inr ⟨p, _, rfl, upd_same, fun o => ?_⟩⟩⟩
    rw [upd_upd]
    exact rep_post s1 (q.stp p1) _ _ (same_upd hp) (.mkl hp r.reverse)
end
end Sh

/-! calls, lists made, what is walked -/
namespace Sh
open PySem PySem.Spec PyProof.Rows L2

section
variable {X : Cx} {x y z : Expr} {pos : Pos} {cf : Cf} {Φ : Nat → FSpec} {G : Nat → D} {sc : Scope} {k : Nat}
theorem noStar_any {env : PySem.Env} : ∀ {es : List Expr}, noStar es = true → ∀ p, (backTo p (starEach es env)).any (·.1) = false
  | [], _, p => rfl
  | x :: es, h, p => by
    simp only [noStar, Bool.and_eq_true] at h
    rw [starEach_cons h.1]
    show (false || _) = false
    exact noStar_any h.2 p
theorem valsD_is {K : KW} {ι : List Addr} {H : Hp} {h : DH} (s : SR K ι H h) : ∀ {ws : List W} {vs : List V} {ds : List D}, RepWL K ι H ws vs → valsD h ws = some ds → IsL K H ds vs
  | _, _, _, .nil, e => by simp only [valsD, Option.some.injEq] at e; subst e; exact .nil
  | _, _, _, .cons r t, e => by
    simp only [valsD, Option.bind_eq_bind, Option.bind_eq_some_iff, Option.some.injEq] at e
    obtain ⟨d, e1, ds, e2, rfl⟩ := e
    exact .cons (r.is s e1) (valsD_is s t e2)
theorem bif_boot {b : Bif} (h : b ≠ .gcd) : bootBuiltins (bifN b) = some (bifV b) := by
  cases b <;> first | exact absurd rfl h | decide +kernel
theorem bif_blt {b : Bif} (h : b ≠ .gcd) : bifN b ∈ bltNames := by
  cases b <;> first | exact absurd rfl h | decide +kernel
theorem bif_dbg (b : Bif) : bifN b ≠ "__name__" ∧ (bifN b == ("__debug__" : Str)) = false := by
  cases b <;> decide +kernel
theorem s_bif (ok : XOk cf Φ G sc k X) {b : Bif} {es : Es} {p : Pos} {xs : List Expr} (hg : glB sc (bifN b) = true) (hgcd : b = .gcd → X.mg "gcd" = some (.builtin "math.gcd")) (hs : noStar (x :: xs) = true) (ha : PA X (x :: xs) (tA X.KK (evEs Φ G es))) :
    Ok1 X (.Call (.Name (bifN b) p) (x :: xs) [] pos) (evE Φ G (.bif b es)) := by
  have hs' := hs
  simp only [noStar, Bool.and_eq_true] at hs
  have pe : PE X (.Call (.Name (bifN b) p) (x :: xs) [] pos) (tCB (rBif X.KK b) (tA X.KK (evEs Φ G es))) := by
    have hg' := ok.gl hg
    have hd := bif_dbg b
    by_cases hb : b = .gcd
    · subst hb
      exact pe_callBfun (bifR ok.calm (by have := ok.room.un; omega) .gcd) hg' (hgcd rfl) ha hd.2 (starEach_cons hs.1) (noStar_any hs.2 _)
    · have hm := ok.blt _ (bif_blt hb)
      have hv := bif_boot hb
      cases b <;> first
        | exact absurd rfl hb
        | exact pe_callB (bifR ok.calm (by have := ok.room.un; omega) _) hg' hm hv ha hd.1 hd.2 (starEach_cons hs.1) (noStar_any hs.2 _)
        | exact pe_callTy (bifR ok.calm (by have := ok.room.un; omega) _) hg' hm hv ha hd.1 hd.2 (starEach_cons hs.1) (noStar_any hs.2 _)
  refine .plain (pe.imp fun σ H Q q => ?_) (fun _ => rfl) (fun _ _ _ z => by cases z)
  obtain ⟨ι, env, h, w, h', sr, eo, e, q⟩ := q
  simp only [evE, Option.bind_eq_bind, Option.bind_eq_some_iff, Prod.exists, Option.some.injEq, Prod.mk.injEq] at e
  obtain ⟨ws, h1, e1, ds, e2, d, e3, rfl, rfl⟩ := e
  exact ⟨ι, env, h, ws, h1, sr, eo, e1, fun ι1 H1 vs p1 s1 r1 => ⟨ds, d, valsD_is s1 r1 e2, e3, rep_post s1 (q.stp p1)⟩⟩
theorem ty_boot (t : Ty) : bootBuiltins (tyN t) = some (.type (tyS t)) := by cases t <;> decide +kernel
theorem ty_blt (t : Ty) : tyN t ∈ bltNames := by cases t <;> decide +kernel
theorem ty_dbg (t : Ty) : tyN t ≠ "__name__" ∧ (tyN t == ("__debug__" : Str)) = false := by cases t <;> decide +kernel
theorem s_isi (ok : XOk cf Φ G sc k X) {a : E} {t : Ty} {p p2 : Pos} (hg : glB sc "isinstance" = true) (hg2 : glB sc (tyN t) = true) (ha : Ok1 X x (evE Φ G a)) (hs : notStar x = true) :
    Ok1 X (.Call (.Name "isinstance" p) [x, .Name (tyN t) p2] [] pos) (evE Φ G (.isi a t)) := by
  have pt : PE X (.Name (tyN t) p2) (tC (.ty (tyS t))) := pe_bltn (ok.gl hg2) (ok.blt _ (ty_blt t)) (ty_boot t) rfl (ty_dbg t).1 (ty_dbg t).2
  have pa : PA X [x, .Name (tyN t) p2] (tCons (tE X.KK (evE Φ G a)) (tCons (tC (.ty (tyS t))) tNil)) := pa_cons ha.pe (pa_cons pt pa_nil) (starEach_cons hs)
  have hm : X.mg "isinstance" = none := ok.blt _ (by decide +kernel)
  have pe := pe_callB (isiR (X := X) t) (ok.gl hg) hm (by decide +kernel) pa (by decide) (by decide) (starEach_cons hs) (by rfl) (p := p) (pos := pos)
  refine .plain (pe.imp fun σ H Q q => ?_) (fun _ => rfl) (fun _ _ _ z => by cases z)
  obtain ⟨ι, env, h, w, h', sr, eo, e, q⟩ := q
  simp only [evE, Option.bind_eq_bind, Option.bind_eq_some_iff, Prod.exists] at e
  obtain ⟨w1, h1, e1, e⟩ := e
  split at e
  · rename_i d
    split at e
    · rename_i n hn
      cases e
      exact ⟨ι, env, h, _, h', sr, eo, e1, fun ι1 H1 v p1 s1 r1 => ⟨v, d, n, rfl, .rep r1.pure, hn, q ι1 H1 _ p1 s1 (.d (.bl _))⟩⟩
    · cases e
  · cases e

/-! ### own functions -/
theorem cellArg_spec : ∀ {ws : List W} {n : Nat}, cellArg ws = some n → ∃ (a b : List D), ws = a.map W.d ++ .ref n :: b.map W.d
  | [], _, h => by simp [cellArg] at h
  | .ref m :: r, n, h => by
    simp only [cellArg] at h
    split at h
    · rename_i hp
      cases h
      obtain ⟨b, hb⟩ := Option.isSome_iff_exists.mp hp
      refine ⟨[], b, ?_⟩
      have : ∀ {ws : List W} {b : List D}, pureL ws = some b → ws = b.map W.d := by
        intro ws
        induction ws with
        | nil => intro b h; simp only [pureL, Option.some.injEq] at h; subst h; rfl
        | cons w ws ih =>
          intro b h
          cases w with
          | d x =>
            simp only [pureL, Option.map_eq_some_iff] at h
            obtain ⟨c, h1, rfl⟩ := h
            rw [ih h1]; rfl
          | ref _ => simp [pureL] at h
      rw [this hb]; rfl
    · cases h
  | .d x :: r, n, h => by
    simp only [cellArg] at h
    obtain ⟨a, b, rfl⟩ := cellArg_spec h
    exact ⟨x :: a, b, rfl⟩
theorem pureL_eq : ∀ {ws : List W} {b : List D}, pureL ws = some b → ws = b.map W.d := by
  intro ws
  induction ws with
  | nil => intro b h; simp only [pureL, Option.some.injEq] at h; subst h; rfl
  | cons w ws ih =>
    intro b h
    cases w with
    | d x =>
      simp only [pureL, Option.map_eq_some_iff] at h
      obtain ⟨c, h1, rfl⟩ := h
      rw [ih h1]; rfl
    | ref _ => simp [pureL] at h
theorem zero_map (a : List D) : (a.map W.d).map zeroW = a.map W.d := by
  induction a with
  | nil => rfl
  | cons x a ih => simp only [List.map_cons, ih]; rfl
theorem RepWL.zero {K : KW} {ι : List Addr} {H : Hp} {n : Nat} {a : Addr} (hn : ι[n]? = some a) : ∀ {as bs : List D} {vs : List V}, RepWL K ι H (as.map W.d ++ .ref n :: bs.map W.d) vs → RepWL K [a] H (as.map W.d ++ .ref 0 :: bs.map W.d) vs
  | [], bs, _, .cons r t => by
    obtain ⟨c, rfl, hc⟩ := r.cell
    rw [hn] at hc; cases hc
    exact .cons (.ref rfl) (RepWL.of (t.pure (pureL_map bs)))
  | x :: as, bs, _, .cons r t => .cons (.d r.pure) (RepWL.zero hn t)
theorem s_call (ok : XOk cf Φ G sc k X) {g : Nat} {es : Es} {n : Str} {p : Pos} {xs : List Expr} (h1 : cf.fns[g]? = some (some n)) (h2 : glB sc n = true) (h3 : okN n = true) (hs : noStar xs = true) (hnil : xs = [] → es = .nil) (ha : PA X xs (tA X.KK (evEs Φ G es))) :
    Ok1 X (.Call (.Name n p) xs [] pos) (evE Φ G (.call g es)) := by
  obtain ⟨a, fd, ps, j, hj, hm, hk, hb, F⟩ := (ok.fns g n h1).ok
  have hd := okN_dbg h3
  have pe : PE X (.Call (.Name n p) xs [] pos) (tCall (spOf X.KK (Φ g)) [] E0 (tA X.KK (evEs Φ G es))) := by
    cases xs with
    | nil =>
      refine (pe_call0 F (ok.room.mono hj) (ok.gl h2) hm hk hb .nil pass0 hd.1).imp fun σ H Q q => ?_
      obtain ⟨ι, env, h, ws, h', sr, eo, e, q⟩ := q
      rw [hnil rfl] at e
      simp only [evEs] at e
      cases e
      exact q ι H [] .refl sr .nil
    | cons x xs =>
      have hs' := hs
      simp only [noStar, Bool.and_eq_true] at hs
      exact pe_call F (ok.room.mono hj) (ok.gl h2) hm hk hb .nil pass0 ha hd.1 (starEach_cons hs.1) (noStar_any hs.2 _)
  refine .plain (pe.imp fun σ H Q q => ?_) (fun _ => rfl) (fun _ _ _ z => by cases z)
  obtain ⟨ι, env, h, w, h', sr, eo, e, q⟩ := q
  simp only [evE, Option.bind_eq_bind, Option.bind_eq_some_iff, Prod.exists] at e
  obtain ⟨ws, h1, e1, e⟩ := e
  refine ⟨ι, env, h, ws, h1, sr, eo, e1, fun ι1 H1 vs p1 s1 r1 => ?_⟩
  have q1 := q.stp p1
  show spOf X.KK (Φ g) (vs ++ []) H1 Q E0
  rw [List.append_nil]
  split at e
  · rename_i f hf
    simp only [Option.bind_eq_some_iff, Option.some.injEq, Prod.mk.injEq] at e
    obtain ⟨ds, e2, d, e3, rfl, rfl⟩ := e
    rw [hf]
    exact ⟨ds, d, r1.pure e2, e3, rep_post s1 q1⟩
  · rename_i f hf
    simp only [Option.bind_eq_some_iff, Option.some.injEq, Prod.mk.injEq] at e
    obtain ⟨ds, e2, r, e3, rfl, rfl⟩ := e
    rw [hf]
    refine ⟨ds, r, r1.pure e2, e3, fun H' p us sm hp hp' ru => ?_⟩
    have s2 := s1.same sm
    have hn : p ∉ ι1 := s1.notin hp
    refine q1 (ι1 ++ [p]) H' _ ⟨List.prefix_append _ _, .of_same sm, fun c hc => ?_⟩ (s2.take hn (by rw [hp']; simp) ⟨us, hp', RepWL.of ru⟩) (.ref (by rw [← s1.len]; simp))
    rcases List.mem_append.mp hc with z | z
    · exact .inl z
    · simp at z; subst z; exact .inr hp
  · rename_i f hf
    simp only [Option.bind_eq_some_iff] at e
    obtain ⟨m, e2, e⟩ := e
    split at e
    · rename_i l hl
      simp only [Option.bind_eq_some_iff, Prod.exists, Option.some.injEq, Prod.mk.injEq] at e
      obtain ⟨c, e3, d, c', e4, rfl, rfl⟩ := e
      rw [hf]
      obtain ⟨as, bs, rfl⟩ := cellArg_spec e2
      have hlt : m < h1.length := (List.getElem?_eq_some_iff.mp hl).1
      obtain ⟨adr, hadr⟩ : ∃ adr, ι1[m]? = some adr := ⟨_, List.getElem?_eq_getElem (by rw [s1.len]; exact hlt)⟩
      obtain ⟨us, hu, ru⟩ := s1.cell m _ adr hl hadr
      have hmem : adr ∈ ι1 := List.mem_of_getElem? hadr
      have zz : (as.map W.d ++ W.ref m :: bs.map W.d).map zeroW = as.map W.d ++ W.ref 0 :: bs.map W.d := by
        rw [List.map_append, List.map_cons, zero_map, zero_map]; rfl
      rw [zz] at e4
      refine ⟨adr, _, c, us, d, c', RepWL.zero hadr r1, hu, ru.pure e3, e4, fun H' v us' x hu' ru' rv => ?_⟩
      have x' : Ext ι1 H1 H' := ⟨x.fx, fun b o hb q => x.oth b o (fun z => by simp at z; subst z; exact hb hmem) q⟩
      refine q1 ι1 H' v ⟨List.prefix_refl _, x', fun c hc => .inl hc⟩ ⟨by simp [s1.len], s1.nd, fun b hb => ?_, fun n cl b hn hb => ?_⟩ (.d rv)
      · by_cases hba : b = adr
        · subst hba; rw [hu']; simp
        · cases q : H1 b with
          | none => exact absurd q (s1.trk b hb)
          | some o => rw [x.oth b o (by simpa using hba) q]; simp
      · by_cases hnm : n = m
        · subst hnm
          rw [hadr] at hb; cases hb
          rw [List.getElem?_set_self hlt] at hn
          cases hn
          exact ⟨us', hu', RepWL.of ru'⟩
        · rw [List.getElem?_set_ne (Ne.symm hnm)] at hn
          have hne : b ≠ adr := nodup_get_ne s1.nd hb hadr hnm
          exact (s1.cell n cl b hn hb).ext (List.prefix_refl _) x.fx fun o q => x.oth b o (by simpa using hne) q
    · cases e
  · cases e

/-! ### a list is made -/
theorem Stp.off {ι ι' : List Addr} {H H' : Hp} {p : Addr} {o u : HO} (s : Stp ι H ι' H') (hp : H p = none) (hu : H' p = some u) (n1 : ∀ xs, u ≠ .tup xs) (n2 : ∀ o w, u ≠ .frz o w) : Stp ι H ι' (upd H' p o) :=
  ⟨s.pre, ⟨s.fx.trans (fx_write hu n1 n2), fun b x hb q => by rw [upd_ne (ne_of_none q hp)]; exact s.ext.oth b x hb q⟩, s.new⟩
theorem pe_mkl {m : Bool} {c : C} {f : Env → DH → Option (List W × DH)} (hf : f = evC Φ G c) (hpe : PE X x (tR X.KK f)) : PE X x (tE X.KK (evE Φ G (.mkl m c))) := by
  cases m with
  | true =>
    refine hpe.imp fun σ H Q q => ?_
    obtain ⟨ι, env, h, w, h', sr, eo, e, q⟩ := q
    simp only [evE, mkL, Option.bind_eq_bind, Option.bind_eq_some_iff, Prod.exists, if_true, Option.some.injEq, Prod.mk.injEq] at e
    obtain ⟨ws, h1, e1, rfl, rfl⟩ := e
    subst hf
    refine ⟨ι, env, h, ws, h1, sr, eo, e1, fun ι1 H1 p vs p1 s1 hp hn hq r => ?_⟩
    refine q (ι1 ++ [p]) H1 _ ⟨p1.pre.trans (List.prefix_append _ _), p1.ext, fun c hc => ?_⟩ (s1.take hn (by rw [hp]; simp) ⟨vs, hp, r.ext (List.prefix_append _ _) .refl⟩) (.ref (by rw [← s1.len]; simp))
    rcases List.mem_append.mp hc with z | z
    · exact p1.new c z
    · simp at z; subst z; exact .inr hq
  | false =>
    refine ⟨fun pins s σ H Q I q => thn (hpe.run pins s σ H (fun v H' => ∃ p vs, v = .ref p ∧ H' p = some (.lst vs) ∧ ∀ o, Q v (upd H' p (.frz o (.lst vs)))) I ?_) fun _ _ => EP.frz⟩
    obtain ⟨ι, env, h, w, h', sr, eo, e, q⟩ := q
    simp only [evE, mkL, Option.bind_eq_bind, Option.bind_eq_some_iff, Prod.exists, Bool.false_eq_true, if_false, Option.map_eq_some_iff, Prod.mk.injEq] at e
    obtain ⟨ws, h1, e1, ds, e2, rfl, rfl⟩ := e
    subst hf
    refine ⟨ι, env, h, ws, h1, sr, eo, e1, fun ι1 H1 p vs p1 s1 hp hn hq r => ⟨p, vs, rfl, hp, fun o => ?_⟩⟩
    have n1 : ∀ xs, HO.lst vs ≠ .tup xs := fun _ z => by cases z
    have n2 : ∀ o w, HO.lst vs ≠ .frz o w := fun _ _ z => by cases z
    exact q ι1 _ _ (p1.off hq hp n1 n2) (s1.off hn hp n1 n2) (.d (.lst ⟨o, upd_same⟩ ((r.pure e2).ext (fx_write hp n1 n2))))
theorem s_disp {es : Es} {xs : List Expr} (ha : PA X xs (tA X.KK (evEs Φ G es))) : PE X (.List xs pos) (tR X.KK (evC Φ G (.disp es))) := (pe_lst ha).imp fun σ H Q q => by
  obtain ⟨ι, env, h, w, h', sr, eo, e, q⟩ := q
  simp only [evC, Option.bind_eq_bind, Option.bind_eq_some_iff, Prod.exists] at e
  obtain ⟨ws, h1, e1, e⟩ := e
  split at e
  · rename_i hl
    cases e
    exact ⟨ι, env, h, _, h', sr, eo, e1, fun ι1 H1 vs p1 s1 r1 => ⟨by rw [← r1.length, ← line_eq]; exact hl, fun p hp => (q.stp p1).fresh s1 hp r1⟩⟩
  · cases e
/-- list(x) by data -/
def rOfl (K : KW) : List V → Hp → VK → Prop := fun xs H Q => ∃ ι h w d ds v, xs = [v] ∧ SR K ι H h ∧ RepW K ι H w v ∧ valD h w = some d ∧ (d = .lst ds ∨ d = .tup ds ∨ (∃ ns, d = .scr ns ∧ ds = ns.map D.int) ∨ ∃ c us, d = .dct c ds us) ∧ PostC K ι H (ds.map W.d) h Q
theorem oflR (hcl : X.calm = true) : CallR X (.type "list") (rOfl X.KK) := by
  intro pins s σ H xs us Q I rs hq
  obtain ⟨ι, h, w, d, ds, v, rfl, sr, rw', e, hd, q⟩ := hq
  have i := rw'.is sr e
  rcases hd with rfl | rfl | ⟨ns, rfl, rfl⟩ | ⟨c, dvs, rfl⟩
  · obtain ⟨a, vs, rfl, h1, r1⟩ := i.sq
    exact call_list_of pins s σ H _ us Q I rs ⟨a, vs, rfl, .inl (.inl h1), fun l hl => q.fresh sr hl (RepWL.of r1)⟩
  · obtain ⟨a, vs, rfl, h1, r1⟩ := i.tup
    exact call_list_of pins s σ H _ us Q I rs ⟨a, vs, rfl, .inr h1, fun l hl => q.fresh sr hl (RepWL.of r1)⟩
  · cases i with
    | rep r =>
      cases r with
      | scr hs =>
        refine call_list_of pins s σ H _ us Q I rs ⟨_, _, rfl, .inl ?_, fun l hl => q.fresh sr hl (RepWL.of .of_ints)⟩
        rcases hs with ⟨o, h1⟩ | h1
        · exact .inl (.inr ⟨o, h1⟩)
        · exact .inr h1
  · obtain ⟨a, es, kus, vus, rfl, hr, dt⟩ := i.dctA
    obtain ⟨u, rfl, rx⟩ := vals1 rs
    obtain rfl : u = .ref a := rx
    obtain ⟨ob, ea, ep, ho, hx, hdt, rfl⟩ := dct_raw I hr
    have hle : ea.size ≤ sizeLine := by have := dt.len; rwa [Array.length_toList] at this
    refine PySem.W.kdl_call (kdl_raw dt.sys hx hdt) (I.ok.hd hcl) ho hle fun h' tk acc' c' kp e2 it => ?_
    have rv := ents_keys dt.ents
    have ea' : acc'.toList = ea.toList.map (·.key) := itemsOf_eq it (by simp) fun i v hv => by
      obtain ⟨en, h1, rfl⟩ := hv
      simp [h1]
    refine ⟨.ref s.heap.objs.size, _, I.laid (t' := tk) (o := .lst kus) kp (Nat.le_refl _) ?_, rfl, q.fresh sr (I.hok.fresh (Nat.le_refl _)) (RepWL.of dt.rk)⟩
    refine ⟨?_, acc'.toList, c', by rw [ea']; exact rv, e2⟩
    have l1 : kus.length = (ea.toList.map (·.key)).length := rv.length
    rw [List.length_map] at l1
    show kus.length ≤ sizeLine
    rw [l1]; exact dt.len
theorem s_ofl (ok : XOk cf Φ G sc k X) {a : E} {p : Pos} (hg : glB sc "list" = true) (ha : Ok1 X x (evE Φ G a)) (hs : notStar x = true) : PE X (.Call (.Name "list" p) [x] [] pos) (tR X.KK (evC Φ G (.ofl a))) := by
  have hm : X.mg "list" = none := ok.blt _ (by decide +kernel)
  refine (pe_callTy (oflR (X := X) ok.calm) (ok.gl hg) hm (by decide +kernel) (pa_cons ha.pe pa_nil (starEach_cons hs)) (by decide) (by decide) (starEach_cons hs) (by rfl)).imp fun σ H Q q => ?_
  obtain ⟨ι, env, h, w, h', sr, eo, e, q⟩ := q
  simp only [evC, Option.bind_eq_bind, Option.bind_eq_some_iff, Prod.exists, Option.some.injEq, Prod.mk.injEq] at e
  obtain ⟨w, h1, e1, d, e2, ds, e3, rfl, rfl⟩ := e
  refine ⟨ι, env, h, w, h1, sr, eo, e1, fun ι1 H1 v p1 s1 r1 => ⟨ι1, h1, w, d, ds, v, rfl, s1, r1, e2, ?_, q.stp p1⟩⟩
  split at e3 <;> first | cases e3 | skip
  · exact .inl rfl
  · exact .inr (.inl rfl)
  · exact .inr (.inr (.inl ⟨_, rfl, rfl⟩))
  · exact .inr (.inr (.inr ⟨_, _, rfl⟩))
theorem PO.of {o : Option Expr} : True := trivial
/-- list(range(..)) -/
theorem rg_ints {K : KW} {H : Hp} (i j : Int) : RepL K H ((List.range (j - i).toNat).map fun (k : Nat) => D.int (i + k)) (rgV i j) := by
  have : ((List.range (j - i).toNat).map fun (k : Nat) => D.int (i + k)) = (((List.range (j - i).toNat).map fun (k : Nat) => (i + (k : Int))).map D.int) := by rw [List.map_map]; rfl
  rw [this]
  have e2 : rgV i j = (((List.range (j - i).toNat).map fun (k : Nat) => (i + (k : Int))).map V.int) := by unfold rgV; rw [List.map_map]; rfl
  rw [e2]
  exact .of_ints
theorem s_oflr1 (ok : XOk cf Φ G sc k X) {a : E} {p p2 pos2 : Pos} (hg : glB sc "list" = true) (hg2 : glB sc "range" = true) (ha : Ok1 X x (evE Φ G a)) (hs : notStar x = true) :
    PE X (.Call (.Name "list" p) [.Call (.Name "range" p2) [x] [] pos2] [] pos) (tR X.KK (evC Φ G (.ofl (.rng (.cons a .nil))))) := by
  have hm : X.mg "list" = none := ok.blt _ (by decide +kernel)
  have hm2 : X.mg "range" = none := ok.blt _ (by decide +kernel)
  refine (pe_listRg ok.calm (ok.gl hg) hm (prg_1 (ok.gl hg2) hm2 ha.pe (starEach_cons hs)) rfl).imp fun σ H Q q => ?_
  obtain ⟨ι, env, h, w, h', sr, eo, e, q⟩ := q
  simp only [evC, evE, evEs, Option.bind_eq_bind, Option.bind_eq_some_iff, Prod.exists, Option.some.injEq, Prod.mk.injEq] at e
  obtain ⟨_, _, ⟨_, _, ⟨w, h1, e1, _, _, ⟨rfl, rfl⟩, rfl, rfl⟩, ds, e2, rs, e3, rfl, rfl⟩, d, e4, ds', e5, rfl, rfl⟩ := e
  cases w with
  | ref n => simp [pureL] at e2
  | d w =>
    simp only [pureL, Option.map_some, Option.some.injEq] at e2
    subst e2
    cases w <;> simp only [rngD, reduceCtorEq] at e3
    rename_i j
    split at e3
    · rename_i hl
      cases e3
      simp only [Bool.and_eq_true, decide_eq_true_eq, lo62_iff, hi62_iff, lo63_iff, hi63_iff, hi30_iff, hiP_iff, hi24_iff, b64_iff] at hl
      simp only [valD, Option.some.injEq] at e4
      subst e4
      simp only [Option.some.injEq] at e5
      subst e5
      refine ⟨ι, env, h, _, h1, sr, eo, e1, fun ι1 H1 v p1 s1 r1 => ⟨j, r1.int, ⟨by omega, by omega, by omega, by omega, by omega⟩, fun p hp => (q.stp p1).fresh s1 hp (RepWL.of ?_)⟩⟩
      have := rg_ints (K := X.KK) (H := H1) 0 j
      simpa using this
    · cases e3
theorem s_oflr2 (ok : XOk cf Φ G sc k X) {a b : E} {p p2 pos2 : Pos} (hg : glB sc "list" = true) (hg2 : glB sc "range" = true) (ha : Ok1 X x (evE Φ G a)) (hb : Ok1 X y (evE Φ G b)) (hs : notStar x = true) (hs2 : notStar y = true) :
    PE X (.Call (.Name "list" p) [.Call (.Name "range" p2) [x, y] [] pos2] [] pos) (tR X.KK (evC Φ G (.ofl (.rng (.cons a (.cons b .nil)))))) := by
  have hm : X.mg "list" = none := ok.blt _ (by decide +kernel)
  have hm2 : X.mg "range" = none := ok.blt _ (by decide +kernel)
  refine (pe_listRg ok.calm (ok.gl hg) hm (prg_2 (ok.gl hg2) hm2 ha.pe hb.pe (starEach_cons hs) (starEach_cons hs2) (noStar_any (es := [y]) (by simp [noStar, hs2]) _)) rfl).imp fun σ H Q q => ?_
  obtain ⟨ι, env, h, w, h', sr, eo, e, q⟩ := q
  simp only [evC, evE, evEs, Option.bind_eq_bind, Option.bind_eq_some_iff, Prod.exists, Option.some.injEq, Prod.mk.injEq] at e
  obtain ⟨_, _, ⟨_, _, ⟨w, h1, e1, _, _, ⟨w2, h2, e1', _, _, ⟨rfl, rfl⟩, rfl, rfl⟩, rfl, rfl⟩, ds, e2, rs, e3, rfl, rfl⟩, d, e4, ds', e5, rfl, rfl⟩ := e
  cases w with
  | ref n => simp [pureL] at e2
  | d w =>
    cases w2 with
    | ref n => simp [pureL] at e2
    | d w2 =>
      simp only [pureL, Option.map_some, Option.some.injEq] at e2
      subst e2
      cases w <;> cases w2 <;> simp only [rngD, reduceCtorEq] at e3
      rename_i i j
      split at e3
      · rename_i hl
        cases e3
        simp only [Bool.and_eq_true, decide_eq_true_eq, lo62_iff, hi62_iff, lo63_iff, hi63_iff, hi30_iff, hiP_iff, hi24_iff, b64_iff] at hl
        simp only [valD, Option.some.injEq] at e4
        subst e4
        simp only [Option.some.injEq] at e5
        subst e5
        refine ⟨ι, env, h, _, h1, sr, eo, e1, fun ι1 H1 v p1 s1 r1 => ⟨ι1, env, h1, _, h2, s1, eo.stp p1, e1', fun ι2 H2 v2 p2 s2 r2 => ⟨i, j, (r1.stp p2).int, r2.int, ⟨by omega, by omega, by omega, by omega, by have := hl.2; simp only [line] at this; omega⟩, fun p hp => (q.stp (p1.trans p2)).fresh s2 hp (RepWL.of (rg_ints i j))⟩⟩⟩
      · cases e3
/-- list * int by data -/
def rRepC (K : KW) : R2 := fun x y H Q => ∃ ι h xs k, SR K ι H h ∧ RepW K ι H (.d (.lst xs)) x ∧ RepW K ι H (.d (.int k)) y ∧ (-(2 ^ 63) ≤ k ∧ k < 2 ^ 63 ∧ xs.length * k.toNat ≤ line) ∧ PostC K ι H ((List.replicate k.toNat xs).flatten.map W.d) h Q
theorem repR : OpR X (binaryOp .Mult) (rRepC X.KK) := by
  intro pins s σ H x y v u Q I rx ry hq
  obtain ⟨ι, h, xs, k, sr, r1, r2, ⟨h1, h2, hz⟩, q⟩ := hq
  obtain ⟨l, vs, rfl, hH, r⟩ := (Is.rep r1.pure).sq
  obtain rfl := r2.int
  cases rx
  obtain ⟨t, rfl⟩ := ry
  obtain ⟨z, its, n, rv, hl, e⟩ := Inv.rdl I hH
  have hxl := r.length
  have hlen : its.toArray.size * k.toNat ≤ sizeLine := by rw [List.size_toArray, ← hl, ← hxl, ← line_eq]; exact hz
  have hcap : ¬ its.toArray.size * k.toNat > (2 ^ 63 - 1) / 8 := by
    have : (sizeLine : Nat) ≤ (2 ^ 63 - 1) / 8 := by decide
    omega
  have hfit : ¬ (!Builtin.List.listFitsIndex k) = true := by
    rw [fitsIndex_both h1 h2]
    exact Bool.false_ne_true
  have hlong : ¬ Builtin.List.listTooLong (its.toArray.size * k.toNat) = true := by
    rw [notLongL hlen]
    exact Bool.false_ne_true
  have hnew : List.foldl (fun x1 x2 => x1 ++ x2) #[] (List.replicate (if its.toArray.isEmpty = true then 0 else k.toNat) its.toArray) = (List.replicate k.toNat its).flatten.toArray := by
    have f0 : ∀ m : Nat, List.foldl (fun x1 x2 => x1 ++ x2) #[] (List.replicate m its.toArray) = (List.replicate m its).flatten.toArray := fun m => by
      have := foldl_rep its m []
      rw [List.nil_append] at this
      exact this
    rw [f0]
    cases its with
    | nil => simp
    | cons a r' => rw [if_neg (by simp)]
  refine wpAny_binaryOp_repeat_ref (T := "list") (U := "int") (by decide) ⟨_, e, rfl⟩ (fun s' => typeIs_int s' k t) noFill_list_mul F.fills_int_mul F.slot_int_rmul repeat_list F.slot_int_index.lookup
    (call_meets F.slot_int_rmul (typeIs_int s k t) F.entry_int_rmul (F.args_int_rmul_2 _ _) (int___rmul___int_list k t l its.toArray n)
      ⟨e, rfl, ⟨_, e, rfl⟩, call_meets F.slot_list_mul ⟨_, e, rfl⟩ F.entry_list_mul (F.args_list_mul_2 _ _) (AutoListH.list___mul___list_int_3 l its.toArray n k t hfit hcap hlong) ⟨e, ?_⟩⟩)
  rw [hnew]
  exact ⟨.ref _, _, I.lnew (t' := s.toks) (rv.rep k.toNat) (by rw [PyProof.Rows.lm_len_rep_flat, Nat.mul_comm, hl]; simpa using hlen), rfl, q.fresh sr (I.hok.fresh (Nat.le_refl _)) (RepWL.of (r.rep k.toNat))⟩
theorem s_rep {a b : E} (ha : Ok1 X x (evE Φ G a)) (hb : Ok1 X y (evE Φ G b)) : PE X (.BinOp x .Mult y pos) (tR X.KK (evC Φ G (.rep a b))) := (pe_op repR ha.pe hb.pe).imp fun σ H Q q => by
  obtain ⟨ι, env, h, w, h', sr, eo, e, q⟩ := q
  simp only [evC, Option.bind_eq_bind, Option.bind_eq_some_iff, Prod.exists] at e
  obtain ⟨x, h1, e1, y, h2, e2, e⟩ := e
  split at e
  · split at e
    · rename_i hl
      cases e
      simp only [Bool.and_eq_true, decide_eq_true_eq, lo62_iff, hi62_iff, lo63_iff, hi63_iff, hi30_iff, hiP_iff, hi24_iff, b64_iff] at hl
      exact tOp_of sr eo e1 e2 fun ι2 H2 vx vy p s2 r1 r2 => ⟨ι2, _, _, _, s2, r1, r2, ⟨hl.1.1, hl.1.2, hl.2⟩, q.stp p⟩
    · cases e
  · cases e
end
end Sh

/-! what is walked; list comprehensions -/
namespace Sh
open PySem PySem.Spec PyProof.Rows L2

section
variable {X : Cx} {x y z tg : Expr} {pos : Pos} {cf : Cf} {Φ : Nat → FSpec} {G : Nat → D} {sc : Scope} {k : Nat}
theorem wk_lst {K : KW} {H : Hp} {a : Addr} {vs : List V} {ds : List D} (h : SqF H a vs) (r : RepL K H ds vs) : WkOk K (Itl K a) ds H := fun H' fx i => by
  have h' := sqf_ext fx h
  have r' := r.ext fx
  refine ⟨fun d hd => ?_, fun hi => ⟨vs, h'.sql, by rw [← r'.length]; exact hi⟩⟩
  obtain ⟨v, h1, h2⟩ := r'.get hd
  refine ⟨⟨vs, v, h'.sql, h1⟩, fun x H2 hy => ?_⟩
  obtain ⟨rfl, hy⟩ := hy
  have := hy vs h'.sql
  rw [h1] at this; cases this
  exact ⟨Same.refl _, h2⟩
theorem wk_tup {K : KW} {H : Hp} {a : Addr} {vs : List V} {ds : List D} (h : SqT K H a vs) (r : RepL K H ds vs) : WkOk K (Itt K a) ds H := fun H' fx i => by
  have h' := sqt_ext fx h
  have r' := r.ext fx
  refine ⟨fun d hd => ?_, fun hi => ⟨vs, h', by rw [← r'.length]; exact hi⟩⟩
  obtain ⟨v, h1, h2⟩ := r'.get hd
  refine ⟨⟨vs, v, h', h1⟩, fun x H2 hy => ?_⟩
  obtain ⟨rfl, hy⟩ := hy
  have := hy vs h'
  rw [h1] at this; cases this
  exact ⟨Same.refl _, h2⟩
theorem wk_str {K : KW} {H : Hp} {s : List Nat} (h : okCp s = true) : WkOk K (Its ⟨s.toArray⟩) (s.map fun c => .str [c]) H := fun H' fx i => by
  refine ⟨fun d hd => ?_, fun hi => ?_⟩
  · simp only [List.getElem?_map, Option.map_eq_some_iff] at hd
    obtain ⟨c, hc, rfl⟩ := hd
    have hlt := (List.getElem?_eq_some_iff.mp hc).1
    refine ⟨by show i < s.toArray.size; simpa using hlt, fun x H2 hy => ?_⟩
    obtain ⟨rfl, c', h1, rfl⟩ := hy
    have h1 : s[i]? = some c' := by simpa using h1
    rw [hc] at h1; cases h1
    refine ⟨Same.refl _, .str [c] ?_⟩
    unfold okCp at h ⊢
    simp only [List.all_eq_true] at h
    simp only [List.all_cons, List.all_nil, Bool.and_true]
    exact h c (List.mem_of_getElem? hc)
  · show s.toArray.size ≤ i
    simpa using hi
theorem wk_rng {K : KW} {H : Hp} (lo : Int) (n : Nat) : WkOk K (Itr lo n) ((List.range n).map fun (k : Nat) => D.int (lo + k)) H := fun H' fx i => by
  refine ⟨fun d hd => ?_, fun hi => ?_⟩
  · simp only [List.getElem?_map, Option.map_eq_some_iff] at hd
    obtain ⟨c, hc, rfl⟩ := hd
    have hlt : i < n := by have := (List.getElem?_eq_some_iff.mp hc).1; simpa using this
    have hci : i = c := by have := (List.getElem?_eq_some_iff.mp hc).2; simpa using this
    subst hci
    refine ⟨hlt, fun x H2 hy => ?_⟩
    obtain ⟨rfl, rfl⟩ := hy
    exact ⟨Same.refl _, .int _⟩
  · show n ≤ i
    simpa using hi
theorem wk_dct {K : KW} {H : Hp} {a : Addr} {o : Obj} {es : List DictEntry} {kus : List V} {ks : List D} (h : H a = some (.frz o (DctAt a es))) (r : RepL K H ks kus) : WkOk K (Itx a o es kus) ks H := fun H' fx i => by
  have h' := fx.frz _ _ _ h
  have r' := r.ext fx
  refine ⟨fun d hd => ?_, fun hi => ⟨h', by rw [← r'.length]; exact hi⟩⟩
  obtain ⟨v, h1, h2⟩ := r'.get hd
  refine ⟨⟨h', (List.getElem?_eq_some_iff.mp h1).1⟩, fun x H2 hy => ?_⟩
  obtain ⟨rfl, hy⟩ := hy
  rw [h1] at hy; cases hy
  exact ⟨Same.refl _, h2⟩
theorem pi_val {a : E} (pe : PE X x (tE X.KK (evE Φ G a))) : PI X tg x (tI X.KK (evE Φ G a)) := by
  refine ⟨fun pins s σ H R I hq => ?_⟩
  obtain ⟨ι, env, h0, d, h', ds, sr, eo, e, ei, q⟩ := hq
  refine thn (pe.run pins s σ H (fun v H1 => ∃ ι1, Stp ι H ι1 H1 ∧ SR X.KK ι1 H1 h' ∧ Rep X.KK H1 d v) I ⟨ι, env, h0, .d d, h', sr, eo, e, fun ι' H' v p s r => ⟨ι', p, s, r.pure⟩⟩) fun v s1 ⟨xv, H1, I1, r1, ι1, p1, sr1, rx⟩ => ?_
  cases rx <;> simp only [itemsD, Option.some.injEq, reduceCtorEq] at ei
  · rename_i cs ho _
    split at ei
    · cases ei
      obtain ⟨t, rfl⟩ := r1
      have wk := wk_str (K := X.KK) (H := H1) ho
      cases ha : (⟨cs.toArray⟩ : Str).cps.all (· < 128)
      · exact wpAny_pyIter_wide ha (pi_one (tk := s1.toks) I1 _ (turn_str _ _ t "str_iterator" (.inr rfl)) ⟨_, Heap.get?_push_size _ rfl, rfl, rfl⟩ (q ι1 H1 _ p1 sr1 wk))
      · exact wpAny_pyIter_ascii ha (pi_one (tk := s1.toks) I1 _ (turn_str _ _ t "str_ascii_iterator" (.inl rfl)) ⟨_, Heap.get?_push_size _ rfl, rfl, rfl⟩ (q ι1 H1 _ p1 sr1 wk))
    · cases ei
  · rename_i a vs xs hq r _
    subst ei
    cases r1
    obtain ⟨its, rv, p, hz⟩ := I1.tuple hq
    refine wpAny_pyIter_tuple (show s1.heap.IsTuple a its.toArray from p) ?_
    refine ⟨s1.heap.objs.size, [s1.heap.objs.size], _, _, H1, rfl, I1.kept (t' := s1.toks) fun b o e => Heap.get?_push_of_some _ e, turn_tuple a _, ⟨_, Heap.get?_push_size _ rfl, rfl, rfl⟩, fun b hb => ?_, q ι1 H1 _ p1 sr1 (wk_tup hq r)⟩
    have e : b = s1.heap.objs.size := by simpa using hb
    subst e
    exact I1.fpOk (Nat.le_refl _) (I1.hok.fresh (Nat.le_refl _))
  · rename_i a vs xs hq r _
    subst ei
    cases r1
    obtain ⟨its, rv, p, hz⟩ := I1.list hq.sql
    refine wpAny_pyIter_list p.isList ?_
    refine ⟨s1.heap.objs.size, [s1.heap.objs.size], _, _, H1, rfl, I1.kept (t' := s1.toks) fun b o e => Heap.get?_push_of_some _ e, turn_list a _, ⟨_, Heap.get?_push_size _ rfl, rfl, rfl⟩, fun b hb => ?_, q ι1 H1 _ p1 sr1 (wk_lst hq r)⟩
    have e : b = s1.heap.objs.size := by simpa using hb
    subst e
    exact I1.fpOk (Nat.le_refl _) (I1.hok.fresh (Nat.le_refl _))
  · rename_i a es c ks ds' kus vus df hsy hln hkb hen hrk hrv _
    subst ei
    obtain rfl : v = .ref a := r1
    obtain ⟨o, df⟩ := df
    obtain ⟨hgd, hx, ea, ep, hdt, hes⟩ := frz_dct I1 df
    have hl : (es.map (·.key)).length = es.length := List.length_map _
    have hk := (ents_keys hen).length
    refine iter_keys hsy hgd hx hdt (pi_one (tk := s1.toks) I1 _ (turn_dk _ (ents_keys hen) hdt hes) ⟨_, Heap.get?_push_size _ rfl, rfl, ?_⟩ (q ι1 H1 _ p1 sr1 (wk_dct df hrk)))
    have : kus.length = ea.size := by rw [hk, hl, ← hes]; simp
    rw [this] <;> rfl
theorem pi_r1 (ok : XOk cf Φ G sc k X) {a : E} {p : Pos} (hg : glB sc "range" = true) (ha : Ok1 X x (evE Φ G a)) (hs : notStar x = true) : PI X tg (.Call (.Name "range" p) [x] [] pos) (tI X.KK (evE Φ G (.rng (.cons a .nil)))) := by
  have hm : X.mg "range" = none := ok.blt _ (by decide +kernel)
  refine (pi_range1 (ok.gl hg) hm (pa_cons ha.pe pa_nil (starEach_cons hs)) (starEach_cons hs)).imp fun σ H Q q => ?_
  obtain ⟨ι, env, h, d, h', ds, sr, eo, e, ei, q⟩ := q
  simp only [evE, evEs, Option.bind_eq_bind, Option.bind_eq_some_iff, Prod.exists, Option.some.injEq, Prod.mk.injEq] at e
  obtain ⟨_, _, ⟨w, h1, e1, _, _, ⟨rfl, rfl⟩, rfl, rfl⟩, ds', e2, rs, e3, e4, rfl⟩ := e
  cases w with
  | ref n => simp [pureL] at e2
  | d w =>
    simp only [pureL, Option.map_some, Option.some.injEq] at e2
    subst e2
    cases w <;> simp only [rngD, reduceCtorEq] at e3
    rename_i j
    split at e3
    · rename_i hl
      cases e3
      cases e4
      simp only [Bool.and_eq_true, decide_eq_true_eq, lo62_iff, hi62_iff, lo63_iff, hi63_iff, hi30_iff, hiP_iff, hi24_iff, b64_iff] at hl
      simp only [itemsD, Option.some.injEq] at ei
      subst ei
      refine ⟨ι, env, h, _, h1, sr, eo, e1, fun ι1 H1 v p1 s1 r1 => ⟨j, by rw [r1.int], by omega, by omega, q ι1 H1 _ p1 s1 ?_⟩⟩
      have := wk_rng (K := X.KK) (H := H1) 0 j.toNat
      simpa using this
    · cases e3
theorem pi_r2 (ok : XOk cf Φ G sc k X) {a b : E} {p : Pos} (hg : glB sc "range" = true) (ha : Ok1 X x (evE Φ G a)) (hb : Ok1 X y (evE Φ G b)) (hs : notStar x = true) (hs2 : notStar y = true) :
    PI X tg (.Call (.Name "range" p) [x, y] [] pos) (tI X.KK (evE Φ G (.rng (.cons a (.cons b .nil))))) := by
  have hm : X.mg "range" = none := ok.blt _ (by decide +kernel)
  have s2 : starEach [y] X.env = [(false, eval y X.env)] := starEach_cons hs2
  have s1 : starEach [x, y] X.env = [(false, eval x X.env), (false, eval y X.env)] := by rw [starEach_cons hs, s2]
  refine (pi_range2 (ok.gl hg) hm (pa_cons ha.pe (pa_cons hb.pe pa_nil (starEach_cons hs2)) (starEach_cons hs)) s1 s2).imp fun σ H Q q => ?_
  obtain ⟨ι, env, h, d, h', ds, sr, eo, e, ei, q⟩ := q
  simp only [evE, evEs, Option.bind_eq_bind, Option.bind_eq_some_iff, Prod.exists, Option.some.injEq, Prod.mk.injEq] at e
  obtain ⟨_, _, ⟨w, h1, e1, _, _, ⟨w2, h2, e1', _, _, ⟨rfl, rfl⟩, rfl, rfl⟩, rfl, rfl⟩, ds', e2, rs, e3, e4, rfl⟩ := e
  cases w with
  | ref n => simp [pureL] at e2
  | d w =>
    cases w2 with
    | ref n => simp [pureL] at e2
    | d w2 =>
      simp only [pureL, Option.map_some, Option.some.injEq] at e2
      subst e2
      cases w <;> cases w2 <;> simp only [rngD, reduceCtorEq] at e3
      rename_i i j
      split at e3
      · rename_i hl
        cases e3
        cases e4
        simp only [Bool.and_eq_true, decide_eq_true_eq, lo62_iff, hi62_iff, lo63_iff, hi63_iff, hi30_iff, hiP_iff, hi24_iff, b64_iff] at hl
        simp only [itemsD, Option.some.injEq] at ei
        subst ei
        exact ⟨ι, env, h, _, h1, sr, eo, e1, fun ι1 H1 v p1 s1 r1 => ⟨ι1, env, h1, _, h2, s1, eo.stp p1, e1', fun ι2 H2 v2 p2 s2 r2 => ⟨i, j, by rw [(r1.stp p2).int, r2.int], ⟨hl.1.1.1.1, hl.1.1.1.2, hl.1.1.2, hl.1.2⟩, q ι2 H2 _ (p1.trans p2) s2 (wk_rng i _)⟩⟩⟩
      · cases e3
/-! ### targets -/
theorem EnvOk.set {K : KW} {ι : List Addr} {H : Hp} {env : Env} {σ : L2.St} {w : W} {v : V} (eo : EnvOk K ι H env σ) (r : RepW K ι H w v) (i : Nat) : EnvOk K ι H (env.set i (some w)) (σ.set i (some v)) := by
  refine ⟨by simp [eo.len], fun j w' hj => ?_⟩
  by_cases hij : j = i
  · subst hij
    have hlt : j < env.length := by have := (List.getElem?_eq_some_iff.mp hj).1; simpa using this
    rw [List.getElem?_set_self hlt] at hj
    cases hj
    exact ⟨v, List.getElem?_set_self (by rw [← eo.len]; exact hlt), r⟩
  · rw [List.getElem?_set_ne (Ne.symm hij)] at hj
    obtain ⟨v', h1, h2⟩ := eo.val j w' hj
    exact ⟨v', by rw [List.getElem?_set_ne (Ne.symm hij)]; exact h1, h2⟩
theorem EnvOk.wipe {K : KW} {ι : List Addr} {H : Hp} {env : Env} {σ : L2.St} (eo : EnvOk K ι H env σ) : ∀ vs : List Nat, EnvOk K ι H (wipeE env vs) (wipe σ vs)
  | [] => eo
  | v :: vs => by
    have ih := EnvOk.wipe eo vs
    refine ⟨by simp [wipeE, L2.wipe, ih.len], fun j w hj => ?_⟩
    unfold wipeE at hj
    unfold L2.wipe
    by_cases hjv : j = v
    · subst hjv
      by_cases hl : j < (wipeE env vs).length
      · rw [List.getElem?_set_self hl] at hj; cases hj
      · rw [List.getElem?_eq_none (by simpa using hl)] at hj; cases hj
    · rw [List.getElem?_set_ne (Ne.symm hjv)] at hj ⊢
      exact ih.val j w hj
/-- a target's reading by data -/
def gP (K : KW) (p : Pat) : TG := fun v σ H Q => ∃ ι env h x env', SR K ι H h ∧ EnvOk K ι H env σ ∧ Rep K H x v ∧ p.bind x env = some env' ∧ ∀ σ', EnvOk K ι H env' σ' → (∀ vs, (∀ i ∈ p.vars, i ∈ vs) → L2.wipe σ' vs = L2.wipe σ vs) → Q σ' H
theorem wipe_set {σ : L2.St} {i : Nat} {v : Option V} : ∀ {vs : List Nat}, i ∈ vs → L2.wipe (σ.set i v) vs = L2.wipe σ vs
  | [], h => by simp at h
  | j :: vs, h => by
    unfold L2.wipe
    by_cases hv : i ∈ vs
    · rw [wipe_set hv]
    · have hij : i = j := by
        rcases List.mem_cons.mp h with h | h
        · exact h
        · exact absurd h hv
      subst hij
      have key : ∀ (τ : L2.St) (us : List Nat), i ∉ us → L2.wipe (τ.set i v) us = (L2.wipe τ us).set i v := by
        intro τ us
        induction us with
        | nil => intro _; rfl
        | cons u us ih =>
          intro hu
          simp only [List.mem_cons, not_or] at hu
          unfold L2.wipe
          rw [ih hu.2, List.set_comm _ _ hu.1]
      rw [key σ vs hv, List.set_set]
theorem gl_names {fs : Scope} (ok : XOk cf Φ G sc k X) (fo : FOk fs X) : ∀ {is : List Nat} {es : List Expr}, patB.go cf fs is es = true → ∃ t, PGs X es t ∧ (assignEach es X.env).length = es.length ∧ (assignEach es X.env).findIdx? (·.1) = none ∧ is.length = es.length ∧
    ∀ (ι : List Addr) (env env' : Env) (h : DH) (H : Hp) (σ : L2.St) (ds : List D) (vs : List V) (Q : L2.St → Hp → Prop), SR X.KK ι H h → EnvOk X.KK ι H env σ → RepL X.KK H ds vs → bindL is ds env = some env' →
      (∀ σ', EnvOk X.KK ι H env' σ' → (∀ us, (∀ i ∈ is, i ∈ us) → L2.wipe σ' us = L2.wipe σ us) → Q σ' H) → t vs σ H Q
  | [], [], _ => ⟨gNil, pgs_nil, rfl, rfl, rfl, fun ι env env' h H σ ds vs Q sr eo r e q => by
      cases r with
      | nil =>
        simp only [bindL, Option.some.injEq] at e
        subst e
        exact ⟨rfl, q σ eo fun _ _ => rfl⟩
      | cons a b => simp [bindL] at e⟩
  | [], _ :: _, h => by simp [patB.go] at h
  | _ :: _, [], h => by simp [patB.go] at h
  | i :: is, x :: es, h => by
    cases x with
    | Name n p =>
      simp only [patB.go, Bool.and_eq_true, decide_eq_true_eq] at h
      obtain ⟨t, ht, hl, hf, hlen, hq⟩ := gl_names ok fo h.2
      have hN : X.N[i]? = some n := by rw [ok.N]; exact h.1.1
      obtain ⟨hloc, hfn⟩ := fo n h.1.2
      refine ⟨gCons (gName i) t, pgs_cons (pg_name (by rw [ok.N]; exact ok.nd) hN hloc hfn) ht (by rfl), by simp only [assignEach, List.length_cons, hl], ?_, by simp [hlen], fun ι env env' h' H σ ds vs Q sr eo r e q => ?_⟩
      · show List.findIdx? (·.1) ((false, assign (.Name n p) X.env) :: assignEach es X.env) = none
        rw [List.findIdx?_cons, hf]; rfl
      · cases r with
        | nil => simp [bindL] at e
        | cons a b =>
          simp only [bindL] at e
          refine ⟨_, _, rfl, ?_⟩
          refine hq ι _ env' h' H _ _ _ Q sr (eo.set (.d a) i) b e fun σ' eo' w' => q σ' eo' fun us hu => ?_
          rw [w' us (fun j hj => hu j (List.mem_cons_of_mem _ hj)), wipe_set (hu i List.mem_cons_self)]
    | _ => simp [patB.go] at h
theorem bindL_len {is : List Nat} {ds : List D} {env env' : Env} (h : bindL is ds env = some env') : is.length = ds.length := by
  induction is generalizing ds env with
  | nil => cases ds with
    | nil => rfl
    | cons _ _ => simp [bindL] at h
  | cons i is ih => cases ds with
    | nil => simp [bindL] at h
    | cons d ds => simp only [bindL] at h; simp [ih h]
theorem pg_pat {fs : Scope} (ok : XOk cf Φ G sc k X) (fo : FOk fs X) : ∀ {p : Pat}, patB cf fs p tg = true → PG X tg (gP X.KK p)
  | .nm i, h => by
    cases tg with
    | Name n pp =>
      simp only [patB, Bool.and_eq_true, decide_eq_true_eq] at h
      have hN : X.N[i]? = some n := by rw [ok.N]; exact h.1
      obtain ⟨hloc, hfn⟩ := fo n h.2
      refine ⟨fun pins s σ H v u Q I r hq => (pg_name (by rw [ok.N]; exact ok.nd) hN hloc hfn).run pins s σ H v u Q I r ?_⟩
      obtain ⟨ι, env, h, x, env', sr, eo, rx, e, q⟩ := hq
      simp only [Pat.bind, Option.some.injEq] at e
      subst e
      exact q _ (eo.set (.d rx) i) fun vs hv => wipe_set (hv i (by simp [Pat.vars]))
    | _ => simp [patB] at h
  | .tup is, h => by
    cases tg with
    | Tuple es kk pp =>
      simp only [patB] at h
      obtain ⟨t, ht, hl, hf, hlen, hq'⟩ := gl_names ok fo h
      refine ⟨fun pins s σ H v u Q I r hq => (pg_tup ok.calm ht hl hf).run pins s σ H v u Q I r ?_⟩
      obtain ⟨ι, env, h, x, env', sr, eo, rx, e, q⟩ := hq
      cases rx <;> simp only [Pat.bind, reduceCtorEq] at e
      rename_i a vs ds hs rr
      refine ⟨a, vs, rfl, hs, ?_, hq' ι env env' h H σ ds vs Q sr eo rr e fun σ' eo' w' => q σ' eo' fun vs hv => w' vs fun i hi => hv i (by simpa [Pat.vars] using hi)⟩
      rw [← rr.length, ← bindL_len e, hlen]
    | _ => simp [patB] at h
  | .two i is, h => by
    unfold patB at h
    split at h
    · rename_i hp; cases hp
    · rename_i hp; cases hp
    · rename_i i' is' x px es kk pp k2 p2 hp
      cases hp
      simp only [Bool.and_eq_true, decide_eq_true_eq] at h
      obtain ⟨⟨h1, h2⟩, h3⟩ := h
      have hN : X.N[i]? = some x := by rw [ok.N]; exact h1
      obtain ⟨hloc, hfn⟩ := fo x h2
      obtain ⟨t, ht, hl, hf, hlen, hq'⟩ := gl_names ok fo h3
      have inner : PG X (.Tuple es kk pp) (gTup X.KK es.length t) := pg_tup ok.calm ht hl hf
      have outer : PG X (.Tuple [.Name x px, .Tuple es kk pp] k2 p2) (gTup X.KK 2 (gCons (gName i) (gCons (gTup X.KK es.length t) gNil))) :=
        pg_tup ok.calm (pgs_cons (pg_name (by rw [ok.N]; exact ok.nd) hN hloc hfn) (pgs_cons inner pgs_nil))
      refine ⟨fun pins s σ H v u Q I r hq => outer.run pins s σ H v u Q I r ?_⟩
      obtain ⟨ι, env, h, x', env', sr, eo, rx, e, q⟩ := hq
      have e3 : ∃ a xs, x' = .tup [a, .tup xs] ∧ bindL is xs (env.set i (some (.d a))) = some env' := by
        simp only [Pat.bind] at e
        split at e
        · rename_i heq; cases heq
        · rename_i heq; cases heq
        · rename_i heq; cases heq; exact ⟨_, _, rfl, e⟩
        · cases e
      obtain ⟨a, xs, rfl, e⟩ := e3
      cases rx with
      | tup hs rr =>
        cases rr with
        | cons ra rr =>
          cases rr with
          | cons rb rr =>
            cases rr
            cases rb with
            | tup hs2 rr2 =>
              refine ⟨_, _, rfl, hs, rfl, _, _, rfl, _, _, rfl, ⟨_, _, rfl, hs2, by rw [← rr2.length, ← bindL_len e, hlen], ?_⟩⟩
              refine hq' ι _ env' h H _ _ _ _ sr (eo.set (.d ra) i) rr2 e fun σ' eo' w' => ⟨rfl, q σ' eo' fun us hu => ?_⟩
              rw [w' us fun j hj => hu j (by simp [Pat.vars, hj]), wipe_set (hu i (by simp [Pat.vars]))]
    · cases h
end
end Sh

/-! methods of lists and texts; sets of whole numbers; tuples of ranges -/
namespace Sh
open PySem PySem.Spec PyProof.Rows L2

theorem few_one {env : PySem.Env} {x : Expr} {p : Pos} (h : notStar x = true) : ((backTo p (starEach [x] env)).all (fun x => !x.1) && (backToKw p (keywordEach [] env)).all (fun x => x.1.isSome)
      && decide ([x].length + ([] : List Keyword).length + (if ([] : List Keyword).isEmpty then 0 else 1) < 30)) = true := by
  rw [starEach_cons h]; rfl
theorem abase {o : Expr} (h : notC0 o = true) (nm : Str) (env : PySem.Env) (wh : Sem Value) : attributeBase o nm env wh = wh := by
  unfold attributeBase
  split
  · simp [notC0] at h
  · rfl
section
variable {X : Cx} {x y z tg : Expr} {pos : Pos} {cf : Cf} {Φ : Nat → FSpec} {G : Nat → D} {sc : Scope} {k : Nat}
/-! ### l.index(x) -/
theorem fndD_spec {d : D} : ∀ {ds : List D} {n j : Nat}, fndD d ds n = some j → ∃ i z, j = n + i ∧ ds[i]? = some z ∧ eqD z d = true ∧ ∀ (m : Nat) (z' : D), m < i → ds[m]? = some z' → eqD z' d = false
  | [], n, j, h => by simp [fndD] at h
  | y :: ds, n, j, h => by
    simp only [fndD] at h
    by_cases he : eqD y d = true
    · rw [if_pos he] at h
      cases h
      exact ⟨0, y, rfl, rfl, he, fun m _ hm => by omega⟩
    · rw [if_neg he] at h
      obtain ⟨i, z, rfl, h1, h2, h3⟩ := fndD_spec h
      refine ⟨i + 1, z, by omega, by simpa using h1, h2, fun m z' hm hz => ?_⟩
      cases m with
      | zero => simp at hz; subst hz; simpa using he
      | succ m => exact h3 m z' (by omega) (by simpa using hz)
def rIdx (K : KW) : V → List V → Hp → VK → Prop := fun x xs H Q => ∃ ds d j y, xs = [y] ∧ Is K H (.lst ds) x ∧ Is K H d y ∧ shp (.lst ds) = true ∧ shp d = true ∧ fndD d ds 0 = some j ∧ Q (.int (j : Nat)) H
theorem pyL_get : ∀ {ds : List D} {i : Nat}, (pyL ds)[i]? = ds[i]?.map py
  | [], i => by simp [pyL]
  | d :: ds, 0 => by simp [pyL]
  | d :: ds, i + 1 => by simp [pyL, pyL_get (ds := ds)]
theorem flat_get {ds : List D} {i : Nat} {z : D} (h : flatL ds = true) (e : ds[i]? = some z) : flat z = true := by
  induction ds generalizing i with
  | nil => simp at e
  | cons d ds ih =>
    simp only [flatL, Bool.and_eq_true] at h
    cases i with
    | zero => simp at e; subst e; exact h.1
    | succ i => exact ih h.2 (by simpa using e)
theorem idxR (hu : X.A.units + 65 < cLine) : MtR X "list.index" (rIdx X.KK) := by
  intro pins s σ H x xs v us Q I rx rxs hq
  obtain ⟨ds, d, j, y, rfl, ia, ib, h1, h2, hf, q⟩ := hq
  obtain ⟨a, vs, rfl, hr, r1⟩ := ia.sq
  have hfl : flatL ds = true := by have := shp_flat h1; simpa [flat] using this
  obtain ⟨i, z, rfl, e1, e2, e3⟩ := fndD_spec hf
  have fz := flat_get hfl e1
  refine mt_indexD hu pins s σ H _ _ v us Q I rx rxs ⟨a, y, py d, pyL ds, 0 + i, py z, rfl, rfl, .lst (.inl hr) (r1.dp hfl), ib.dp (shp_flat h2), by have := ia.shaped h1; simpa only [py] using this, ib.shaped h2, ?_, ?_, ?_, q⟩
  · rw [Nat.zero_add, pyL_get, e1]; rfl
  · rw [py_eqv z d fz (shp_flat h2)]; exact e2
  · intro m z' hm hz
    rw [pyL_get] at hz
    simp only [Option.map_eq_some_iff] at hz
    obtain ⟨w, hw, rfl⟩ := hz
    rw [py_eqv w d (flat_get hfl hw) (shp_flat h2)]
    exact e3 m w (by omega) hw
theorem valD_lst {K : KW} {ι : List Addr} {H : Hp} {h : DH} {w : W} {v : V} {ds : List D} (s : SR K ι H h) (r : RepW K ι H w v) (e : valD h w = some (.lst ds)) : tyV K "list" v H := by
  obtain ⟨a, vs, rfl, h1, _⟩ := (r.is s e).sq
  exact .inl ⟨rfl, vs, .inl h1⟩
theorem s_idx (hr : Room k X.A) {a b : E} {apos cpos : Pos} (ha : Ok1 X x (evE Φ G a)) (hb : Ok1 X y (evE Φ G b)) (hc : notC0 x = true) (hs : notStar y = true) (hl : (apos.endLine == cpos.line) = true) : Ok1 X (.Call (.Attribute x "index" apos) [y] [] cpos) (evE Φ G (.idx a b)) := by
  have hu : X.A.units + 65 < cLine := by have := hr.un; omega
  have pe := pe_bm (X := X) (cpos := cpos) (apos := apos) PySem.F.plainAttrs_list PySem.F.slot_list_index PySem.F.type_list_index (idxR hu) ha.pe (pa_cons hb.pe pa_nil (starEach_cons hs)) (abase hc _ _ _) (few_one hs) hl (starEach_cons hs) rfl
  refine .plain (pe.imp fun σ H Q q => ?_) (fun _ => rfl) (fun _ _ _ z => by cases z)
  obtain ⟨ι, env, h, w, h', sr, eo, e, q⟩ := q
  simp only [evE, Option.bind_eq_bind, Option.bind_eq_some_iff, Prod.exists] at e
  obtain ⟨wx, h1, e1, e⟩ := e
  split at e
  · rename_i ds0 hv
    simp only [Option.bind_eq_some_iff, Prod.exists] at e
    obtain ⟨wy, h2, e2, dx, e3, dy, e4, e⟩ := e
    split at e
    · rename_i xs
      split at e
      · rename_i hg
        simp only [Bool.and_eq_true] at hg
        simp only [Option.map_eq_some_iff, Prod.mk.injEq] at e
        obtain ⟨j, hj, rfl, rfl⟩ := e
        refine ⟨ι, env, h, wx, h1, sr, eo, e1, fun ι1 H1 v1 p1 s1 r1 => ⟨valD_lst s1 r1 hv, ι1, env, h1, wy, h2, s1, eo.stp p1, e2, fun ι2 H2 v2 p2 s2 r2 => ?_⟩⟩
        exact ⟨xs, dy, j, v2, rfl, (r1.stp p2).is s2 e3, r2.is s2 e4, hg.1, hg.2, hj, q ι2 H2 _ (p1.trans p2) s2 (.d (.int _))⟩
      · cases e
    · cases e
  · cases e
/-! ### x.pop() -/
def rPopW (K : KW) : V → List V → Hp → VK → Prop := fun x vs H Q => ∃ ι h n l w h', SR K ι H h ∧ RepW K ι H (.ref n) x ∧ h[n]? = some (.lst l) ∧
  ((vs = [] ∧ l[l.length - 1]? = some w ∧ h' = h.set n (.lst l.dropLast)) ∨ ∃ i j, vs = [.int i] ∧ lo63 i = true ∧ hi63 i = true ∧ ixN l.length i = some j ∧ l[j]? = some w ∧ h' = h.set n (.lst (l.eraseIdx j))) ∧ Post K ι H w h' Q
theorem popR : MtR X "list.pop" (rPopW X.KK) := by
  intro pins s σ H x vs v us Q I rx rxs hq
  obtain ⟨ι, h, n, l, w, h', sr, rn, hc, hv, q⟩ := hq
  obtain ⟨adr, rfl, ha⟩ := rn.cell
  obtain ⟨us', hH, r⟩ := sr.cell n _ adr hc ha
  have m1 : ∀ xs, HO.lst us' ≠ .tup xs := fun _ z => by cases z
  have m2 : ∀ o w, HO.lst us' ≠ .frz o w := fun _ _ z => by cases z
  rcases hv with ⟨rfl, hw, rfl⟩ | ⟨i, j, rfl, h1, h2, hj, hw, rfl⟩
  · obtain ⟨u, hu, ru⟩ := r.get hw
    have fx := fx_write (o := .lst us'.dropLast) hH m1 m2
    refine mt_pop pins s σ H _ _ v us Q I rx rxs ⟨adr, us', u, rfl, rfl, hH, by rw [← r.length]; exact hu, ?_⟩
    exact q ι _ u ⟨List.prefix_refl _, ext_write (List.mem_of_getElem? ha) hH m1 m2, fun _ z => .inl z⟩ (sr.write ha ⟨_, upd_same, r.dropLast.ext (List.prefix_refl _) fx⟩ fx) (ru.ext (List.prefix_refl _) fx)
  · obtain ⟨u, hu, ru⟩ := r.get hw
    have fx := fx_write (o := .lst (us'.eraseIdx j)) hH m1 m2
    refine mt_popAt pins s σ H _ _ v us Q I rx rxs ⟨adr, us', i, j, u, rfl, rfl, hH, lo63_iff.mp h1, hi63_iff.mp h2, by rw [← r.length]; exact (ixN_seq hj).1, hu, ?_⟩
    exact q ι _ u ⟨List.prefix_refl _, ext_write (List.mem_of_getElem? ha) hH m1 m2, fun _ z => .inl z⟩ (sr.write ha ⟨_, upd_same, (r.erase j).ext (List.prefix_refl _) fx⟩ fx) (ru.ext (List.prefix_refl _) fx)
theorem s_pop0 (ok : XOk cf Φ G sc k X) {i : Nat} {n : Str} {px apos cpos : Pos} (h1 : cf.N[i]? = some n) (h2 : visB sc n = true) (h3 : okN n = true) (hl : (apos.endLine == cpos.line) = true) :
    Ok1 X (.Call (.Attribute (.Name n px) "pop" apos) [] [] cpos) (evE Φ G (.pop i .nil)) := by
  have hd := okN_dbg h3
  have pe := pe_bm0 (X := X) (cpos := cpos) (apos := apos) PySem.F.plainAttrs_list PySem.F.slot_list_pop PySem.F.type_list_pop popR (pe_var (by rw [ok.N]; exact h1) (ok.vis h2) hd.1 hd.2.1 (pos := px)) rfl hl
  refine .plain (pe.imp fun σ H Q q => ?_) (fun _ => rfl) (fun _ _ _ z => by cases z)
  obtain ⟨ι, env, h, w, h', sr, eo, e, q⟩ := q
  simp only [evE, evEs] at e
  split at e
  · rename_i m hm
    split at e
    · rename_i ws0 hc0
      simp only [Option.bind_eq_bind, Option.bind_some] at e
      obtain ⟨v, hv, rv⟩ := eo.val i _ hm
      rw [hc0] at e
      simp only [Option.map_eq_some_iff, Prod.mk.injEq] at e
      obtain ⟨y, hy, rfl, rfl⟩ := e
      refine ⟨v, hv, ?_, ι, h, m, ws0, y, _, sr, rv, hc0, .inl ⟨rfl, hy, rfl⟩, q⟩
      obtain ⟨adr, rfl, ha⟩ := rv.cell
      obtain ⟨vs0, hH0, _⟩ := sr.cell m _ adr hc0 ha
      exact .inl ⟨rfl, _, SqL.of hH0⟩
    · cases e
  · cases e
theorem s_pop1 (ok : XOk cf Φ G sc k X) {i : Nat} {n : Str} {px apos cpos : Pos} {a : E} (h1 : cf.N[i]? = some n) (h2 : visB sc n = true) (h3 : okN n = true) (hl : (apos.endLine == cpos.line) = true) (ha : Ok1 X x (evE Φ G a)) (hs : notStar x = true) :
    Ok1 X (.Call (.Attribute (.Name n px) "pop" apos) [x] [] cpos) (evE Φ G (.pop i (.cons a .nil))) := by
  have hd := okN_dbg h3
  have pe := pe_bm (X := X) (cpos := cpos) (apos := apos) PySem.F.plainAttrs_list PySem.F.slot_list_pop PySem.F.type_list_pop popR (pe_var (by rw [ok.N]; exact h1) (ok.vis h2) hd.1 hd.2.1 (pos := px)) (pa_cons ha.pe pa_nil (starEach_cons hs)) rfl (few_one hs) hl (starEach_cons hs) rfl
  refine .plain (pe.imp fun σ H Q q => ?_) (fun _ => rfl) (fun _ _ _ z => by cases z)
  obtain ⟨ι, env, h, w, h', sr, eo, e, q⟩ := q
  simp only [evE, evEs] at e
  split at e
  · rename_i m hm
    split at e
    · rename_i ws0 hc0
      simp only [Option.bind_eq_bind, Option.bind_eq_some_iff, Prod.exists, Option.some.injEq, Prod.mk.injEq] at e
      obtain ⟨ws, h1, ⟨wy, h2, e1, _, _, ⟨rfl, rfl⟩, rfl, rfl⟩, e⟩ := e
      obtain ⟨v, hv, rv⟩ := eo.val i _ hm
      have hty : tyV X.K "list" v H := by
        obtain ⟨adr, rfl, ha⟩ := rv.cell
        obtain ⟨vs0, hH0, _⟩ := sr.cell m _ adr hc0 ha
        exact .inl ⟨rfl, _, SqL.of hH0⟩
      split at e
      · rename_i hnil
        cases hnil
      · rename_i l kk hc hws
        cases hws
        split at e
        · rename_i hg
          simp only [Bool.and_eq_true] at hg
          simp only [Option.bind_eq_some_iff, Option.some.injEq, Prod.mk.injEq] at e
          obtain ⟨j, hj, y, hy, rfl, rfl⟩ := e
          refine ⟨v, hv, hty, ι, env, h, _, h2, sr, eo, e1, fun ι1 H1 v1 p1 s1 r1 => ?_⟩
          exact ⟨ι1, h2, m, l, y, _, s1, rv.stp p1, hc, .inr ⟨kk, j, by rw [r1.int], hg.1, hg.2, hj, hy, rfl⟩, q.stp p1⟩
        · simp at e
      · cases e
    · cases e
  · cases e
/-! ### len(set(xs)) -/
theorem memK_ints (n : Int) : ∀ ns : List Int, memK (.int n) (ns.map D.int) = ns.any (· == n)
  | [] => rfl
  | m :: ns => by
    simp only [List.map_cons, memK, List.any_cons, memK_ints n ns, eqD]
theorem dedK_snoc (x : D) : ∀ (xs acc : List D), dedK acc (xs ++ [x]) = if memK x (dedK acc xs) = true then dedK acc xs else dedK acc xs ++ [x]
  | [], acc => rfl
  | y :: xs, acc => by
    by_cases h : memK y acc = true
    · have e1 : dedK acc (y :: xs ++ [x]) = dedK acc (xs ++ [x]) := by simp [dedK, h]
      have e2 : dedK acc (y :: xs) = dedK acc xs := by simp [dedK, h]
      rw [e1]; simp only [e2]; exact dedK_snoc x xs acc
    · have e1 : dedK acc (y :: xs ++ [x]) = dedK (acc ++ [y]) (xs ++ [x]) := by simp [dedK, h]
      have e2 : dedK acc (y :: xs) = dedK (acc ++ [y]) xs := by simp [dedK, h]
      rw [e1]; simp only [e2]; exact dedK_snoc x xs _
theorem firstMet_ded (ns : List Int) : ∀ i, i ≤ ns.length → (PyProof.Rows.firstMet (fun i => ns.getD i 0) i).map D.int = dedK [] ((ns.take i).map D.int)
  | 0, _ => rfl
  | i + 1, h => by
    have ih := firstMet_ded ns i (by omega)
    have e2 : ns.take (i + 1) = ns.take i ++ [ns[i]] := by
      rw [List.take_add_one, List.getElem?_eq_getElem h] <;> rfl
    have e1 : ns.getD i 0 = ns[i] := by
      rw [List.getD_eq_getElem?_getD, List.getElem?_eq_getElem h] <;> rfl
    rw [PyProof.Rows.firstMet_succ, e2, List.map_append, List.map_cons, List.map_nil, dedK_snoc, ← ih, memK_ints]
    show (if (PyProof.Rows.firstMet (fun i => ns.getD i 0) i).any (· == ns.getD i 0) then PyProof.Rows.firstMet (fun i => ns.getD i 0) i else PyProof.Rows.firstMet (fun i => ns.getD i 0) i ++ [ns.getD i 0]).map D.int = _
    rw [e1]
    split
    · rfl
    · rw [List.map_append]; rfl
def tLenSetA (K : PySem.W.Frag) (ta : TE) : TE := fun σ H Q => ta σ H fun x H1 => ∃ (l : Addr) (ns : List Int), x = .ref l ∧ SqL K H1 l (ns.map V.int) ∧ ns.length < 4000 ∧ Q (.int ((dedK [] (ns.map D.int)).length : Nat)) H1
theorem pe_lenSetA {ta : TE} {p p2 q pos : Pos} (hc : X.calm = true) (hg : Gl X "len") (hm : X.mg "len" = none) (hg2 : Gl X "set") (hm2 : X.mg "set" = none) (ha : PE X x ta) (na : starEach [x] X.env = (false, eval x X.env) :: starEach [] X.env) :
    PE X (.Call (.Name "len" p) [.Call (.Name "set" p2) [x] [] q] [] pos) (tLenSetA X.K ta) := by
  refine ⟨fun pins s σ H Q I h => ?_⟩
  refine Call_ (ld_blt I hg hm boot_len (PyProof.Rows.callWith_builtin1 (PyProof.Rows.args_cons ?_ rfl) rfl rfl))
  refine Call_ (ld_blt I hg2 hm2 boot_set ?_)
  refine PyProof.Rows.callWith_type1 (PyProof.Rows.args_cons (thn (ha.run pins s σ H _ I h) fun v s1 ⟨z, H1, I1, r1, q1⟩ => PyProof.Rows.args_nil ?_) na) na rfl
  obtain ⟨l, ns, rfl, hq, hl, q1⟩ := q1
  obtain rfl : v = .ref l := r1
  obtain ⟨its, r, pl, hz⟩ := I1.list hq
  have hlen : its.toArray.size = ns.length := by rw [List.size_toArray, ← r.length, List.length_map]
  have hsb : its.toArray.size + 1 < scanBound := by rw [hlen]; unfold scanBound; omega
  refine call_set_list (I1.ok.hd hc) pl.isList (by simpa using RZ.intsAre_vals r) hsb fun h' tk hS hk => ?_
  refine PyProof.Rows.args_nil ?_
  have hf := firstMet_ded ns ns.length (Nat.le_refl _)
  rw [List.take_length] at hf
  rw [hlen] at hS
  obtain ⟨o, es, ep, t, ho, hex, hd, _, _, _, hfl, hn⟩ := hS
  have hn' : (PyProof.Rows.firstMet (fun i => ns.getD i 0) ns.length).length = (dedK [] (ns.map D.int)).length := by rw [← hf, List.length_map]
  have hle : (PyProof.Rows.firstMet (fun i => ns.getD i 0) ns.length).length ≤ ns.length := PyProof.Rows.firstMet_length_le _ _
  have I2 : Inv X pins σ H1 { s1 with heap := h', toks := tk } := I1.kept fun b o e => hk b o (Heap.lt_size e) e
  exact call_len_set ho hex hd hfl (by rw [hn]; omega) ⟨.int (dedK [] (ns.map D.int)).length, H1, I2.tok _, ⟨_, by rw [hn, hn']⟩, q1⟩
theorem s_lset (ok : XOk cf Φ G sc k X) {a : E} {p p2 q : Pos} (hg : glB sc "len" = true) (hg2 : glB sc "set" = true) (ha : Ok1 X x (evE Φ G a)) (hs : notStar x = true) : Ok1 X (.Call (.Name "len" p) [.Call (.Name "set" p2) [x] [] q] [] pos) (evE Φ G (.lset a)) := by
  refine .plain ((pe_lenSetA ok.calm (ok.gl hg) (ok.blt _ (by decide +kernel)) (ok.gl hg2) (ok.blt _ (by decide +kernel)) ha.pe (starEach_cons hs)).imp fun σ H Q q => ?_) (fun _ => rfl) (fun _ _ _ z => by cases z)
  obtain ⟨ι, env, h, w, h', sr, eo, e, q⟩ := q
  simp only [evE, Option.bind_eq_bind, Option.bind_eq_some_iff, Prod.exists] at e
  obtain ⟨wx, h1, e1, dx, e2, e⟩ := e
  split at e
  · rename_i xs
    split at e
    · rename_i hg
      simp only [Bool.and_eq_true, decide_eq_true_eq] at hg
      cases e
      obtain ⟨ns, hns⟩ := Option.isSome_iff_exists.mp hg.1
      obtain rfl := intsD_eq hns
      refine ⟨ι, env, h, wx, _, sr, eo, e1, fun ι1 H1 v p1 s1 r1 => ?_⟩
      obtain ⟨l, vs, rfl, hr, rr⟩ := (r1.is s1 e2).sq
      rw [rr.ints] at hr
      exact ⟨l, ns, rfl, .inl hr, by simpa using hg.2, q ι1 H1 _ p1 s1 (.d (.int _))⟩
    · cases e
  · cases e
/-! ### tuple(range(..)) -/
theorem s_trng1 (ok : XOk cf Φ G sc k X) {a : E} {p p2 pos2 : Pos} (hg : glB sc "tuple" = true) (hg2 : glB sc "range" = true) (ha : Ok1 X x (evE Φ G a)) (hs : notStar x = true) :
    Ok1 X (.Call (.Name "tuple" p) [.Call (.Name "range" p2) [x] [] pos2] [] pos) (evE Φ G (.trng (.cons a .nil))) := by
  have hm : X.mg "tuple" = none := ok.blt _ (by decide +kernel)
  have hm2 : X.mg "range" = none := ok.blt _ (by decide +kernel)
  refine .plain ((pe_tupRg ok.calm (ok.gl hg) hm (prg_1 (ok.gl hg2) hm2 ha.pe (starEach_cons hs)) rfl).imp fun σ H Q q => ?_) (fun _ => rfl) (fun _ _ _ z => by cases z)
  obtain ⟨ι, env, h, w, h', sr, eo, e, q⟩ := q
  simp only [evE, evEs, Option.bind_eq_bind, Option.bind_eq_some_iff, Prod.exists, Option.some.injEq, Prod.mk.injEq] at e
  obtain ⟨_, _, ⟨w, h1, e1, _, _, ⟨rfl, rfl⟩, rfl, rfl⟩, ds, e2, rs, e3, rfl, rfl⟩ := e
  cases w with
  | ref n => simp [pureL] at e2
  | d w =>
    simp only [pureL, Option.map_some, Option.some.injEq] at e2
    subst e2
    cases w <;> simp only [rngD, reduceCtorEq] at e3
    rename_i j
    split at e3
    · rename_i hl
      cases e3
      simp only [Bool.and_eq_true, lo62_iff, hi24_iff] at hl
      refine ⟨ι, env, h, _, h1, sr, eo, e1, fun ι1 H1 v p1 s1 r1 => ⟨j, by rw [r1.int], ?_, fun t ht => ?_⟩⟩
      · refine ⟨by omega, by omega, by omega, by omega, by omega⟩
      · have := rg_ints (K := X.KK) (H := H1) 0 j
        simp only [Int.zero_add, Int.sub_zero] at this
        exact (q.stp p1).tup s1 ht this
    · cases e3
theorem s_trng2 (ok : XOk cf Φ G sc k X) {a b : E} {p p2 pos2 : Pos} (hg : glB sc "tuple" = true) (hg2 : glB sc "range" = true) (ha : Ok1 X x (evE Φ G a)) (hb : Ok1 X y (evE Φ G b)) (hs : notStar x = true) (hs2 : notStar y = true) :
    Ok1 X (.Call (.Name "tuple" p) [.Call (.Name "range" p2) [x, y] [] pos2] [] pos) (evE Φ G (.trng (.cons a (.cons b .nil)))) := by
  have hm : X.mg "tuple" = none := ok.blt _ (by decide +kernel)
  have hm2 : X.mg "range" = none := ok.blt _ (by decide +kernel)
  have s2 : starEach [y] X.env = (false, eval y X.env) :: starEach [] X.env := starEach_cons hs2
  refine .plain ((pe_tupRg ok.calm (ok.gl hg) hm (prg_2 (ok.gl hg2) hm2 ha.pe hb.pe (starEach_cons hs) s2 (noStar_any (by simp [noStar, hs2]) _)) rfl).imp fun σ H Q q => ?_) (fun _ => rfl) (fun _ _ _ z => by cases z)
  obtain ⟨ι, env, h, w, h', sr, eo, e, q⟩ := q
  simp only [evE, evEs, Option.bind_eq_bind, Option.bind_eq_some_iff, Prod.exists, Option.some.injEq, Prod.mk.injEq] at e
  obtain ⟨_, _, ⟨w, h1, e1, _, _, ⟨w2, h2, e1', _, _, ⟨rfl, rfl⟩, rfl, rfl⟩, rfl, rfl⟩, ds, e2, rs, e3, rfl, rfl⟩ := e
  cases w with
  | ref n => simp [pureL] at e2
  | d w =>
    cases w2 with
    | ref n => simp [pureL] at e2
    | d w2 =>
      simp only [pureL, Option.map_some, Option.some.injEq] at e2
      subst e2
      cases w <;> cases w2 <;> simp only [rngD, reduceCtorEq] at e3
      rename_i i j
      split at e3
      · rename_i hl
        cases e3
        simp only [Bool.and_eq_true, decide_eq_true_eq, lo62_iff, hi62_iff] at hl
        obtain ⟨⟨⟨⟨l1, l2⟩, l3⟩, l4⟩, l5⟩ := hl
        refine ⟨ι, env, h, _, h1, sr, eo, e1, fun ι1 H1 v p1 s1 r1 => ⟨ι1, env, h1, _, h2, s1, eo.stp p1, e1', fun ι2 H2 v2 p2 s2 r2 => ⟨i, j, by rw [r1.int], by rw [r2.int], ?_, fun t ht => ?_⟩⟩⟩
        · have : line = 16777216 := rfl
          refine ⟨by omega, by omega, by omega, by omega, by omega⟩
        · exact (q.stp (p1.trans p2)).tup s2 ht (rg_ints i j)
      · cases e3
/-! ### 's'.join(xs) -/
theorem strsD_eq : ∀ {ds : List D} {bs : List (List Nat)}, strsD ds = some bs → ds = bs.map D.str
  | [], _, e => by simp [strsD] at e; subst e; rfl
  | .str b :: r, _, e => by
    simp only [strsD, Option.map_eq_some_iff] at e
    obtain ⟨bs, h, rfl⟩ := e
    rw [strsD_eq h]; rfl
  | .non :: _, _, e => by simp [strsD] at e
  | .bl _ :: _, _, e => by simp [strsD] at e
  | .int _ :: _, _, e => by simp [strsD] at e
  | .tup _ :: _, _, e => by simp [strsD] at e
  | .lst _ :: _, _, e => by simp [strsD] at e
  | .dct .. :: _, _, e => by simp [strsD] at e
  | .scr _ :: _, _, e => by simp [strsD] at e
theorem RepL.strs {K : KW} {H : Hp} : ∀ {bs : List (List Nat)} {vs : List V}, RepL K H (bs.map D.str) vs → vs = (bs.map fun b => (⟨b.toArray⟩ : Str)).map V.str ∧ ∀ b ∈ bs, okCp b = true
  | [], _, .nil => ⟨rfl, fun b h => by simp at h⟩
  | b :: bs, _, .cons (.str _ hb) t => by
    obtain ⟨h1, h2⟩ := RepL.strs t
    refine ⟨by rw [h1]; rfl, fun c hc => ?_⟩
    rcases List.mem_cons.mp hc with rfl | hc
    · exact hb
    · exact h2 c hc
theorem joinS_ok {s : List Nat} (hs : okCp s = true) : ∀ {bs : List (List Nat)}, (∀ b ∈ bs, okCp b = true) → okCp (joinS s bs) = true
  | [], _ => rfl
  | [x], h => h x (by simp)
  | x :: y :: r, h => by
    show okCp (x ++ s ++ joinS s (y :: r)) = true
    exact okCp_append (okCp_append (h x (by simp)) hs) (joinS_ok hs fun b hb => h b (by simp at hb ⊢; exact .inr hb))
theorem joinS_eq (s : List Nat) : ∀ bs : List (List Nat), joinS s bs = TL.joinL s bs
  | [] => rfl
  | [x] => rfl
  | x :: y :: r => by
    have ih := joinS_eq s (y :: r)
    show x ++ s ++ joinS s (y :: r) = x ++ (s ++ TL.joinL s (y :: r))
    rw [ih, List.append_assoc]
theorem join_txt (s : List Nat) (bs : List (List Nat)) : Txt.join ⟨s.toArray⟩ (bs.map fun b => (⟨b.toArray⟩ : Str)) = ⟨(joinS s bs).toArray⟩ := by
  rw [joinS_eq]; exact SX.join_S s bs
theorem s_join {s : List Nat} {kk : Nat} {ps : Pos} {a : E} {apos cpos : Pos} (ha : Ok1 X x (evE Φ G a)) (hcp : okCp s = true) (hs : notStar x = true) (hl : (apos.endLine == cpos.line) = true) :
    Ok1 X (.Call (.Attribute (.Constant (.str ⟨s.toArray⟩) kk ps) "join" apos) [x] [] cpos) (evE Φ G (.join s a)) := by
  refine .plain ((pe_join (apos := apos) (pos := cpos) (pe_str (x := ⟨s.toArray⟩)) ha.pe (starEach_cons hs) rfl hl).imp fun σ H Q q => ?_) (fun _ => rfl) (fun _ _ _ z => by cases z)
  obtain ⟨ι, env, h, w, h', sr, eo, e, q⟩ := q
  simp only [evE, Option.bind_eq_bind, Option.bind_eq_some_iff, Prod.exists] at e
  obtain ⟨wx, h1, e1, dx, e2, e⟩ := e
  split at e
  · rename_i xs
    simp only [Option.bind_eq_some_iff] at e
    obtain ⟨bs, hb, e⟩ := e
    split at e
    · rename_i hlen
      cases e
      obtain rfl := strsD_eq hb
      refine ⟨⟨⟨s.toArray⟩, rfl⟩, ι, env, h, wx, _, sr, eo, e1, fun ι1 H1 v p1 s1 r1 => ?_⟩
      obtain ⟨l, vs, rfl, hr, rr⟩ := (r1.is s1 e2).sq
      obtain ⟨rfl, hb2⟩ := rr.strs
      refine ⟨⟨s.toArray⟩, l, bs.map fun b => (⟨b.toArray⟩ : Str), rfl, rfl, .inl (.inl hr), ?_, ?_⟩
      · simp only [List.map_map, List.length_map, Function.comp, str_length]
        exact hlen
      · rw [join_txt]
        exact q ι1 H1 _ p1 s1 (.d (.str _ (joinS_ok hcp hb2)))
    · cases e
  · cases e
end
end Sh

/-! enumerate and zip over lists, tuples and texts -/
namespace Sh
open PySem PySem.Spec PyProof.Rows L2

/-! ### zip, the tuple that it gave out before being still there -/
section
variable {prog : Program} {w : World} {A : Around} {E : Value → Shared → Prop} {s : Shared} {z TI TO T i1 i2 : Addr} {fp1 fp2 : List Addr} {n1 n2 i : Nat} {P1 P2 : Nat → Value → Prop} {St1 St2 : Nat → Heap → Prop} {a1 a2 : Value} {f : Bool} {oT : Obj}
theorem zh_item {Q : Value → Shared → Prop} (S : ZipSep2 z TI TO i1 i2 fp1 fp2) (D1 : Draws prog w A i1 fp1 n1 P1 St1) (D2 : Draws prog w A i2 fp2 n2 P2 St2)
    (hz : IsZipHeld s.heap z TI TO T f) (hT : s.heap.get? T = some oT) (hTI : IsTupOf2 s.heap TI (.ref i1) (.ref i2)) (st1 : St1 i s.heap) (st2 : St2 i s.heap) (l1 : i < n1) (l2 : i < n2)
    (hQ : ∀ x1 x2 h' tk, P1 i x1 → P2 i x2 → IsZipHeld h' z TI TO T true → St1 (i + 1) h' → St2 (i + 1) h' → IsTupOf2 h' s.heap.objs.size x1 x2 → h'.objs.size = s.heap.objs.size + 1 →
      (∀ c o, c ≠ z → c ≠ i1 → c ≠ i2 → s.heap.get? c = some o → h'.get? c = some o) → Q (.ref s.heap.objs.size) { s with heap := h', toks := tk }) :
    wpAny (model prog w) A (Builtin.«zip.__next__» ⟨[.ref z], []⟩) (fun fin s' => ∃ v, fin = .done (.ret v) ∧ Q v s') E s := by
  obtain ⟨hp, g, d, tk0, os⟩ := s
  show wpAny _ _ (field (.ref z) 2 >>= _) _ _ _
  refine wpAny_bind (wpAny_field hz rfl (x := .bool false) rfl ?_)
  show wpAny _ _ (field (.ref z) 3 >>= _) _ _ _
  refine wpAny_bind (wpAny_field hz rfl (x := .ref TI) rfl ?_)
  refine wpAny_bind (wpAny_seqItems hTI rfl ?_)
  show wpAny _ _ (Builtin.SmallTypes.ownedTupleIsFree (.ref z) >>= _) _ _ _
  refine wpAny_bind (wpAny_tupleHeld_zip hz hT fun g0 hz0 hs0 => ?_)
  replace hs0 : Heap.SameBut z hp g0 := hs0
  simp only [Bool.false_eq_true, if_false]
  refine wpAny_bind ?_
  rw [← Array.forIn_toList]
  simp only [List.forIn_cons, List.forIn_nil]
  refine wpAny_bind (wpAny_bind (wpAny_holding ?_))
  show wpAny _ _ (Builtin.SmallTypes.nextOf (.ref i1) >>= _) _ _ ⟨g0, g, d, tk0, os⟩
  refine wpAny_bind (D1.item i _ _ _ l1 (D1.over st1 hs0 S.zf1) fun x1 p1 tk1 hx1 sn1 hp1 => wpAny_pure ?_)
  replace hp1 : Heap.SameBut i1 g0 p1 := hp1
  refine wpAny_pure ?_
  refine wpAny_bind (wpAny_bind (wpAny_holding ?_))
  show wpAny _ _ (Builtin.SmallTypes.nextOf (.ref i2) >>= _) _ _ ⟨p1, g, d, tk1, os⟩
  refine wpAny_bind (D2.item i _ _ _ l2 (D2.over (D2.over st2 hs0 S.zf2) hp1 S.sep1_2) fun x2 p2 tk2 hx2 sn2 hp2 => wpAny_pure ?_)
  replace hp2 : Heap.SameBut i2 p1 p2 := hp2
  refine wpAny_pure (wpAny_pure ?_)
  show wpAny _ _ (newTuple [x1, x2] >>= _) _ _ ⟨p2, g, d, tk2, os⟩
  refine wpAny_bind (wpAny_newTuple ?_)
  have hsz : p2.objs.size = hp.objs.size := by rw [hp2.1, hp1.1, hs0.1]
  have hzz : IsZipHeld p2 z TI TO T true := hp2.extBut _ _ S.zi2 (hp1.extBut _ _ S.zi1 hz0)
  have hk : ∀ c o, c ≠ z → c ≠ i1 → c ≠ i2 → hp.get? c = some o → p2.get? c = some o := fun c o c0 c1 c2 e => hp2.extBut _ _ c2 (hp1.extBut _ _ c1 (hs0.extBut _ _ c0 e))
  have hj1 : St1 (i + 1) p2 := D1.over sn1 hp2 S.sep2_1
  refine wpAny_pure ⟨_, rfl, ?_⟩
  have hpr : IsTupOf2 (p2.push { cls := .type "tuple", data := .seq #[x1, x2] }) p2.objs.size x1 x2 := Heap.get?_push_size _ rfl
  have hz4 : (p2.push { cls := .type "tuple", data := .seq #[x1, x2] }).objs.size = p2.objs.size + 1 := Heap.size_push ..
  show Q (.ref p2.objs.size) _
  rw [hsz] at hpr hz4 ⊢
  exact hQ x1 x2 _ tk2 hx1 hx2 (Heap.get?_push_of_some _ hzz) (D1.frame _ _ _ hj1 fun b _ o e => Heap.get?_push_of_some _ e) (D2.frame _ _ _ sn2 fun b _ o e => Heap.get?_push_of_some _ e) hpr hz4 fun c o c0 c1 c2 e => Heap.get?_push_of_some _ (hk c o c0 c1 c2 e)
theorem zh_end {Q : Fin → Shared → Prop} (S : ZipSep2 z TI TO i1 i2 fp1 fp2) (D1 : Draws prog w A i1 fp1 n1 P1 St1) (D2 : Draws prog w A i2 fp2 n2 P2 St2)
    (hz : IsZipHeld s.heap z TI TO T f) (hT : s.heap.get? T = some oT) (hTI : IsTupOf2 s.heap TI (.ref i1) (.ref i2)) (st1 : St1 i s.heap) (st2 : St2 i s.heap) (l1 : i ≤ n1) (l2 : i ≤ n2) (hend : i = n1 ∨ i = n2)
    (hE : ∀ h' tk e, (∀ c o, c ≠ z → c ≠ i1 → c ≠ i2 → s.heap.get? c = some o → h'.get? c = some o) → (∃ o, h'.get? e = some o ∧ o.cls = .type "StopIteration") → E (.ref e) { s with heap := h', toks := tk }) :
    wpAny (model prog w) A (Builtin.«zip.__next__» ⟨[.ref z], []⟩) Q E s := by
  obtain ⟨hp, g, d, tk0, os⟩ := s
  show wpAny _ _ (field (.ref z) 2 >>= _) _ _ _
  refine wpAny_bind (wpAny_field hz rfl (x := .bool false) rfl ?_)
  show wpAny _ _ (field (.ref z) 3 >>= _) _ _ _
  refine wpAny_bind (wpAny_field hz rfl (x := .ref TI) rfl ?_)
  refine wpAny_bind (wpAny_seqItems hTI rfl ?_)
  show wpAny _ _ (Builtin.SmallTypes.ownedTupleIsFree (.ref z) >>= _) _ _ _
  refine wpAny_bind (wpAny_tupleHeld_zip hz hT fun g0 hz0 hs0 => ?_)
  replace hs0 : Heap.SameBut z hp g0 := hs0
  simp only [Bool.false_eq_true, if_false]
  refine wpAny_bind ?_
  rw [← Array.forIn_toList]
  simp only [List.forIn_cons, List.forIn_nil]
  refine wpAny_bind (wpAny_bind (wpAny_holding ?_))
  show wpAny _ _ (Builtin.SmallTypes.nextOf (.ref i1) >>= _) _ _ ⟨g0, g, d, tk0, os⟩
  by_cases hlt1 : i < n1
  · refine wpAny_bind (D1.item i _ _ _ hlt1 (D1.over st1 hs0 S.zf1) fun x1 p1 tk1 hx1 sn1 hp1 => wpAny_pure ?_)
    replace hp1 : Heap.SameBut i1 g0 p1 := hp1
    have hi2 : i = n2 := by omega
    refine wpAny_pure ?_
    refine wpAny_bind (wpAny_bind (wpAny_holding ?_))
    show wpAny _ _ (Builtin.SmallTypes.nextOf (.ref i2) >>= _) _ _ ⟨p1, g, d, tk1, os⟩
    refine wpAny_bind (D2.done ⟨p1, g, d, tk1, os⟩ _ _ (by rw [← hi2]; exact D2.over (D2.over st2 hs0 S.zf2) hp1 S.sep1_2) fun q e hq he => ?_)
    replace hq : Heap.ExtBut i2 p1 q := hq
    exact hE q tk1 e (fun c o c0 c1 c2 x => hq _ _ c2 (hp1.extBut _ _ c1 (hs0.extBut _ _ c0 x))) he
  · have hi1 : i = n1 := by omega
    refine wpAny_bind (D1.done ⟨g0, g, d, tk0, os⟩ _ _ (by rw [← hi1]; exact D1.over st1 hs0 S.zf1) fun q e hq he => ?_)
    replace hq : Heap.ExtBut i1 g0 q := hq
    exact hE q tk0 e (fun c o c0 c1 c2 x => hq _ _ c1 (hs0.extBut _ _ c0 x)) he
theorem zh_next {Q : Option Value → Shared → Prop} (S : ZipSep2 z TI TO i1 i2 fp1 fp2) (D1 : Draws prog w A.in1 i1 fp1 n1 P1 St1) (D2 : Draws prog w A.in1 i2 fp2 n2 P2 St2)
    (hz : IsZipHeld s.heap z TI TO T f) (hT : s.heap.get? T = some oT) (hTI : IsTupOf2 s.heap TI (.ref i1) (.ref i2)) (st1 : St1 i s.heap) (st2 : St2 i s.heap) (l1 : i < n1) (l2 : i < n2)
    (hQ : ∀ x1 x2 h' tk, P1 i x1 → P2 i x2 → IsZipHeld h' z TI TO T true → St1 (i + 1) h' → St2 (i + 1) h' → IsTupOf2 h' s.heap.objs.size x1 x2 → h'.objs.size = s.heap.objs.size + 1 →
      (∀ c o, c ≠ z → c ≠ i1 → c ≠ i2 → s.heap.get? c = some o → h'.get? c = some o) → Q (some (.ref s.heap.objs.size)) { s with heap := h', toks := tk }) :
    wpAny (model prog w) A (pyNext (.ref z)) Q E s := by
  have hTy : s.TypeIs (.ref z) "zip" := ⟨_, hz, rfl⟩
  unfold pyNext
  refine wpAny_bind (wpAny_attempt (wpAny_callSpecial?_slot (name := Str.ofString "__next__") hTy F.slot_zip_next ?_))
  refine wpAny_call_entry F.slot_zip_next hTy F.entry_zip_next ?_ (F.args_zip_next_1 _)
  exact zh_item S D1 D2 hz hT hTI st1 st2 l1 l2 fun x1 x2 h' tk y1 y2 b1 b2 b3 b4 b5 b6 => wpAny_pure (hQ x1 x2 h' tk y1 y2 b1 b2 b3 b4 b5 b6)
theorem zh_done {Q : Option Value → Shared → Prop} (S : ZipSep2 z TI TO i1 i2 fp1 fp2) (D1 : Draws prog w A.in1 i1 fp1 n1 P1 St1) (D2 : Draws prog w A.in1 i2 fp2 n2 P2 St2)
    (hz : IsZipHeld s.heap z TI TO T f) (hT : s.heap.get? T = some oT) (hTI : IsTupOf2 s.heap TI (.ref i1) (.ref i2)) (st1 : St1 i s.heap) (st2 : St2 i s.heap) (l1 : i ≤ n1) (l2 : i ≤ n2) (hend : i = n1 ∨ i = n2)
    (hQ : ∀ h' tk, (∀ c o, c ≠ z → c ≠ i1 → c ≠ i2 → s.heap.get? c = some o → h'.get? c = some o) → Q none { s with heap := h', toks := tk }) : wpAny (model prog w) A (pyNext (.ref z)) Q E s := by
  have hTy : s.TypeIs (.ref z) "zip" := ⟨_, hz, rfl⟩
  unfold pyNext
  refine wpAny_bind (wpAny_attempt (wpAny_callSpecial?_slot (name := Str.ofString "__next__") hTy F.slot_zip_next ?_))
  refine wpAny_call_entry F.slot_zip_next hTy F.entry_zip_next (zh_end S D1 D2 hz hT hTI st1 st2 l1 l2 hend fun h' tk e hk he => ?_) (F.args_zip_next_1 _)
  obtain ⟨o, ho, hc⟩ := he
  refine wpAny_bind (wpAny_isInstance (T := "StopIteration") (b := true) ⟨o, ho, hc⟩ isSubtype_stop ?_)
  exact wpAny_pure (hQ _ _ hk)
end

/-! ### enumerate(v) begins -/
set_option maxHeartbeats 1000000 in
theorem meets_en1 {v : Value} {o : Obj} {J : Heap → Prop} (B : Begins v o J) : Meets (Builtin.«enumerate.__new__» ⟨[.type "enumerate", v], []⟩) (fun _ R s => J s.heap ∧
      R (.ok (.ret (.ref (s.heap.push o).objs.size))) { s with heap := (s.heap.push o).push { cls := .type "enumerate", data := .fields #[.none, .bool false, .ref s.heap.objs.size, rawInt 0, .none, .none] } }) :=
  .of_wp fun prog w A R s h => by
    obtain ⟨hp, g, d, tk, os⟩ := s
    obtain ⟨h1, h⟩ := h
    have hsub := sub_enumerate
    have begin_ : ∀ {A' : Around} {E : Value → Shared → Prop} {Q : Value → Shared → Prop}, Q (.ref hp.objs.size) ⟨hp.push o, g, d, tk, os⟩ → wpAny (model prog w) A' (pyIter v) Q E ⟨hp, g, d, tk, os⟩ := fun q => B.iter prog w _ _ ⟨hp, g, d, tk, os⟩ _ h1 q
    wp_walk using begin_
    refine wpAny_stack_any fun st => wpAny_pure ?_
    split
    · rename_i c _ _ _ _ _
      cases (c == Value.type "enumerate")
      · wp_walk using begin_
        exact ⟨_, rfl, h⟩
      · wp_walk using begin_
        exact ⟨_, rfl, h⟩
    · wp_walk using begin_
      exact ⟨_, rfl, h⟩
theorem en1_begins {prog : Program} {w : World} {A : Around} {E : Value → Shared → Prop} {s : Shared} {v : Value} {o : Obj} {J : Heap → Prop} {Q : Value → Shared → Prop} (B : Begins v o J) (h1 : J s.heap)
    (h : ∀ h', IsEnum h' (s.heap.objs.size + 1) s.heap.objs.size 0 .none → h'.get? s.heap.objs.size = some o → h'.objs.size = s.heap.objs.size + 2 → (∀ b o, s.heap.get? b = some o → h'.get? b = some o) → Q (.ref (s.heap.objs.size + 1)) { s with heap := h' }) :
    wpAny (model prog w) A (call (.type "enumerate") [v]) Q E s := by
  have hz : (s.heap.push o).objs.size = s.heap.objs.size + 1 := Heap.size_push ..
  refine callType_new F.called_enumerate (by decide) (F.typeCall_enumerate_1 _) (F.newCall_enumerate_1 _) (fun obj => F.args_object_init_2 obj _) F.entry_enumerate_new (meets_en1 B) ⟨h1, ?_⟩
  show _ ∧ _
  rw [hz]
  have he : IsEnum ((s.heap.push o).push { cls := .type "enumerate", data := .fields #[.none, .bool false, .ref s.heap.objs.size, rawInt 0, .none, .none] }) (s.heap.objs.size + 1) s.heap.objs.size 0 .none := by
    have := Heap.get?_push_size (s.heap.push o) (o := { cls := .type "enumerate", data := .fields #[.none, .bool false, .ref s.heap.objs.size, rawInt 0, .none, .none] }) rfl
    rw [hz] at this
    exact this
  exact ⟨⟨_, he, rfl⟩, h _ he (Heap.get?_push_of_some _ (Heap.get?_push_size _ B.free)) (by rw [Heap.size_push, hz]) fun b o x => Heap.get?_push_of_some _ (Heap.get?_push_of_some _ x)⟩

/-! ### what is walked: a list, a tuple, a text -/
inductive SK where
  | lst (a : Addr) (vs : List V) | tup (a : Addr) (vs : List V) | str (x : Str) (t : Tok)
namespace SK
def u : SK → Value
  | .lst a _ => .ref a | .tup a _ => .ref a | .str x t => .str x t
def items : SK → List V
  | .lst _ vs => vs | .tup _ vs => vs | .str x _ => x.cps.toList.map fun c => V.str ⟨#[c]⟩
def adr : SK → List Addr
  | .lst a _ => [a] | .tup a _ => [a] | .str _ _ => []
def here (K : PySem.W.Frag) (H : Hp) : SK → Prop
  | .lst a vs => SqL K H a vs | .tup a vs => SqT K H a vs | .str _ _ => True
def ob : SK → Obj
  | .lst a _ => { cls := .type "list_iterator", data := .fields #[.ref a, .int 0 0] }
  | .tup a _ => { cls := .type "tuple_iterator", data := .fields #[.ref a, .int 0 0] }
  | .str x t => { cls := .type (strIterType x), data := .fields #[.str x t, .int 0 0] }
def st (k : SK) (it : Addr) (i : Nat) (h : Heap) : Prop := match k with
  | .lst a _ => h.IsListIter it a i | .tup a _ => h.IsTupleIter it a i | .str x t => h.IsStrIter it (strIterType x) x t i
def src (k : SK) (its : List Value) (h : Heap) : Prop := match k with
  | .lst a _ => h.IsList a its.toArray | .tup a _ => h.IsTuple a its.toArray | .str _ _ => True
theorem begins (k : SK) (its : List Value) : Begins k.u k.ob (k.src its) := by
  cases k with
  | lst a vs => exact begins_list a _
  | tup a vs => exact begins_tuple a _
  | str x t => exact begins_text x t
theorem st0 (k : SK) {it : Addr} {h : Heap} (e : h.get? it = some k.ob) : k.st it 0 h := by
  cases k with
  | lst a vs => exact ⟨_, e, rfl, rfl⟩
  | tup a vs => exact ⟨_, e, rfl, rfl⟩
  | str x t => exact ⟨_, e, rfl, rfl⟩
theorem st_at {k : SK} {it : Addr} {i : Nat} {h h' : Heap} (x : k.st it i h) (e : ∀ o, h.get? it = some o → h'.get? it = some o) : k.st it i h' := by
  cases k with
  | lst a vs => exact Heap.IsListIter.at x e
  | tup a vs => exact Heap.IsTupleIter.at x e
  | str s t => obtain ⟨o, h1, h2⟩ := x; exact ⟨o, e o h1, h2⟩
theorem st_ob {k : SK} {it : Addr} {i : Nat} {h : Heap} (x : k.st it i h) : ∃ o, h.get? it = some o ∧ ∀ v, o.data ≠ .cell v := by
  cases k with
  | lst a vs => obtain ⟨o, h1, h2, h3⟩ := x; exact ⟨o, h1, fun v q => by rw [h3] at q; cases q⟩
  | tup a vs => obtain ⟨o, h1, h2, h3⟩ := x; exact ⟨o, h1, fun v q => by rw [h3] at q; cases q⟩
  | str s t => obtain ⟨o, h1, h2, h3⟩ := x; exact ⟨o, h1, fun v q => by rw [h3] at q; cases q⟩
theorem of_inv {X : Cx} {pins : List (Addr × Obj)} {σ : L2.St} {H : Hp} {s : Shared} (I : Inv X pins σ H s) (k : SK) (hk : k.here X.K H) : ∃ its, Vals k.items its ∧ k.src its s.heap := by
  cases k with
  | lst a vs => obtain ⟨its, r, p, _⟩ := I.list hk; exact ⟨its, r, p.isList⟩
  | tup a vs => obtain ⟨its, r, p, _⟩ := I.tuple hk; exact ⟨its, r, show s.heap.IsTuple a its.toArray from p⟩
  | str x t =>
    refine ⟨x.cps.toList.map fun c => Value.str ⟨#[c]⟩ 0, ?_, trivial⟩
    show Vals (x.cps.toList.map fun c => V.str ⟨#[c]⟩) _
    induction x.cps.toList with
    | nil => exact .nil
    | cons c r ih => exact .cons ⟨0, rfl⟩ ih
theorem lt {k : SK} {its : List Value} {h : Heap} (x : k.src its h) : ∀ a ∈ k.adr, a < h.objs.size := by
  intro a ha
  cases k with
  | lst b vs =>
    obtain rfl : a = b := by simpa [adr] using ha
    obtain ⟨o, e, _⟩ := x
    exact Heap.lt_size e
  | tup b vs =>
    obtain rfl : a = b := by simpa [adr] using ha
    obtain ⟨o, e, _⟩ := x
    exact Heap.lt_size e
  | str _ _ => simp [adr] at ha
theorem _root_.PySem.Draws.imp' {prog : Program} {w : World} {A : Around} {it : Addr} {fp : List Addr} {n m : Nat} {P P' : Nat → Value → Prop} {St : Nat → Heap → Prop} (D : Draws prog w A it fp n P St) (hn : n = m) (h : ∀ i v, i < n → P i v → P' i v) : Draws prog w A it fp m P' St := by
  subst hn
  exact ⟨D.live, D.frame, fun i s Q E hi st hQ => D.item i s Q E hi st fun x h' tk hp => hQ x h' tk (h i x hi hp), D.done⟩
theorem draws {prog : Program} {w : World} {A : Around} (hh : A.handled = none) (k : SK) {its : List Value} (hv : Vals k.items its) (it : Addr) (hne : ∀ a ∈ k.adr, a ≠ it) :
    Draws prog w A it (it :: k.adr) k.items.length (fun i v => ∃ x, k.items[i]? = some x ∧ RelV x v) (fun i h => k.st it i h ∧ k.src its h) := by
  have hg : ∀ (i : Nat) (v : Value), its.toArray[i]? = some v → ∃ x, k.items[i]? = some x ∧ RelV x v := fun i v h => by
    have h : its[i]? = some v := by simpa using h
    have hl := hv.length
    have hi : i < k.items.length := by rw [hl]; exact (List.getElem?_eq_some_iff.mp h).1
    obtain ⟨u, h1, h2⟩ := hv.get (List.getElem?_eq_getElem hi)
    rw [h] at h1
    cases h1
    exact ⟨_, List.getElem?_eq_getElem hi, h2⟩
  have hl : its.toArray.size = k.items.length := by rw [hv.length]; simp
  cases k with
  | lst a vs => exact (Draws.list hh it a (hne a (by simp [adr])) its.toArray).imp' hl fun i v _ h => hg i v h
  | tup a vs => exact (Draws.tuple hh it a (hne a (by simp [adr])) its.toArray).imp' hl fun i v _ h => hg i v h
  | str x t =>
    have D := (Draws.text (prog := prog) (w := w) hh it x t).imp' (m := (SK.str x t).items.length) (by simp [items]) (P' := fun i v => ∃ y, (SK.str x t).items[i]? = some y ∧ RelV y v) fun i v _ h => by
      obtain ⟨c, u, h1, rfl⟩ := h
      refine ⟨.str ⟨#[c]⟩, ?_, u, rfl⟩
      simp only [items, List.getElem?_map, Array.getElem?_toList, h1]; rfl
    exact ⟨fun i h st => D.live i h st.1, fun i h h' st q => ⟨D.frame i h h' st.1 q, trivial⟩, fun i s Q E hi st hQ => D.item i s Q E hi st.1 fun x h' tk hp q => hQ x h' tk hp ⟨q, trivial⟩, fun s Q E st hE => D.done s Q E st.1 hE⟩
end SK

/-! ### enumerate -/
def IteK (K : PySem.W.Frag) (k : SK) : It :=
  ⟨fun i H => k.here K H ∧ i < k.items.length, fun i H v H' => ∃ T x, v = .ref T ∧ H T = none ∧ H' = upd H T (.tup [.int (i : Nat), x]) ∧ k.items[i]? = some x, fun i H => k.here K H ∧ k.items.length ≤ i⟩
theorem turn_enK {P : Program} {w : World} {K : PySem.W.Frag} {elts : List Expr} {kk : Nat} {tpos : Pos} (k : SK) (e it : Addr) (hne : e ≠ it) (ha : e ∉ k.adr) (hi : ∀ a ∈ k.adr, a ≠ it) :
    Turn P w K (.Tuple elts kk tpos) (IteK K k) [e, it] e (fun i h => (∃ old, IsEnum h e it ((i : Nat) : Int) old) ∧ k.st it i h ∧ i ≤ k.items.length) where
  mem := by simp
  obj := fun i h st b hb => by
    obtain ⟨⟨old, he⟩, hs, _⟩ := st
    have e' : b = e ∨ b = it := by simpa using hb
    rcases e' with z | z
    · rw [z]; exact ⟨_, he, fun v q => nomatch q⟩
    · rw [z]; exact SK.st_ob hs
  keep := fun i h h' st kp => let ⟨⟨old, he⟩, hs, hle⟩ := st; ⟨⟨old, kp e (by simp) _ he⟩, SK.st_at hs fun o q => kp it (by simp) o q, hle⟩
  item := by
    intro X hP hw hK hc i pins s σ H E I hf st hg
    subst hP hw hK
    obtain ⟨⟨old, he⟩, hs, hle⟩ := st
    obtain ⟨hk, hlt⟩ := hg
    obtain ⟨its, rv, hsrc⟩ := SK.of_inv I k hk
    have D := SK.draws (prog := X.prog) (w := X.w) (A := X.A.in1) (I.ok.hd hc) k rv it hi
    have hel : e < s.heap.objs.size := Heap.lt_size he
    have hil : it < s.heap.objs.size := by obtain ⟨o, q, _⟩ := SK.st_ob hs; exact Heap.lt_size q
    refine wpAny_pyNext_enum_itemC D he ⟨hs, hsrc⟩ hlt hne (fun z => (List.mem_cons.mp z).elim hne ha) fun x h' tk hx ho hs' hT hsz hkp => ?_
    obtain ⟨xv, hxv, rx⟩ := hx
    refine ⟨_, rfl, wpAny_letOwnedTupleGo_enum (s := { s with heap := h', toks := tk + 1 }) ho fun h'' he' sb => ?_⟩
    have hT2 : h''.get? s.heap.objs.size = some { cls := .type "tuple", data := .seq #[.int i tk, x] } := (sb.2 _ (Nat.ne_of_gt hel)).trans hT
    have new : ObjOk X.prog X.w (upd H s.heap.objs.size (.tup [.int (i : Nat), xv])) h'' s.heap.objs.size (.tup [.int (i : Nat), xv]) :=
      ⟨by show 2 ≤ sizeLine; decide, [.int i tk, x], .cons ⟨_, rfl⟩ (.cons rx .nil), ⟨_, hT2, rfl, _, rfl⟩⟩
    have I1 : Inv X pins σ (upd H s.heap.objs.size (.tup [.int (i : Nat), xv])) { s with heap := h'', toks := tk + 1 } :=
      I.turnedNew (ch := [e, it]) (fun b ob hb q => (sb.2 b (fun z => hb (by simp [z]))).trans (hkp b ob (fun z => hb (by simp [z])) (fun z => hb (by simp [z])) q)) hf (Nat.le_refl _) new
    refine ⟨.ref s.heap.objs.size, _, I1, rfl, ⟨_, xv, rfl, I.hok.fresh (Nat.le_refl _), rfl, hxv⟩, ⟨⟨x, ?_⟩, SK.st_at hs'.1 fun o q => (sb.2 it (Ne.symm hne)).trans q, hlt⟩, fun b hb => ?_⟩
    · have e1 : ((i + 1 : Nat) : Int) = (i : Int) + 1 := by omega
      rw [e1]; exact he'
    · have hb' : b < s.heap.objs.size := by
        have e' : b = e ∨ b = it := by simpa using hb
        rcases e' with z | z
        · rw [z]; exact hel
        · rw [z]; exact hil
      rw [upd_ne (Nat.ne_of_lt hb')]
      exact (hf b hb).1
  done := by
    intro X hP hw hK hc i pins s σ H E I hf st hg
    subst hP hw hK
    obtain ⟨⟨old, he⟩, hs, hle⟩ := st
    obtain ⟨hk, hge⟩ := hg
    obtain rfl : i = k.items.length := by omega
    obtain ⟨its, rv, hsrc⟩ := SK.of_inv I k hk
    have D := SK.draws (prog := X.prog) (w := X.w) (A := X.A.in1) (I.ok.hd hc) k rv it hi
    obtain ⟨f0, f1, f2, f3, f4, f5⟩ := hf it (by simp)
    exact wpAny_pyNext_enum_endD D he ⟨hs, hsrc⟩ fun h' eb => ⟨rfl, I.turned (t' := s.toks) (fun b o hb q => eb b o hb q) f0 f1 f3 f4 f5⟩
  self := fun A i s Q E st h => let ⟨⟨_, he⟩, _⟩ := st; wpAny_pyIter_enum he h

/-! ### zip -/
def ItzK (K : PySem.W.Frag) (k1 k2 : SK) : It :=
  ⟨fun i H => k1.here K H ∧ k2.here K H ∧ i < k1.items.length ∧ i < k2.items.length, fun i H v H' => ∃ T x y, v = .ref T ∧ H T = none ∧ H' = upd H T (.tup [x, y]) ∧ k1.items[i]? = some x ∧ k2.items[i]? = some y,
    fun i H => k1.here K H ∧ k2.here K H ∧ (k1.items.length ≤ i ∨ k2.items.length ≤ i)⟩
theorem turn_zK {P : Program} {w : World} {K : PySem.W.Frag} {elts : List Expr} {kk : Nat} {tpos : Pos} (k1 k2 : SK) {z TI TO i1 i2 : Addr} (S : ZipSep2 z TI TO i1 i2 (i1 :: k1.adr) (i2 :: k2.adr)) (h1 : ∀ a ∈ k1.adr, a ≠ i1) (h2 : ∀ a ∈ k2.adr, a ≠ i2) :
    Turn P w K (.Tuple elts kk tpos) (ItzK K k1 k2) [z, TI, TO, i1, i2] z (fun i h => IsZip h z TI TO .none ∧ IsTupOf2 h TI (.ref i1) (.ref i2) ∧ (∃ x y, IsTupOf2 h TO x y) ∧ k1.st i1 i h ∧ k2.st i2 i h ∧ i ≤ k1.items.length ∧ i ≤ k2.items.length) where
  mem := by simp
  obj := fun i h st c hc => by
    obtain ⟨hz, hTI, ⟨x, y, hTO⟩, s1, s2, _⟩ := st
    have e' : c = z ∨ c = TI ∨ c = TO ∨ c = i1 ∨ c = i2 := by simpa using hc
    rcases e' with q | q | q | q | q
    · rw [q]; exact ⟨_, hz, fun v q => nomatch q⟩
    · rw [q]; exact ⟨_, hTI, fun v q => nomatch q⟩
    · rw [q]; exact ⟨_, hTO, fun v q => nomatch q⟩
    · rw [q]; exact SK.st_ob s1
    · rw [q]; exact SK.st_ob s2
  keep := fun i h h' st kp => by
    obtain ⟨hz, hTI, ⟨x, y, hTO⟩, s1, s2, g1, g2⟩ := st
    exact ⟨kp z (by simp) _ hz, kp TI (by simp) _ hTI, ⟨x, y, kp TO (by simp) _ hTO⟩, SK.st_at s1 fun o q => kp i1 (by simp) o q, SK.st_at s2 fun o q => kp i2 (by simp) o q, g1, g2⟩
  item := by
    intro X hP hw hK hc i pins s σ H E I hf st hg
    subst hP hw hK
    obtain ⟨hz, hTI, ⟨x0, y0, hTO⟩, s1, s2, g1, g2⟩ := st
    obtain ⟨hk1, hk2, l1, l2⟩ := hg
    obtain ⟨its1, rv1, src1⟩ := SK.of_inv I k1 hk1
    obtain ⟨its2, rv2, src2⟩ := SK.of_inv I k2 hk2
    have D1 := SK.draws (prog := X.prog) (w := X.w) (A := X.A.in1) (I.ok.hd hc) k1 rv1 i1 h1
    have D2 := SK.draws (prog := X.prog) (w := X.w) (A := X.A.in1) (I.ok.hd hc) k2 rv2 i2 h2
    have hzl : z < s.heap.objs.size := Heap.lt_size hz
    refine wpAny_pyNext_zipD2_item S D1 D2 hz hTI hTO ⟨s1, src1⟩ ⟨s2, src2⟩ l1 l2 fun u1 u2 h' tk p1 p2 z' TO' st1 st2 hT hsz hkp => ?_
    obtain ⟨x, hx, rx⟩ := p1
    obtain ⟨y, hy, ry⟩ := p2
    refine ⟨_, rfl, wpAny_letOwnedTupleGo_zip (s := { s with heap := h', toks := tk }) z' fun h'' z'' sb => ?_⟩
    have hT2 : h''.get? s.heap.objs.size = some { cls := .type "tuple", data := .seq #[u1, u2] } := (sb.2 _ (Nat.ne_of_gt hzl)).trans hT
    have new : ObjOk X.prog X.w (upd H s.heap.objs.size (.tup [x, y])) h'' s.heap.objs.size (.tup [x, y]) :=
      ⟨by show 2 ≤ sizeLine; decide, [u1, u2], .cons rx (.cons ry .nil), ⟨_, hT2, rfl, _, rfl⟩⟩
    have I1 : Inv X pins σ (upd H s.heap.objs.size (.tup [x, y])) { s with heap := h'', toks := tk } :=
      I.turnedNew (ch := [z, TI, TO, i1, i2]) (fun c o hb q => (sb.2 c (fun q' => hb (by simp [q']))).trans (hkp c o (fun q' => hb (by simp [q'])) (fun q' => hb (by simp [q'])) (fun q' => hb (by simp [q'])) (fun q' => hb (by simp [q'])) q)) hf (Nat.le_refl _) new
    refine ⟨.ref s.heap.objs.size, _, I1, rfl, ⟨_, x, y, rfl, I.hok.fresh (Nat.le_refl _), rfl, hx, hy⟩, ⟨z'', ?_, ⟨u1, u2, (sb.2 _ S.TOz).trans TO'⟩, SK.st_at st1.1 fun o q => (sb.2 _ (Ne.symm S.zi1)).trans q, SK.st_at st2.1 fun o q => (sb.2 _ (Ne.symm S.zi2)).trans q, l1, l2⟩, fun c hcm => ?_⟩
    · exact (sb.2 _ S.TIz).trans (hkp _ _ S.TIz S.TITO S.TIi1 S.TIi2 hTI)
    · have hlt : c < s.heap.objs.size := by
        have e' : c = z ∨ c = TI ∨ c = TO ∨ c = i1 ∨ c = i2 := by simpa using hcm
        rcases e' with q | q | q | q | q
        · rw [q]; exact hzl
        · rw [q]; exact Heap.lt_size hTI
        · rw [q]; exact Heap.lt_size hTO
        · rw [q]; obtain ⟨_, e1, _⟩ := SK.st_ob s1; exact Heap.lt_size e1
        · rw [q]; obtain ⟨_, e2, _⟩ := SK.st_ob s2; exact Heap.lt_size e2
      rw [upd_ne (Nat.ne_of_lt hlt)]
      exact (hf c hcm).1
  done := by
    intro X hP hw hK hc i pins s σ H E I hf st hg
    subst hP hw hK
    obtain ⟨hz, hTI, ⟨x0, y0, hTO⟩, s1, s2, l1, l2⟩ := st
    obtain ⟨hk1, hk2, l3⟩ := hg
    obtain ⟨its1, rv1, src1⟩ := SK.of_inv I k1 hk1
    obtain ⟨its2, rv2, src2⟩ := SK.of_inv I k2 hk2
    have D1 := SK.draws (prog := X.prog) (w := X.w) (A := X.A.in1) (I.ok.hd hc) k1 rv1 i1 h1
    have D2 := SK.draws (prog := X.prog) (w := X.w) (A := X.A.in1) (I.ok.hd hc) k2 rv2 i2 h2
    exact wpAny_pyNext_zipD2_end S D1 D2 hz hTI hTO ⟨s1, src1⟩ ⟨s2, src2⟩ l1 l2 (by omega) fun h' tk hkp => ⟨rfl, I.turnedL (t' := tk) (ch := [z, TI, TO, i1, i2]) (fun c o hb q =>
      hkp c o (fun q' => hb (by simp [q'])) (fun q' => hb (by simp [q'])) (fun q' => hb (by simp [q'])) (fun q' => hb (by simp [q'])) q) hf⟩
  self := fun A i s Q E st h => wpAny_pyIter_zip st.1 h
end Sh

/-! list(zip(a, b)) -/
namespace Sh
open PySem PySem.Spec PyProof.Rows L2

theorem nolen_zip : typeLookup (.type "zip") "__len__" = pure none := by rw [typeLookup_type, builtinLookup_eq_fast]; kernel_rfl
theorem nohint_zip : typeLookup (.type "zip") "__length_hint__" = pure none := by rw [typeLookup_type, builtinLookup_eq_fast]; kernel_rfl
section
variable {prog : Program} {w : World} {A : Around} {E : Value → Shared → Prop} {s : Shared} {z TI TO i1 i2 : Addr} {fp1 fp2 : List Addr} {N n1 n2 : Nat} {P1 P2 : Nat → Value → Prop} {St1 St2 : Nat → Heap → Prop}
/-- the zip as it stands ahead of its i-th turn -/
structure ZS (N : Nat) (z TI TO i1 i2 S : Addr) (St1 St2 : Nat → Heap → Prop) (i : Nat) (h : Heap) : Prop where
  hold : IsZip h z TI TO .none ∨ ∃ T f oT, IsZipHeld h z TI TO T f ∧ h.get? T = some oT ∧ T ≠ S ∧ T ≠ z ∧ T ≠ i1 ∧ T ≠ i2
  ti : IsTupOf2 h TI (.ref i1) (.ref i2)
  to : ∃ a1 a2, IsTupOf2 h TO a1 a2
  s1 : St1 i h
  s2 : St2 i h
  sz : N ≤ h.objs.size
/-- the items so far are pairs -/
def ZA (N : Nat) (P1 P2 : Nat → Value → Prop) (bad : List Addr) (n : Nat) (acc : Array Value) (h : Heap) : Prop := acc.size = n ∧ ∀ j v, acc[j]? = some v → ∃ T x y, v = .ref T ∧ IsTupOf2 h T x y ∧ P1 j x ∧ P2 j y ∧ T ∉ bad ∧ N ≤ T
theorem ZA.keep {bad : List Addr} {n : Nat} {acc : Array Value} {h h' : Heap} (a : ZA N P1 P2 bad n acc h) (k : ∀ b o, b ∉ bad → h.get? b = some o → h'.get? b = some o) : ZA N P1 P2 bad n acc h' :=
  ⟨a.1, fun j v hv => by
    obtain ⟨T, x, y, e, hT, h1, h2, hb, hN⟩ := a.2 j v hv
    exact ⟨T, x, y, e, k T _ hb hT, h1, h2, hb, hN⟩⟩
theorem ZA.push {bad : List Addr} {n : Nat} {acc : Array Value} {h : Heap} {T : Addr} {x y : Value} (a : ZA N P1 P2 bad n acc h) (hT : IsTupOf2 h T x y) (h1 : P1 n x) (h2 : P2 n y) (hb : T ∉ bad) (hN : N ≤ T) : ZA N P1 P2 bad (n + 1) (acc.push (.ref T)) h :=
  ⟨by rw [Array.size_push, a.1], fun j v hv => by
    rw [Array.getElem?_push] at hv
    split at hv
    · rename_i hj
      cases hv
      have : j = n := hj.trans a.1
      subst this
      exact ⟨T, x, y, rfl, hT, h1, h2, hb, hN⟩
    · exact a.2 j v hv⟩
theorem zip_loop {R : Result → Shared → Prop} {S : Addr} (SS : ZipSep2 z TI TO i1 i2 fp1 fp2) (D1 : Draws prog w A.in1.in1 i1 fp1 n1 P1 St1) (D2 : Draws prog w A.in1.in1 i2 fp2 n2 P2 St2) (hn : min n1 n2 ≤ sizeLine) (hS1 : S ∉ fp1) (hS2 : S ∉ fp2) (hSz : S ≠ z) (hSI : S ≠ TI) (hSO : S ≠ TO) (res : Value) :
    ∀ (k i : Nat) (s : Shared) (acc : Array Value) (c : Nat), min n1 n2 - i = k → i ≤ min n1 n2 → ZS N z TI TO i1 i2 S St1 St2 i s.heap → s.heap.get? S = some { cls := .type "list", dict := none, data := .seq acc c, slots := #[] } → ZA N P1 P2 [S, z, TO, i1, i2] i acc s.heap →
    (∀ h' tk acc' c', (∀ b o, b ∉ [S, z, TO, i1, i2] → s.heap.get? b = some o → h'.get? b = some o) → h'.get? S = some { cls := .type "list", dict := none, data := .seq acc' c', slots := #[] } → ZA N P1 P2 [S, z, TO, i1, i2] (min n1 n2) acc' h' → R (.ok (.ret res)) { s with heap := h', toks := tk }) →
    codeAny (model prog w) A (.builtin "list.extend.loop" ⟨[.ref S, .ref z, res], []⟩) R s := by
  have hS_1 : S ≠ i1 := fun e => hS1 (e ▸ SS.mem1)
  have hS_2 : S ≠ i2 := fun e => hS2 (e ▸ SS.mem2)
  intro k
  induction k with
  | zero =>
    intro i s acc c hk hi hst hS hacc hR
    have hin : i = min n1 n2 := by omega
    refine codeAny_builtin F.entry_extend_loop ?_
    rw [Around.under_plainId F.plain_extend_loop _]
    show wpAny _ A.in1 (pyNext (.ref z) >>= _) _ _ s
    refine wpAny_bind ?_
    have fin : ∀ (h' : Heap) (tk : Nat), (∀ b o, b ≠ z → b ≠ TO → b ≠ i1 → b ≠ i2 → s.heap.get? b = some o → h'.get? b = some o) → R (.ok (.ret res)) { s with heap := h', toks := tk } := fun h' tk kp => by
      have kp' : ∀ b o, b ∉ [S, z, TO, i1, i2] → s.heap.get? b = some o → h'.get? b = some o := fun b o hb e => by
        simp only [List.mem_cons, List.not_mem_nil, or_false, not_or] at hb
        exact kp b o hb.2.1 hb.2.2.1 hb.2.2.2.1 hb.2.2.2.2 e
      refine hR h' tk acc c kp' (kp S _ hSz hSO hS_1 hS_2 hS) ?_
      rw [hin] at hacc
      exact hacc.keep kp'
    obtain ⟨a1, a2, hTO⟩ := hst.to
    rcases hst.hold with hz | ⟨T, f, oT, hz, hT, t0, t1, t2, t3⟩
    · exact wpAny_pyNext_zipD2_end SS D1 D2 hz hst.ti hTO hst.s1 hst.s2 (by omega) (by omega) (by omega) fun h' tk kp => wpAny_pure (fin h' tk kp)
    · exact zh_done SS D1 D2 hz hT hst.ti hst.s1 hst.s2 (by omega) (by omega) (by omega) fun h' tk kp => wpAny_pure (fin h' tk fun b o b0 _ b1 b2 e => kp b o b0 b1 b2 e)
  | succ k ih =>
    intro i s acc c hk hi hst hS hacc hR
    have l1 : i < n1 := by omega
    have l2 : i < n2 := by omega
    refine codeAny_builtin F.entry_extend_loop ?_
    rw [Around.under_plainId F.plain_extend_loop _]
    show wpAny _ A.in1 (pyNext (.ref z) >>= _) _ _ s
    refine wpAny_bind ?_
    have lt : ∀ {b o}, s.heap.get? b = some o → s.heap.objs.size ≠ b := fun e => Nat.ne_of_gt (Heap.lt_size e)
    obtain ⟨a1, a2, hTO⟩ := hst.to
    have ni1 : s.heap.objs.size ≠ i1 := by obtain ⟨_, e⟩ := D1.live _ _ hst.s1; exact lt e
    have ni2 : s.heap.objs.size ≠ i2 := by obtain ⟨_, e⟩ := D2.live _ _ hst.s2; exact lt e
    have nz : s.heap.objs.size ≠ z := by
      rcases hst.hold with hz | ⟨T, f, oT, hz, _⟩
      · exact lt hz
      · exact lt hz
    have nS := lt hS
    have nO := lt hTO
    have go : ∀ (x1 x2 : Value) (h' : Heap) (tk : Nat), P1 i x1 → P2 i x2 → (∃ T f oT, IsZipHeld h' z TI TO T f ∧ h'.get? T = some oT ∧ T ≠ S ∧ T ≠ z ∧ T ≠ i1 ∧ T ≠ i2) → (∃ b1 b2, IsTupOf2 h' TO b1 b2) → St1 (i + 1) h' → St2 (i + 1) h' → IsTupOf2 h' s.heap.objs.size x1 x2 → h'.objs.size = s.heap.objs.size + 1 →
        (∀ b o, b ≠ z → b ≠ TO → b ≠ i1 → b ≠ i2 → s.heap.get? b = some o → h'.get? b = some o) →
        wpAny (model prog w) A.in1 (updateSeq S (·.push (.ref s.heap.objs.size)) >>= fun _ => again (.builtin "list.extend.loop" ⟨[.ref S, .ref z, res], []⟩))
          (fun fin s' => match fin with | .done f => R (.ok f) s' | .again c' => c'.quiet = true ∧ codeAny (model prog w) A c' R s') (fun e s' => R (.error e) s') { s with heap := h', toks := tk } := by
      intro x1 x2 h' tk hx1 hx2 hold hto st1 st2 hT hsz kp
      have hS' := kp S _ hSz hSO hS_1 hS_2 hS
      have oth : ∀ b o, b ≠ S → h'.get? b = some o → (h'.update S (Obj.mapSeq (·.push (.ref s.heap.objs.size)))).get? b = some o := fun b o hb e => (Heap.get?_update_other _ _ (Ne.symm hb)).trans e
      have kpb : ∀ b o, b ∉ [S, z, TO, i1, i2] → s.heap.get? b = some o → (h'.update S (Obj.mapSeq (·.push (.ref s.heap.objs.size)))).get? b = some o := fun b o hb e => by
        simp only [List.mem_cons, List.not_mem_nil, or_false, not_or] at hb
        exact oth b o hb.1 (kp b o hb.2.1 hb.2.2.1 hb.2.2.2.1 hb.2.2.2.2 e)
      refine wpAny_bind ?_
      refine wpAny_updateSeq (s := { s with heap := h', toks := tk }) hS' rfl (wpAny_pure ⟨plainId_quiet F.plain_extend_loop _, ih (i + 1) _ (acc.push (.ref s.heap.objs.size)) _ (by omega) (by omega) ⟨?_, ?_, ?_, ?_, ?_, ?_⟩ (Heap.get?_update_self _ hS' rfl) ?_ fun h'' tk' acc' c' kp2 hS2 za => ?_⟩)
        (by rw [hacc.1]; omega) (by show (acc.push (.ref s.heap.objs.size)).size ≤ sizeLine + 1; rw [Array.size_push, hacc.1]; omega)
      · obtain ⟨T, f, oT, q1, q2, q3, q4, q5, q6⟩ := hold
        exact .inr ⟨T, f, oT, oth _ _ (Ne.symm hSz) q1, oth _ _ q3 q2, q3, q4, q5, q6⟩
      · exact oth _ _ (Ne.symm hSI) (kp _ _ SS.TIz SS.TITO SS.TIi1 SS.TIi2 hst.ti)
      · obtain ⟨b1, b2, q⟩ := hto
        exact ⟨b1, b2, oth _ _ (Ne.symm hSO) q⟩
      · exact D1.frame _ _ _ st1 fun b hb o e => oth b o (fun q => hS1 (q ▸ hb)) e
      · exact D2.frame _ _ _ st2 fun b hb o e => oth b o (fun q => hS2 (q ▸ hb)) e
      · have hh := hst.sz
        show N ≤ (h'.update S _).objs.size
        rw [(Heap.SameBut.update ..).1, hsz]; omega
      · refine (hacc.keep kpb).push (oth _ _ nS hT) hx1 hx2 ?_ hst.sz
        simp only [List.mem_cons, List.not_mem_nil, or_false, not_or]
        exact ⟨nS, nz, nO, ni1, ni2⟩
      · exact hR h'' tk' acc' c' (fun b o hb e => kp2 b o hb (kpb b o hb e)) hS2 za
    rcases hst.hold with hz | ⟨T, f, oT, hz, hT, t0, t1, t2, t3⟩
    · refine wpAny_pyNext_zipD2_item SS D1 D2 hz hst.ti hTO hst.s1 hst.s2 l1 l2 fun x1 x2 h' tk hx1 hx2 z' TO' st1 st2 hT hsz kp => ?_
      exact go x1 x2 h' tk hx1 hx2 ⟨s.heap.objs.size, false, _, z', hT, nS, nz, ni1, ni2⟩ ⟨_, _, TO'⟩ st1 st2 hT hsz kp
    · refine zh_next SS D1 D2 hz hT hst.ti hst.s1 hst.s2 l1 l2 fun x1 x2 h' tk hx1 hx2 z' st1 st2 hT' hsz kp => ?_
      exact go x1 x2 h' tk hx1 hx2 ⟨T, true, oT, z', kp _ _ t1 t2 t3 hT, t0, t1, t2, t3⟩ ⟨a1, a2, kp _ _ SS.TOz SS.Ti1 SS.Ti2 hTO⟩ st1 st2 hT' hsz fun b o b0 _ b1 b2 e => kp b o b0 b1 b2 e
theorem zip_extend {R : Result → Shared → Prop} {S : Addr} {c₀ : Nat} (SS : ZipSep2 z TI TO i1 i2 fp1 fp2) (D1 : Draws prog w A.in1.in1 i1 fp1 n1 P1 St1) (D2 : Draws prog w A.in1.in1 i2 fp2 n2 P2 St2) (hn : min n1 n2 ≤ sizeLine) (hS1 : S ∉ fp1) (hS2 : S ∉ fp2) (hSz : S ≠ z) (hSI : S ≠ TI) (hSO : S ≠ TO) (res : Value) (hN : N ≤ s.heap.objs.size)
    (hz : IsZip s.heap z TI TO .none) (hTI : IsTupOf2 s.heap TI (.ref i1) (.ref i2)) (hTO : ∃ a1 a2, IsTupOf2 s.heap TO a1 a2) (st1 : St1 0 s.heap) (st2 : St2 0 s.heap) (hS : s.heap.get? S = some { cls := .type "list", data := .seq #[] c₀ })
    (hR : ∀ h' tk acc' c', (∀ b o, b ∉ [S, z, TO, i1, i2] → s.heap.get? b = some o → h'.get? b = some o) → h'.get? S = some { cls := .type "list", dict := none, data := .seq acc' c', slots := #[] } → ZA N P1 P2 [S, z, TO, i1, i2] (min n1 n2) acc' h' → R (.ok (.ret res)) { s with heap := h', toks := tk }) :
    wpAny (model prog w) A.in1 (Builtin.List.listExtendWith (.ref S) (.ref z) res)
      (fun fin s' => match fin with | .done f => R (.ok f) s' | .again c' => c'.quiet = true ∧ codeAny (model prog w) A c' R s') (fun e s' => R (.error e) s') s := by
  have hTy : s.TypeIs (.ref z) "zip" := ⟨_, hz, rfl⟩
  unfold Builtin.List.listExtendWith
  refine wpAny_bind (wpAny_typeOf hTy ?_)
  have h1 : Builtin.List.listSameRef (.ref S) (.ref z) = false := by simp [Builtin.List.listSameRef, hSz]
  have h2 : (Value.type "zip" == Value.type "list") = false := by decide
  have h3 : (Value.type "zip" == Value.type "tuple") = false := by decide
  simp only [h1, h2, h3, Bool.or_false, Bool.false_eq_true, if_false]
  refine wpAny_bind (wpAny_pyIter_zip hz ?_)
  refine wpAny_bind (wpAny_holding ?_)
  unfold Builtin.List.listLengthHint
  refine wpAny_bind (wpAny_specialOf hTy nolen_zip ?_)
  show wpAny _ A.in1 (specialOf (Value.ref z) (Str.ofString "__length_hint__") >>= _) _ _ _
  refine wpAny_bind (wpAny_specialOf hTy nohint_zip (wpAny_pure ?_))
  show wpAny _ A.in1 (rule "list.extend.makes-room" >>= fun _ => Builtin.List.listTouch (.ref S) >>= fun _ => again (.builtin "list.extend.loop" ⟨[.ref S, .ref z, res], []⟩)) _ _ _
  refine wpAny_bind (wpAny_rule (wpAny_bind ?_))
  show wpAny _ A.in1 (updateSeq S (·.push .none) >>= fun _ => updateSeq S (·.pop)) _ _ _
  refine wpAny_bind (wpAny_updateSeq hS rfl ?_)
  have hS₂ := Heap.get?_update_self (Obj.mapSeq (·.push Value.none)) hS rfl
  refine wpAny_updateSeq (hz := by seq_fits) hS₂ rfl ?_
  have hS₃ := Heap.get?_update_self (Obj.mapSeq (·.pop)) hS₂ rfl
  have oth : ∀ b o, b ≠ S → s.heap.get? b = some o → ((s.heap.update S (Obj.mapSeq (·.push Value.none))).update S (Obj.mapSeq (·.pop))).get? b = some o :=
    fun b o hb e => (Heap.get?_update_other _ _ (Ne.symm hb)).trans ((Heap.get?_update_other _ _ (Ne.symm hb)).trans e)
  obtain ⟨a1, a2, hTO⟩ := hTO
  refine wpAny_pure ⟨plainId_quiet F.plain_extend_loop _, zip_loop SS D1 D2 hn hS1 hS2 hSz hSI hSO res _ 0 _ _ _ rfl (Nat.zero_le _) ⟨.inl (oth _ _ (Ne.symm hSz) hz), oth _ _ (Ne.symm hSI) hTI, ⟨a1, a2, oth _ _ (Ne.symm hSO) hTO⟩, D1.frame _ _ _ st1 fun b hb o e => oth b o (fun q => hS1 (q ▸ hb)) e, D2.frame _ _ _ st2 fun b hb o e => oth b o (fun q => hS2 (q ▸ hb)) e, by
    show N ≤ ((s.heap.update S _).update S _).objs.size
    rw [(Heap.SameBut.update ..).1, (Heap.SameBut.update ..).1]; exact hN⟩ hS₃ ⟨rfl, fun j v hv => by simp at hv⟩ fun h' tk acc' c' kp hS' za => ?_⟩
  exact hR h' tk acc' c' (fun b o hb e => kp b o hb (oth b o (fun q => hb (by simp [q])) e)) hS' za
theorem call_list_zip {Q : Value → Shared → Prop} (SS : ZipSep2 z TI TO i1 i2 fp1 fp2) (D1 : Draws prog w A.in1.in1.in1 i1 fp1 n1 P1 St1) (D2 : Draws prog w A.in1.in1.in1 i2 fp2 n2 P2 St2) (hn : min n1 n2 ≤ sizeLine) (hN : N ≤ s.heap.objs.size) (hf1 : ∀ b ∈ fp1, b < s.heap.objs.size) (hf2 : ∀ b ∈ fp2, b < s.heap.objs.size)
    (hz : IsZip s.heap z TI TO .none) (hTI : IsTupOf2 s.heap TI (.ref i1) (.ref i2)) (hTO : ∃ a1 a2, IsTupOf2 s.heap TO a1 a2) (st1 : St1 0 s.heap) (st2 : St2 0 s.heap)
    (hQ : ∀ h' tk acc' c', (∀ b o, b ∉ [z, TO, i1, i2] → s.heap.get? b = some o → h'.get? b = some o) → h'.get? s.heap.objs.size = some { cls := .type "list", dict := none, data := .seq acc' c', slots := #[] } → ZA N P1 P2 [s.heap.objs.size, z, TO, i1, i2] (min n1 n2) acc' h' → Q (.ref s.heap.objs.size) { s with heap := h', toks := tk }) :
    wpAny (model prog w) A (call (.type "list") [.ref z]) Q E s := by
  refine callType_codes (Q₁ := fun obj s₁ => obj = .ref s.heap.objs.size ∧ s₁ = { s with heap := s.heap.push { cls := .type "list", data := .seq #[] } }) F.called_list (F.typeCall_list_1 _) F.entry_list_init (code_list_new _ ⟨rfl, rfl⟩) fun obj s₁ h₁ => ?_
  obtain ⟨rfl, rfl⟩ := h₁
  have hS : (s.heap.push { cls := .type "list", data := .seq #[] }).get? s.heap.objs.size = some { cls := .type "list", data := .seq #[] } := Heap.get?_push_size _ rfl
  have lt : ∀ {b o}, s.heap.get? b = some o → s.heap.objs.size ≠ b := fun e => Nat.ne_of_gt (Heap.lt_size e)
  obtain ⟨a1, a2, hTO⟩ := hTO
  have hS1 : s.heap.objs.size ∉ fp1 := fun q => Nat.lt_irrefl _ (hf1 _ q)
  have hS2 : s.heap.objs.size ∉ fp2 := fun q => Nat.lt_irrefl _ (hf2 _ q)
  refine ⟨⟨_, hS, rfl⟩, F.args_list_init_2 _ _, ?_⟩
  show wpAny _ _ (do let old ← Builtin.List.listItems (.ref s.heap.objs.size); Builtin.List.listUpdate (.ref s.heap.objs.size) (fun _ => #[]); letGo old.toList.reverse; Builtin.List.listExtendWith (.ref s.heap.objs.size) (.ref z) .none) _ _ _
  refine wpAny_bind ?_
  unfold Builtin.List.listItems
  refine wpAny_bind (wpAny_seqItems hS rfl (wpAny_pure ?_))
  show wpAny _ _ (updateSeq s.heap.objs.size (fun _ => #[]) >>= fun _ => letGo (#[] : Array Value).toList.reverse >>= fun _ => Builtin.List.listExtendWith (.ref s.heap.objs.size) (.ref z) .none) _ _ _
  refine wpAny_bind (wpAny_updateSeq hS rfl ?_)
  have hS₂ := Heap.get?_update_self (Obj.mapSeq (fun _ => (#[] : Array Value))) hS rfl
  have oth : ∀ b o, s.heap.get? b = some o → ((s.heap.push { cls := .type "list", data := .seq #[] }).update s.heap.objs.size (Obj.mapSeq (fun _ => (#[] : Array Value)))).get? b = some o :=
    fun b o e => (Heap.get?_update_other _ _ (lt e)).trans (Heap.get?_push_of_some _ e)
  refine wpAny_bind (wpAny_letGo ?_)
  refine zip_extend (A := A.in1) (s := { s with heap := (s.heap.push { cls := .type "list", data := .seq #[] }).update s.heap.objs.size (Obj.mapSeq (fun _ => (#[] : Array Value))) }) SS D1 D2 hn hS1 hS2 (lt hz) (lt hTI) (lt hTO) .none (N := N) (by
    show N ≤ ((s.heap.push _).update _ _).objs.size
    rw [(Heap.SameBut.update ..).1, Heap.size_push]; omega) (oth _ _ hz) (oth _ _ hTI) ⟨a1, a2, oth _ _ hTO⟩ (D1.frame _ _ _ st1 fun b hb o e => oth b o e) (D2.frame _ _ _ st2 fun b hb o e => oth b o e) hS₂ fun h' tk acc' c' kp hS' za => ?_
  exact ⟨rfl, hQ h' tk acc' c' (fun b o hb e => kp b o (fun q => by
    rcases List.mem_cons.mp q with q | q
    · exact lt e q.symm
    · exact hb q) (oth b o e)) hS' za⟩
end
end Sh

/-! enumerate, zip and list(zip) by data -/
namespace Sh
open PySem PySem.Spec PyProof.Rows L2

section
variable {X : Cx} {x y z tg : Expr} {pos : Pos} {cf : Cf} {Φ : Nat → FSpec} {G : Nat → D} {sc : Scope} {k : Nat}
theorem enumL_get : ∀ {ds : List D} {n i : Nat}, (enumL n ds)[i]? = ds[i]?.map fun d => D.tup [.int (n + i : Nat), d]
  | [], n, i => by simp [enumL]
  | d :: ds, n, 0 => by simp [enumL]
  | d :: ds, n, i + 1 => by
    have h := enumL_get (ds := ds) (n := n + 1) (i := i)
    have e : n + 1 + i = n + (i + 1) := by omega
    rw [e] at h
    show (enumL (n + 1) ds)[i]? = ds[i]?.map _
    exact h
theorem enumL_len : ∀ (ds : List D) (n : Nat), (enumL n ds).length = ds.length
  | [], _ => rfl
  | d :: ds, n => by simp [enumL, enumL_len ds]
theorem zipL_get : ∀ {xs ys : List D} {i : Nat} {d : D}, (zipL xs ys)[i]? = some d → ∃ x y, xs[i]? = some x ∧ ys[i]? = some y ∧ d = .tup [x, y]
  | [], _, i, d, h => by simp [zipL] at h
  | _ :: _, [], i, d, h => by simp [zipL] at h
  | x :: xs, y :: ys, 0, d, h => by simp [zipL] at h; exact ⟨x, y, rfl, rfl, h.symm⟩
  | x :: xs, y :: ys, i + 1, d, h => by
    simp only [zipL, List.getElem?_cons_succ] at h
    obtain ⟨a, b, h1, h2, h3⟩ := zipL_get h
    exact ⟨a, b, by simpa using h1, by simpa using h2, h3⟩
theorem zipL_len : ∀ (xs ys : List D), (zipL xs ys).length = min xs.length ys.length
  | [], ys => by simp [zipL]
  | _ :: _, [] => by simp [zipL]
  | x :: xs, y :: ys => by simp [zipL, zipL_len xs ys]
/-- the source that plain data is -/
theorem sk_of {H : Hp} {d : D} {v : V} {u : Value} {ds : List D} (r : Rep X.KK H d v) (ru : RelV v u) (e : seqD d = some ds) : ∃ k : SK, k.u = u ∧ (∀ H', Fx H H' → k.here X.K H' ∧ RepL X.KK H' ds k.items) ∧ (k.adr = [] → k.items.length ≤ sizeLine) := by
  cases r <;> simp only [seqD, Option.some.injEq, reduceCtorEq] at e
  · rename_i cs ho
    split at e
    · rename_i hlen
      cases e
      obtain ⟨t, rfl⟩ := ru
      refine ⟨.str ⟨cs.toArray⟩ t, rfl, fun H' _ => ⟨trivial, ?_⟩, fun _ => ?_⟩
      rotate_left
      · rw [← line_eq]; simpa [SK.items] using hlen
      show RepL X.KK H' (cs.map fun c => .str [c]) (cs.toArray.toList.map fun c => V.str ⟨#[c]⟩)
      have key : ∀ l : List Nat, okCp l = true → RepL X.KK H' (l.map fun c => .str [c]) (l.map fun c => V.str ⟨#[c]⟩) := by
        intro l
        induction l with
        | nil => intro _; exact .nil
        | cons c l ih =>
          intro h
          unfold okCp at h ih
          simp only [List.all_cons, Bool.and_eq_true] at h
          exact .cons (.str [c] (by unfold okCp; simp only [List.all_cons, List.all_nil, Bool.and_true]; exact h.1)) (ih h.2)
      exact key cs ho
    · cases e
  · rename_i a vs xs hq r
    subst e
    obtain rfl : u = .ref a := ru
    exact ⟨.tup a vs, rfl, fun H' fx => ⟨sqt_ext fx hq, r.ext fx⟩, fun z => by simp [SK.adr] at z⟩
  · rename_i a vs xs hq r
    subst e
    obtain rfl : u = .ref a := ru
    exact ⟨.lst a vs, rfl, fun H' fx => ⟨(sqf_ext fx hq).sql, r.ext fx⟩, fun z => by simp [SK.adr] at z⟩
theorem sk_len {pins : List (Addr × Obj)} {σ : L2.St} {H : Hp} {s : Shared} {k : SK} (I : Inv X pins σ H s) (hk : k.here X.K H) (h : k.adr = [] → k.items.length ≤ sizeLine) : k.items.length ≤ sizeLine := by
  cases k with
  | lst a vs => obtain ⟨_, _, _, z⟩ := I.list hk; exact z
  | tup a vs => obtain ⟨_, _, _, z⟩ := I.tuple hk; exact z
  | str x t => exact h rfl
theorem wk_enK {H : Hp} {k : SK} {ds : List D} (h : ∀ H', Fx H H' → k.here X.K H' ∧ RepL X.KK H' ds k.items) : WkOk X.KK (IteK X.K k) (enumL 0 ds) H := fun H' fx i => by
  obtain ⟨h1, r⟩ := h H' fx
  have hl := r.length
  refine ⟨fun d hd => ?_, fun hi => ⟨h1, by rw [enumL_len] at hi; omega⟩⟩
  rw [enumL_get] at hd
  simp only [Option.map_eq_some_iff] at hd
  obtain ⟨d0, h2, rfl⟩ := hd
  have hlt := (List.getElem?_eq_some_iff.mp h2).1
  refine ⟨⟨h1, by omega⟩, fun x H2 hy => ?_⟩
  obtain ⟨T, y, rfl, hT, rfl, hy⟩ := hy
  obtain ⟨v, h3, h4⟩ := r.get h2
  rw [h3] at hy; cases hy
  refine ⟨same_upd hT, .tup (.inl (.inl upd_same)) (.cons ?_ (.cons (h4.ext (.of_same (same_upd hT))) .nil))⟩
  rw [Nat.zero_add]; exact .int _
theorem wk_zK {H : Hp} {k1 k2 : SK} {xs ys : List D} (h1 : ∀ H', Fx H H' → k1.here X.K H' ∧ RepL X.KK H' xs k1.items) (h2 : ∀ H', Fx H H' → k2.here X.K H' ∧ RepL X.KK H' ys k2.items) : WkOk X.KK (ItzK X.K k1 k2) (zipL xs ys) H := fun H' fx i => by
  obtain ⟨g1, r1⟩ := h1 H' fx
  obtain ⟨g2, r2⟩ := h2 H' fx
  have l1 := r1.length
  have l2 := r2.length
  refine ⟨fun d hd => ?_, fun hi => ⟨g1, g2, by rw [zipL_len] at hi; omega⟩⟩
  obtain ⟨x, y, hx, hy, rfl⟩ := zipL_get hd
  have lx := (List.getElem?_eq_some_iff.mp hx).1
  have ly := (List.getElem?_eq_some_iff.mp hy).1
  refine ⟨⟨g1, g2, by omega, by omega⟩, fun v H2 hv => ?_⟩
  obtain ⟨T, a, b, rfl, hT, rfl, ha, hb⟩ := hv
  obtain ⟨v1, q1, q2⟩ := r1.get hx
  obtain ⟨v2, q3, q4⟩ := r2.get hy
  rw [q1] at ha; cases ha
  rw [q3] at hb; cases hb
  exact ⟨same_upd hT, .tup (.inl (.inl upd_same)) (.cons (q2.ext (.of_same (same_upd hT))) (.cons (q4.ext (.of_same (same_upd hT))) .nil))⟩
theorem pi_enD (ok : XOk cf Φ G sc k X) {a : E} {p : Pos} {elts : List Expr} {kk : Nat} {tpos : Pos} (hg : glB sc "enumerate" = true) (ha : Ok1 X x (evE Φ G a)) (hs : notStar x = true) :
    PI X (.Tuple elts kk tpos) (.Call (.Name "enumerate" p) [x] [] pos) (tI X.KK (evE Φ G (.enum a))) := by
  have hm : X.mg "enumerate" = none := ok.blt _ (by decide +kernel)
  refine ⟨fun pins s σ H R I hq => ?_⟩
  obtain ⟨ι, env, h0, d, h', ds, sr, eo, e, ei, q⟩ := hq
  simp only [evE, Option.bind_eq_bind, Option.bind_eq_some_iff, Prod.exists] at e
  obtain ⟨w, h1, e1, e⟩ := e
  split at e
  · rename_i dx
    simp only [Option.map_eq_some_iff, Prod.mk.injEq, W.d.injEq] at e
    obtain ⟨xs, e2, rfl, rfl⟩ := e
    simp only [itemsD, Option.some.injEq] at ei
    subst ei
    have pa := pa_cons ha.pe pa_nil (starEach_cons hs)
    have run := pa.run pos pins s σ H (fun vs H1 => ∃ v ι1, vs = [v] ∧ Stp ι H ι1 H1 ∧ SR X.KK ι1 H1 h1 ∧ Rep X.KK H1 dx v) I ⟨ι, env, h0, _, h1, sr, eo, e1, fun ι1 H1 v p1 s1 r1 => ⟨v, ι1, rfl, p1, s1, r1.pure⟩⟩
    refine Call_ (ld_blt I (ok.gl hg) hm boot_enumerate (PyProof.Rows.callWith_type1 (thn run fun us s1 ⟨vs, H1, I1, rvs, v, ι1, ev, p1, sr1, r1⟩ => ?_) (starEach_cons hs) rfl))
    subst ev
    obtain ⟨u, rfl, ru⟩ := vals1 rvs
    obtain ⟨kk, rfl, hk, _⟩ := sk_of r1 ru e2
    obtain ⟨its, rv, hsrc⟩ := SK.of_inv I1 kk (hk H1 .refl).1
    have hlt := SK.lt hsrc
    refine en1_begins (kk.begins its) hsrc fun hp he hob hsz hkp => wpAny_pyIter_enum he ?_
    have I2 : Inv X pins σ H1 { s1 with heap := hp } := I1.kept (t' := s1.toks) hkp
    refine ⟨s1.heap.objs.size + 1, [s1.heap.objs.size + 1, s1.heap.objs.size], _, _, H1, rfl, I2, turn_enK kk (s1.heap.objs.size + 1) s1.heap.objs.size (Nat.succ_ne_self _) (fun z => by have : s1.heap.objs.size + 1 < s1.heap.objs.size := hlt _ z; omega) (fun b hb => Nat.ne_of_lt (hlt b hb)), ⟨⟨.none, he⟩, kk.st0 hob, Nat.zero_le _⟩, fun b hb => ?_, q ι1 H1 _ p1 sr1 (wk_enK hk)⟩
    have e' : b = s1.heap.objs.size + 1 ∨ b = s1.heap.objs.size := by simpa using hb
    have hle : s1.heap.objs.size ≤ b := by
      rcases e' with z | z
      · rw [z]; exact Nat.le_add_right _ _
      · rw [z]; exact Nat.le_refl _
    exact I1.fpOk hle (I1.hok.fresh hle)
  · cases e
/-- zip(x, y): its five new cells -/
theorem zip_run (ok : XOk cf Φ G sc k X) {a b : E} {p : Pos} {pins : List (Addr × Obj)} {s : Shared} {σ : L2.St} {H : Hp} {ι : List Addr} {env : Env} {h0 h' : DH} {d : D} {Q : Value → Shared → Prop} (hg : glB sc "zip" = true) (ha : Ok1 X x (evE Φ G a)) (hb : Ok1 X y (evE Φ G b)) (hs : notStar x = true) (hs2 : notStar y = true)
    (I : Inv X pins σ H s) (sr : SR X.KK ι H h0) (eo : EnvOk X.KK ι H env σ) (e : evE Φ G (.zip a b) env h0 = some (.d d, h'))
    (hq : ∀ (s1 : Shared) (H1 : Hp) (ι1 : List Addr) (hp : Heap) (xs ys : List D) (k1 k2 : SK) (i1 i2 : List Value), d = .lst (zipL xs ys) → Stp ι H ι1 H1 → SR X.KK ι1 H1 h' → (∀ H', Fx H1 H' → k1.here X.K H' ∧ RepL X.KK H' xs k1.items) → (∀ H', Fx H1 H' → k2.here X.K H' ∧ RepL X.KK H' ys k2.items) →
      Inv X pins σ H1 s1 → k1.items.length ≤ sizeLine → k2.items.length ≤ sizeLine → Vals k1.items i1 → k1.src i1 s1.heap → Vals k2.items i2 → k2.src i2 s1.heap → Inv X pins σ H1 { s1 with heap := hp } →
      IsZip hp (s1.heap.objs.size + 4) (s1.heap.objs.size + 2) (s1.heap.objs.size + 3) .none → IsTupOf2 hp (s1.heap.objs.size + 2) (.ref s1.heap.objs.size) (.ref (s1.heap.objs.size + 1)) → IsTupOf2 hp (s1.heap.objs.size + 3) .none .none →
      k1.st s1.heap.objs.size 0 hp → k2.st (s1.heap.objs.size + 1) 0 hp → hp.objs.size = s1.heap.objs.size + 5 → (∀ c o, s1.heap.get? c = some o → hp.get? c = some o) → Q (.ref (s1.heap.objs.size + 4)) { s1 with heap := hp }) :
    wpAny (model X.prog X.w) X.A (eval (.Call (.Name "zip" p) [x, y] [] pos) X.env) Q X.xe s := by
  have hm : X.mg "zip" = none := ok.blt _ (by decide +kernel)
  simp only [evE, Option.bind_eq_bind, Option.bind_eq_some_iff, Prod.exists] at e
  obtain ⟨w, h1, e1, w2, h2, e2, e⟩ := e
  split at e
  · rename_i dx dy
    simp only [Option.bind_eq_some_iff, Option.some.injEq, Prod.mk.injEq, W.d.injEq] at e
    obtain ⟨xs, e3, ys, e4, rfl, rfl⟩ := e
    have pa := pa_cons ha.pe (pa_cons hb.pe pa_nil (starEach_cons hs2)) (starEach_cons hs)
    have run := pa.run pos pins s σ H (fun vs H1 => ∃ v v2 ι1, vs = [v, v2] ∧ Stp ι H ι1 H1 ∧ SR X.KK ι1 H1 h2 ∧ Rep X.KK H1 dx v ∧ Rep X.KK H1 dy v2) I
      ⟨ι, env, h0, _, h1, sr, eo, e1, fun ι1 H1 v p1 s1 r1 => ⟨ι1, env, h1, _, h2, s1, eo.stp p1, e2, fun ι2 H2 v2 p2 s2 r2 => ⟨v, v2, ι2, rfl, p1.trans p2, s2, (r1.stp p2).pure, r2.pure⟩⟩⟩
    refine Call_ (ld_blt I (ok.gl hg) hm PyProof.Rows.boot_zip (PyProof.Rows.callWith_type1 (thn run fun us s1 ⟨vs, H1, I1, rvs, v, v2, ι1, ev, p1, sr1, r1, r2⟩ => ?_) (starEach_cons hs) (noStar_any (by simp [noStar, hs2]) _)))
    subst ev
    cases rvs with
    | cons ru rt =>
      cases rt with
      | cons ru2 rt =>
        cases rt
        obtain ⟨k1, rfl, hk1, b1⟩ := sk_of r1 ru e3
        obtain ⟨k2, rfl, hk2, b2⟩ := sk_of r2 ru2 e4
        obtain ⟨i1, rv1, src1⟩ := SK.of_inv I1 k1 (hk1 H1 .refl).1
        obtain ⟨i2, rv2, src2⟩ := SK.of_inv I1 k2 (hk2 H1 .refl).1
        refine zip_begins2 (k1.begins i1) (k2.begins i2) src1 src2 fun hp hz hTI hTO ho1 ho2 hsz hkp => ?_
        exact hq s1 H1 ι1 hp xs ys k1 k2 i1 i2 rfl p1 sr1 hk1 hk2 I1 (sk_len I1 (hk1 H1 .refl).1 b1) (sk_len I1 (hk2 H1 .refl).1 b2) rv1 src1 rv2 src2 (I1.kept (t' := s1.toks) hkp) hz hTI hTO (k1.st0 ho1) (k2.st0 ho2) hsz hkp
  · cases e
theorem pi_zD (ok : XOk cf Φ G sc k X) {a b : E} {p : Pos} {elts : List Expr} {kk : Nat} {tpos : Pos} (hg : glB sc "zip" = true) (ha : Ok1 X x (evE Φ G a)) (hb : Ok1 X y (evE Φ G b)) (hs : notStar x = true) (hs2 : notStar y = true) :
    PI X (.Tuple elts kk tpos) (.Call (.Name "zip" p) [x, y] [] pos) (tI X.KK (evE Φ G (.zip a b))) := by
  refine ⟨fun pins s σ H R I hq => ?_⟩
  obtain ⟨ι, env, h0, d, h', ds, sr, eo, e, ei, q⟩ := hq
  refine zip_run ok hg ha hb hs hs2 I sr eo e fun s1 H1 ι1 hp xs ys k1 k2 i1 i2 ed p1 sr1 hk1 hk2 I1 B1 B2 rv1 src1 rv2 src2 I2 hz hTI hTO st1 st2 hsz hkp => wpAny_pyIter_zip hz ?_
  subst ed
  simp only [itemsD, Option.some.injEq] at ei
  subst ei
  have l1 := SK.lt src1
  have l2 := SK.lt src2
  refine ⟨s1.heap.objs.size + 4, [s1.heap.objs.size + 4, s1.heap.objs.size + 2, s1.heap.objs.size + 3, s1.heap.objs.size, s1.heap.objs.size + 1], _, _, H1, rfl, I2, turn_zK k1 k2 (zip_sep2 l1 l2) (fun b hb => Nat.ne_of_lt (l1 b hb)) (fun b hb => Nat.ne_of_lt (Nat.lt_succ_of_lt (l2 b hb))), ⟨hz, hTI, ⟨_, _, hTO⟩, st1, st2, Nat.zero_le _, Nat.zero_le _⟩, fun c hcm => ?_, q ι1 H1 _ p1 sr1 (wk_zK hk1 hk2)⟩
  have e' : c = s1.heap.objs.size + 4 ∨ c = s1.heap.objs.size + 2 ∨ c = s1.heap.objs.size + 3 ∨ c = s1.heap.objs.size ∨ c = s1.heap.objs.size + 1 := by simpa using hcm
  have hle : s1.heap.objs.size ≤ c := by
    rcases e' with z | z | z | z | z <;> rw [z] <;> first | exact Nat.le_refl _ | exact Nat.le_add_right _ _
  exact I1.fpOk hle (I1.hok.fresh hle)
/-! ### list(zip(x, y)) -/
/-- new pairs -/
def HT (l : List (Addr × V × V)) (H : Hp) : Hp := fun b => match l.find? fun t => decide (t.1 = b) with
  | some t => some (.tup [t.2.1, t.2.2])
  | none => H b
theorem HT_old {l : List (Addr × V × V)} {H : Hp} {b : Addr} (h : ∀ t ∈ l, t.1 ≠ b) : HT l H b = H b := by
  unfold HT
  have : (l.find? fun t => decide (t.1 = b)) = none := List.find?_eq_none.mpr fun t ht => by simpa using h t ht
  rw [this]
theorem HT_new {l : List (Addr × V × V)} {H : Hp} {b : Addr} (h : ∃ t ∈ l, t.1 = b) : ∃ t ∈ l, t.1 = b ∧ HT l H b = some (.tup [t.2.1, t.2.2]) := by
  unfold HT
  cases q : l.find? fun t => decide (t.1 = b) with
  | none =>
    obtain ⟨t, ht, e⟩ := h
    have := List.find?_eq_none.mp q t ht
    simp [e] at this
  | some t => exact ⟨t, List.mem_of_find?_eq_some q, by simpa using List.find?_some q, rfl⟩
/-- new pairs in a new list are laid -/
theorem lay_pairs {pins : List (Addr × Obj)} {σ : L2.St} {H : Hp} {s : Shared} {h' : Heap} {t' : Nat} {S : Addr} {l : List (Addr × V × V)} {us : List V} {its : List Value} {n : Nat} (I : Inv X pins σ H s) (kp : ∀ b o, s.heap.get? b = some o → h'.get? b = some o)
    (hS : s.heap.objs.size ≤ S) (hl : ∀ t ∈ l, s.heap.objs.size ≤ t.1 ∧ t.1 ≠ S ∧ ∃ x y, IsTupOf2 h' t.1 x y ∧ RelV t.2.1 x ∧ RelV t.2.2 y) (hz : us.length ≤ sizeLine) (rv : Vals us its) (hL : h'.get? S = some { cls := .type "list", dict := none, data := .seq its.toArray n, slots := #[] }) :
    Inv X pins σ (upd (HT l H) S (.lst us)) { s with heap := h', toks := t' } := by
  have old : ∀ b, b < s.heap.objs.size → upd (HT l H) S (.lst us) b = H b := fun b hb => by
    rw [upd_ne (fun z => by subst z; omega), HT_old fun t ht e => by have q := (hl t ht).1; rw [e] at q; exact absurd q (Nat.not_le.mpr hb)]
  have lt : ∀ {b u}, H b = some u → b < s.heap.objs.size := fun {b u} e => by
    rcases Nat.lt_or_ge b s.heap.objs.size with z | z
    · exact z
    · rw [I.hok.fresh z] at e; cases e
  refine I.un (h' := h') (t' := t') ⟨fun b o e _ _ _ => kp b o e, fun b o e _ _ _ => ⟨o.slots, kp b o e⟩, fun b o e n _ => by rw [old b (Heap.lt_size e)]; exact n, fun b o e _ => ⟨o, kp b o e⟩, fun b xs e => by rw [old b (lt e)]; exact e, fun b o u e => by rw [old b (lt e)]; exact e, fun b ps e => ⟨#[], by rw [old b (lt e), e]; simp⟩⟩ ?_
  intro b v q
  by_cases hb : b = S
  · subst hb
    rw [upd_same] at q; cases q
    exact ⟨hz, its, n, rv, hL⟩
  · rw [upd_ne hb] at q
    by_cases ht : ∃ t ∈ l, t.1 = b
    · obtain ⟨t, h1, h2, h3⟩ := HT_new (H := H) ht
      rw [h3] at q; cases q
      obtain ⟨_, _, x, y, g1, g2, g3⟩ := hl t h1
      subst h2
      exact ⟨by show 2 ≤ sizeLine; decide, [x, y], .cons g2 (.cons g3 .nil), ⟨_, g1, rfl, _, rfl⟩⟩
    · have hn : ∀ t ∈ l, t.1 ≠ b := fun t h e => ht ⟨t, h, e⟩
      rw [HT_old hn] at q
      refine (I.hok b v q).stay (fun c u _ z => kp c u z) (fun c z => ?_) fun c xs z => ?_
      · rw [old c (lt z)]; exact z
      · rw [old c (lt z)]; exact z
theorem s_oflz (ok : XOk cf Φ G sc k X) {a b : E} {p p2 pos2 : Pos} (hg : glB sc "list" = true) (hg2 : glB sc "zip" = true) (ha : Ok1 X x (evE Φ G a)) (hb : Ok1 X y (evE Φ G b)) (hs : notStar x = true) (hs2 : notStar y = true) :
    PE X (.Call (.Name "list" p) [.Call (.Name "zip" p2) [x, y] [] pos2] [] pos) (tR X.KK (evC Φ G (.ofl (.zip a b)))) := by
  have hm : X.mg "list" = none := ok.blt _ (by decide +kernel)
  refine ⟨fun pins s σ H Q I hq => ?_⟩
  obtain ⟨ι, env, h0, ws, h', sr, eo, e, q⟩ := hq
  simp only [evC, Option.bind_eq_bind, Option.bind_eq_some_iff, Prod.exists, Option.some.injEq, Prod.mk.injEq] at e
  obtain ⟨w, h1, e1, d, e2, ds, e3, rfl, rfl⟩ := e
  have hw : w = .d d := by
    have e1' := e1
    simp only [evE, Option.bind_eq_bind, Option.bind_eq_some_iff, Prod.exists] at e1'
    obtain ⟨_, _, _, _, _, _, e1'⟩ := e1'
    split at e1'
    · simp only [Option.bind_eq_some_iff, Option.some.injEq, Prod.mk.injEq] at e1'
      obtain ⟨_, _, _, _, rfl, _⟩ := e1'
      simp only [valD, Option.some.injEq] at e2
      rw [e2]
    · cases e1'
  subst hw
  refine Call_ (ld_blt I (ok.gl hg) hm boot_list (PyProof.Rows.callWith_type1 (PyProof.Rows.args_cons ?_ rfl) rfl rfl))
  refine zip_run ok hg2 ha hb hs hs2 I sr eo e1 fun s1 H1 ι1 hp xs ys k1 k2 i1 i2 ed p1 sr1 hk1 hk2 I1 B1 B2 rv1 src1 rv2 src2 I2 hz hTI hTO st1 st2 hsz hkp => PyProof.Rows.args_nil ?_
  subst ed
  simp only [Option.some.injEq] at e3
  subst e3
  have l1 := SK.lt src1
  have l2 := SK.lt src2
  have r1 := (hk1 H1 .refl).2
  have r2 := (hk2 H1 .refl).2
  have hd0 : X.A.handled = none := I.ok.hd ok.calm
  have D1 := SK.draws (prog := X.prog) (w := X.w) (A := X.A.in1.in1.in1) hd0 k1 rv1 s1.heap.objs.size fun b hb => Nat.ne_of_lt (l1 b hb)
  have D2 := SK.draws (prog := X.prog) (w := X.w) (A := X.A.in1.in1.in1) hd0 k2 rv2 (s1.heap.objs.size + 1) fun b hb => Nat.ne_of_lt (Nat.lt_succ_of_lt (l2 b hb))
  have L : ∀ j, j < 5 → s1.heap.objs.size + j < hp.objs.size := fun j hj => by rw [hsz]; exact Nat.add_lt_add_left hj _
  refine call_list_zip (N := s1.heap.objs.size) (s := { s1 with heap := hp }) (zip_sep2 l1 l2) D1 D2 (by omega) (Nat.le_of_lt (L 0 (by decide))) (fun b hb => ?_) (fun b hb => ?_) hz hTI ⟨_, _, hTO⟩ ⟨st1, (k1.begins i1).keeps _ _ src1 hkp⟩ ⟨st2, (k2.begins i2).keeps _ _ src2 hkp⟩ fun h2 tk acc c kp2 hL za => ?_
  · rcases List.mem_cons.mp hb with rfl | hb
    · exact L 0 (by decide)
    · exact Nat.lt_trans (l1 b hb) (L 0 (by decide))
  · rcases List.mem_cons.mp hb with rfl | hb
    · exact L 1 (by decide)
    · exact Nat.lt_trans (l2 b hb) (L 0 (by decide))
  have kp3 : ∀ b o, s1.heap.get? b = some o → h2.get? b = some o := fun b o e => kp2 b o (fun z => by
    have hb := Heap.lt_size e
    have : ∀ j, b ≠ s1.heap.objs.size + j := fun j q => by rw [q] at hb; exact absurd hb (Nat.not_lt.mpr (Nat.le_add_right _ _))
    simp only [List.mem_cons, List.not_mem_nil, or_false] at z
    rcases z with z | z | z | z
    · exact this 4 z
    · exact this 3 z
    · exact this 0 z
    · exact this 1 z) (hkp b o e)
  -- the pairs, told by their items
  have key : ∀ (vs : List Value) (j : Nat), (∀ m v, vs[m]? = some v → ∃ T a b, v = .ref T ∧ IsTupOf2 h2 T a b ∧ (∃ x, k1.items[j + m]? = some x ∧ RelV x a) ∧ (∃ y, k2.items[j + m]? = some y ∧ RelV y b) ∧ T ∉ [hp.objs.size, s1.heap.objs.size + 4, s1.heap.objs.size + 3, s1.heap.objs.size, s1.heap.objs.size + 1] ∧ s1.heap.objs.size ≤ T) →
      ∃ l : List (Addr × V × V), vs = l.map (fun t => Value.ref t.1) ∧ (∀ t ∈ l, s1.heap.objs.size ≤ t.1 ∧ t.1 ≠ hp.objs.size ∧ ∃ x y, IsTupOf2 h2 t.1 x y ∧ RelV t.2.1 x ∧ RelV t.2.2 y) ∧ ∀ m t, l[m]? = some t → k1.items[j + m]? = some t.2.1 ∧ k2.items[j + m]? = some t.2.2 := by
    intro vs
    induction vs with
    | nil => intro j _; exact ⟨[], rfl, fun t h => by simp at h, fun m t h => by simp at h⟩
    | cons v vs ih =>
      intro j hv
      obtain ⟨l, e1, e2, e3⟩ := ih (j + 1) fun m u hu => by
        have := hv (m + 1) u (by simpa using hu)
        have ej : j + (m + 1) = j + 1 + m := by omega
        rw [ej] at this; exact this
      obtain ⟨T, a, b, rfl, hT, ⟨x, hx, rx⟩, ⟨y, hy, ry⟩, hb, hN⟩ := hv 0 v rfl
      refine ⟨(T, x, y) :: l, by rw [e1]; rfl, fun t ht => ?_, fun m t ht => ?_⟩
      · rcases List.mem_cons.mp ht with rfl | ht
        · exact ⟨hN, fun z => hb (List.mem_cons.mpr (.inl z)), a, b, hT, rx, ry⟩
        · exact e2 t ht
      · cases m with
        | zero => simp at ht; subst ht; exact ⟨hx, hy⟩
        | succ m =>
          have := e3 m t (by simpa using ht)
          have ej : j + (m + 1) = j + 1 + m := by omega
          rw [ej]; exact this
  have hsz2 : acc.toList.length = min k1.items.length k2.items.length := by rw [Array.length_toList]; exact za.1
  obtain ⟨l, e4, e5, e6⟩ := key acc.toList 0 fun m v hv => by
    rw [Nat.zero_add]
    exact za.2 m v (by simpa using hv)
  have hll : l.length = min k1.items.length k2.items.length := by rw [← hsz2, e4, List.length_map]
  have rvl : Vals (l.map fun t => V.ref t.1) acc.toList := by
    rw [e4]
    clear e6 e5 e4 hll
    induction l with
    | nil => exact .nil
    | cons t l ih => exact .cons rfl ih
  have I3 := lay_pairs (t' := tk) (S := hp.objs.size) (n := c) (us := l.map fun t => V.ref t.1) (its := acc.toList) I1 kp3 (Nat.le_of_lt (L 0 (by decide))) e5 (by rw [List.length_map, hll]; omega) rvl (by rw [Array.toArray_toList]; exact hL)
  refine ⟨.ref hp.objs.size, _, I3, rfl, ?_⟩
  have nn : ∀ b, s1.heap.objs.size ≤ b → H1 b = none := fun b hb => I1.hok.fresh hb
  have sm : Same H1 (upd (HT l H1) hp.objs.size (.lst (l.map fun t => V.ref t.1))) := fun b u e => by
    have hb : b < s1.heap.objs.size := by
      rcases Nat.lt_or_ge b s1.heap.objs.size with z | z
      · exact z
      · rw [nn b z] at e; cases e
    rw [upd_ne (fun z => by rw [z] at hb; exact absurd hb (Nat.not_lt.mpr (Nat.le_of_lt (L 0 (by decide))))), HT_old fun t ht e => by have q := (e5 t ht).1; rw [e] at q; exact absurd q (Nat.not_le.mpr hb)]
    exact e
  have h0S : H hp.objs.size = none := by
    cases q : H hp.objs.size with
    | none => rfl
    | some u =>
      have h9 := nn hp.objs.size (Nat.le_of_lt (L 0 (by decide)))
      by_cases hi : hp.objs.size ∈ ι
      · exact absurd h9 (sr1.trk _ (p1.pre.subset hi))
      · rw [p1.ext.oth _ _ hi q] at h9; cases h9
  refine q ι1 _ _ _ ⟨p1.pre, p1.ext.trans (.of_same sm) fun c hc => .inl hc, p1.new⟩ (sr1.same sm) upd_same (sr1.notin (nn _ (Nat.le_of_lt (L 0 (by decide))))) h0S ?_
  refine RepWL.of ?_
  have fx : Fx H1 (upd (HT l H1) hp.objs.size (.lst (l.map fun t => V.ref t.1))) := .of_same sm
  have r1' := r1.ext fx
  have r2' := r2.ext fx
  have hn : ∀ t ∈ l, t.1 ≠ hp.objs.size := fun t ht => (e5 t ht).2.1
  have fin : ∀ (xs ys : List D) (as bs : List V) (l' : List (Addr × V × V)), RepL X.KK (upd (HT l H1) hp.objs.size (.lst (l.map fun t => V.ref t.1))) xs as → RepL X.KK (upd (HT l H1) hp.objs.size (.lst (l.map fun t => V.ref t.1))) ys bs → l'.length = min as.length bs.length → (∀ t ∈ l', t ∈ l) →
      (∀ (m : Nat) (t : Addr × V × V), l'[m]? = some t → as[m]? = some t.2.1 ∧ bs[m]? = some t.2.2) → (∀ t : Addr × V × V, t ∈ l → ∀ t' : Addr × V × V, t' ∈ l → t.1 = t'.1 → t.2 = t'.2) → RepL X.KK (upd (HT l H1) hp.objs.size (.lst (l.map fun t => V.ref t.1))) (zipL xs ys) (l'.map fun t => V.ref t.1) := by
    intro xs
    induction xs with
    | nil =>
      intro ys as bs l' ra rb hl _ _ _
      cases ra
      have : l' = [] := List.eq_nil_of_length_eq_zero (by rw [hl]; simp)
      subst this
      exact .nil
    | cons x xs ih =>
      intro ys as bs l' ra rb hl hin hat hun
      cases ra with
      | cons rx ra =>
        cases rb with
        | nil =>
          have : l' = [] := List.eq_nil_of_length_eq_zero (by rw [hl]; simp)
          subst this
          exact .nil
        | cons ry rb =>
          cases l' with
          | nil => simp at hl
          | cons t l' =>
            obtain ⟨h1, h2⟩ := hat 0 t rfl
            simp only [List.getElem?_cons_zero, Option.some.injEq] at h1 h2
            have ht := hin t (by simp)
            refine .cons ?_ (ih _ _ _ l' ra rb (by simp only [List.length_cons] at hl; omega) (fun u hu => hin u (by simp [hu])) (fun m u hu => by
              have := hat (m + 1) u (by simpa using hu)
              simpa using this) hun)
            obtain ⟨t', g1, g2, g3⟩ := HT_new (H := H1) (b := t.1) ⟨t, ht, rfl⟩
            have e9 := hun t' g1 t ht g2
            refine .tup (.inl (.inl (by rw [upd_ne (hn t ht)]; exact g3))) ?_
            rw [e9, ← h1, ← h2]
            exact .cons rx (.cons ry .nil)
  refine fin xs ys _ _ l r1' r2' hll (fun t h => h) (fun m t h => by have := e6 m t h; rwa [Nat.zero_add] at this) fun t ht t' ht' e => ?_
  obtain ⟨_, _, a1, b1, g1, g2, g3⟩ := e5 t ht
  obtain ⟨_, _, a2, b2, g4, g5, g6⟩ := e5 t' ht'
  have g7 : IsTupOf2 h2 t.1 a2 b2 := by rw [e]; exact g4
  have g8 := Option.some.inj (g1.symm.trans g7)
  cases g8
  exact Prod.ext (L2.RelV.inj g2 g5) (L2.RelV.inj g3 g6)
end
end Sh

/-! dicts are made; what is read of them -/
namespace Sh
open PySem PySem.Spec PyProof.Rows L2

section
variable {X : Cx} {pins : List (Addr × Obj)} {σ : L2.St} {H : Hp} {s : Shared} {A : Around} {E : Value → Shared → Prop} {a : Addr} {es : List DictEntry} {c : Bool} {ks ds : List D} {kus vus : List V} {k : D} {kv : V} {u : Value}
/-- a display's store -/
theorem x_dictSet {d : D} {v : V} {r : Value} {Q : Unit → Shared → Prop} (hu : A.units + 8 < cLine) (I : Inv X pins σ H s) (e : H a = some (DctAt a es)) (dt : DAt X.KK H a es c ks ds kus vus) (hz : ks.length < sizeLine) (hc : kcB c k = true) (rk : Rep X.KK H k kv) (ru : RelV kv u) (rd : Rep X.KK H d v) (rv : RelV v r)
    (h : ∀ s' es' kus' vus', Inv X pins σ (upd H a (DctAt a es')) s' → DAt X.KK H a es' c (putD ks ds k d).1 (putD ks ds k d).2 kus' vus' → Q () s') : wpAny (model X.prog X.w) A (dictSet a u r) Q E s := by
  have hlen := dt.ents.len
  have hpl := putD_len ks ds k d
  cases c with
  | true =>
    obtain ⟨xs, dd, al, ha, hxl⟩ := dictH I (.inl e) dt
    obtain ⟨b, rfl⟩ := rep_ref rk hc
    obtain rfl : u = .ref b := ru
    have ndx : ((xs.map fun x => (x.1, x.2.2)).map (·.1)).Nodup := by
      rw [al.keys]; exact nd_of (fun a ha b hb => nk_dec (kc_hsb (List.all_eq_true.mp dt.all a ha)) (kc_hsb (List.all_eq_true.mp dt.all b hb))) dt.nd
    obtain ⟨vus', al', rv'⟩ := al.put ndx dt.rv (dec_true dt.all hc) rv rd
    have hkey : (nestedKind X.prog X.w).is s.heap (nk k) b := ⟨rep_nested I rk (kc_hsb hc) rfl, by rw [nk_depth k (kc_hsb hc)]; exact kc_dep hc⟩
    refine wpAny_dictSet_heap (knd := nestedKind X.prog X.w) (hsz := by omega) hu hkey dd fun h' dd' hs => ?_
    obtain ⟨o, es', ep, h1, h2, h3, h4, h5, h6⟩ := dd'
    rw [← storedH_val (nk k) b r xs] at al'
    have en := ents_true_back (P := X.prog) (w := X.w) al'
    refine h _ es'.toList ((storedH xs (nk k) b r).map fun x => V.ref x.2.1) vus' (x_new I e hs h1 h2 h3) ⟨dt.sys, ?_, putD_keys dt.keys hc, by rw [h4]; exact en, ?_, rv'⟩
    · rw [h4]; have := en.len; omega
    · rw [storedH_adr]
      have hm := (al.look dt.rv (dec_true dt.all hc)).2
      rw [← atKey_val, Option.isSome_map] at hm
      rw [← hm, ha]
      unfold putD
      by_cases q : memK k ks = true
      · rw [if_pos q, if_pos q]; exact dt.rk
      · rw [if_neg q, if_neg q]; exact dt.rk.append (.cons rk .nil)
  | false =>
    obtain ⟨ys, dd, al, hyl⟩ := dictF I (.inl e) dt
    obtain rfl := rep_kV rk hc
    have ndx : (ys.map (·.1)).Nodup := by
      rw [al.keys]; exact nd_of (fun a ha b hb => kD_dec (List.all_eq_true.mp dt.all a ha) (List.all_eq_true.mp dt.all b hb)) dt.nd
    obtain ⟨vus', al', rv'⟩ := al.put ndx dt.rv (dec_false dt.all hc) rv rd
    refine wpAny_dictSet_pairs (hsz := by omega) (kV_is ru) dd fun h' dd' hs => ?_
    obtain ⟨o, es', ep, h1, h2, h3, h4, h5, h6⟩ := dd'
    have hk' : keysB false (putD ks ds k d).1 = true := putD_keys dt.keys hc
    have hall : (putD ks ds k d).1.all (kcB false) = true := by
      have := hk'
      simp only [keysB, Bool.and_eq_true] at this
      exact this.1
    have en := ents_false_back (P := X.prog) (w := X.w) h5 (fun x hx => h4 x (Array.mem_toList_iff.mp hx)) al' hall
    refine h _ es'.toList ((putD ks ds k d).1.map fun k => kV (kD k)) vus' (x_new I e hs h1 h2 h3) ⟨dt.sys, ?_, hk', en, ?_, rv'⟩
    · have := en.len; omega
    · have hold := repL_kV dt.rk dt.all
      unfold putD
      by_cases q : memK k ks = true
      · rw [if_pos q]; rw [← hold]; exact dt.rk
      · rw [if_neg q]
        show RepL X.KK H (ks ++ [k]) ((ks ++ [k]).map fun k => kV (kD k))
        rw [List.map_append, ← hold]; exact dt.rk.append (.cons rk .nil)
theorem DAt.nil {K : KW} {H : Hp} {a : Addr} (c : Bool) (hs : (a == sysModules) = false) : DAt K H a [] c [] [] [] [] := ⟨hs, Nat.zero_le _, rfl, .nil, .nil, .nil⟩
theorem DAt.ext {K : KW} {H' : Hp} (d : DAt K H a es c ks ds kus vus) (e : Fx H H') : DAt K H' a es c ks ds kus vus := ⟨d.sys, d.len, d.keys, d.ents, d.rk.ext e, d.rv.ext e⟩
end
/-- a new dict stands at p, not yet a cell, not frozen -/
def PostD (K : KW) (c : Bool) (ι : List Addr) (H : Hp) (ks ds : List D) (h' : DH) (Q : VK) : Prop :=
  ∀ ι' H' p es kus vus, Stp ι H ι' H' → SR K ι' H' h' → H' p = some (DctAt p es) → p ∉ ι' → H p = none → DAt K H' p es c ks ds kus vus → Q (.ref p) H'
def tRD (K : KW) (c : Bool) (f : Env → DH → Option (List D × List D × DH)) : TE := fun σ H Q => ∃ ι env h ks vs h', SR K ι H h ∧ EnvOk K ι H env σ ∧ f env h = some (ks, vs, h') ∧ (ks.all (kcB c) = true ∧ ks.length ≤ line) ∧ PostD K c ι H (putAll [] [] ks vs).1 (putAll [] [] ks vs).2 h' Q
section
variable {X : Cx} {x y z tg : Expr} {pos : Pos} {cf : Cf} {Φ : Nat → FSpec} {G : Nat → D} {sc : Scope} {k : Nat}
theorem EP.frzU {pins : List (Addr × Obj)} {σ : L2.St} {s : Shared} {Q : VK} {u : Value} (h : EP X pins σ (fun v H' => ∃ p es, v = .ref p ∧ H' p = some (DctAt p es) ∧ ∀ o, Q v (upd H' p (.frz o (DctAt p es)))) u s) : EP X pins σ Q u s := by
  obtain ⟨v, H', I, rv, p, es, rfl, hp, q⟩ := h
  obtain ⟨ob, _, _, ho, _⟩ := dct_raw I (.inl hp)
  obtain ⟨o, I2⟩ := Inv.freeze I hp (fun _ z => by cases z) (fun _ _ z => by cases z) (fun _ z => by cases z) (fun _ z => by cases z) ⟨ob, ho⟩
  exact ⟨.ref p, _, I2, rv, q o⟩
theorem pe_mkd {m c : Bool} {dc : DC} (hpe : PE X x (tRD X.KK c (evD Φ G dc))) : PE X x (tE X.KK (evE Φ G (.mkd m c dc))) := by
  cases m with
  | true =>
    refine hpe.imp fun σ H Q q => ?_
    obtain ⟨ι, env, h, w, h', sr, eo, e, q⟩ := q
    simp only [evE, mkD, Option.bind_eq_bind, Option.bind_eq_some_iff, Prod.exists] at e
    obtain ⟨ks, vs, h1, e1, e⟩ := e
    split at e
    · rename_i hg
      simp only [Bool.and_eq_true, decide_eq_true_eq] at hg
      simp only [if_true] at e
      cases e
      refine ⟨ι, env, h, ks, vs, _, sr, eo, e1, hg, fun ι1 H1 p es kus vus p1 s1 hp hn hq dt => ?_⟩
      refine q (ι1 ++ [p]) H1 _ ⟨p1.pre.trans (List.prefix_append _ _), p1.ext, fun c hc => ?_⟩ (s1.take hn (by rw [hp]; simp) ⟨es, kus, vus, hp, dt.sys, dt.len, dt.keys, dt.ents, dt.rk, dt.rv⟩) (.ref (by rw [← s1.len]; simp))
      rcases List.mem_append.mp hc with z | z
      · exact p1.new c z
      · simp at z; subst z; exact .inr hq
    · cases e
  | false =>
    refine ⟨fun pins s σ H Q I q => thn (hpe.run pins s σ H (fun v H' => ∃ p es, v = .ref p ∧ H' p = some (DctAt p es) ∧ ∀ o, Q v (upd H' p (.frz o (DctAt p es)))) I ?_) fun _ _ => EP.frzU⟩
    obtain ⟨ι, env, h, w, h', sr, eo, e, q⟩ := q
    simp only [evE, mkD, Option.bind_eq_bind, Option.bind_eq_some_iff, Prod.exists] at e
    obtain ⟨ks, vs, h1, e1, e⟩ := e
    split at e
    · rename_i hg
      simp only [Bool.and_eq_true, decide_eq_true_eq] at hg
      simp only [Bool.false_eq_true, if_false] at e
      cases e
      refine ⟨ι, env, h, ks, vs, _, sr, eo, e1, hg, fun ι1 H1 p es kus vus p1 s1 hp hn hq dt => ⟨p, es, rfl, hp, fun o => ?_⟩⟩
      have n1 : ∀ xs, DctAt p es ≠ .tup xs := fun _ z => by cases z
      have n2 : ∀ o w, DctAt p es ≠ .frz o w := fun _ _ z => by cases z
      have fx := fx_write (o := .frz o (DctAt p es)) hp n1 n2
      exact q ι1 _ _ (p1.off hq hp n1 n2) (s1.off hn hp n1 n2) (.d (.dct ⟨o, upd_same⟩ dt.sys dt.len dt.keys dt.ents (dt.rk.ext fx) (dt.rv.ext fx)))
    · cases e
/-- {} -/
theorem s_dd0 {c : Bool} : PE X (.Dict [] [] pos) (tRD X.KK c (evD Φ G (.disp .nil .nil))) := ⟨fun pins s σ H Q I hq => by
  obtain ⟨ι, env, h, ks, vs, h', sr, eo, e, hg, q⟩ := hq
  simp only [evD, evEs, pureL, Option.bind_eq_bind, Option.bind_some] at e
  cases e
  have hb : (s.heap.objs.size == sysModules) = false := beq_eq_false_iff_ne.mpr (Ne.symm (Nat.ne_of_lt I.big))
  have hp := I.hok.fresh (Nat.le_refl s.heap.objs.size)
  have hob : ObjOk X.prog X.w (upd H s.heap.objs.size (DctAt s.heap.objs.size [])) (s.heap.push { cls := .type "dict", data := .dict #[] }) s.heap.objs.size (DctAt s.heap.objs.size []) :=
    ⟨⟨_, #[], 0, Heap.get?_push_size _ rfl, ⟨rfl, rfl, rfl⟩, rfl, rfl⟩, ⟨_, Heap.get?_push_size _ rfl⟩, fun g1 g2 ⟨o, ea, ep, q1, q2⟩ k => ⟨o, ea, ep, k o q1, q2⟩⟩
  refine wpAny_Dict_empty ⟨.ref s.heap.objs.size, _, I.laid (a := s.heap.objs.size) (o := DctAt s.heap.objs.size []) (t' := s.toks) (fun _ _ q => Heap.get?_push_of_some _ q) (Nat.le_refl _) hob, rfl, ?_⟩
  have sm : Same H (upd H s.heap.objs.size (DctAt s.heap.objs.size [])) := same_upd hp
  exact q ι _ _ [] [] [] (.same sm) (sr.same sm) upd_same (sr.notin hp) hp (.nil c hb)⟩
end
section
variable {prog : Program} {w : World} {A : Around} {E : Value → Shared → Prop} {s : Shared}
theorem sub_one {kx vx : Expr} {env : PySem.Env} {pos : Pos} {Q : Value → Shared → Prop} (h : wpAny (model prog w) A (eval kx env) (fun u s1 => wpAny (model prog w) A (eval vx env) (fun r s2 => wpAny (model prog w) A (dictSet s.heap.objs.size u r) (fun _ s3 => Q (.ref s.heap.objs.size) s3) E s2) E s1) E { s with heap := s.heap.push { cls := .type "dict", data := .dict #[] } }) :
    wpAny (model prog w) A (eval (.Dict [some kx] [vx] pos) env) Q E s := by
  rw [arm_eval_Dict, zip_pairTrees [some kx] [vx] env pos rfl rfl, dictDisplay_pairs (pairTrees [some kx] [vx] env pos) (by simp [pairTrees]) (by simp [pairTrees])]
  refine wpAny_bind (wpAny_standAt (wpAny_bind ?_))
  unfold subDict
  refine wpAny_bind (wpAny_alloc (wpAny_bind (wpAny_holding ?_)))
  rw [if_pos (by simp [pairTrees])]
  refine wpAny_bind (pairTrees_cons_walk (wpAny_mono h (fun u s1 h1 => wpAny_mono h1 (fun r s2 h2 => pairTrees_nil_walk ?_) fun _ _ z => z) fun _ _ z => z))
  refine wpAny_holding ?_
  rw [List.forIn_cons]
  refine wpAny_bind (wpAny_bind (wpAny_bind (wpAny_mono h2 (fun _ s3 q => wpAny_pure ?_) fun _ _ z => z)))
  show wpAny _ _ (pure PUnit.unit) _ _ s3
  exact wpAny_pure (wpAny_pure (wpAny_pure (wpAny_pure q)))
end
section
variable {X : Cx} {x y z tg : Expr} {pos : Pos} {cf : Cf} {Φ : Nat → FSpec} {G : Nat → D} {sc : Scope} {k : Nat}
/-- {x: y} -/
theorem s_dd1 (hu : X.A.units + 8 < cLine) {c : Bool} {a b : E} (ha : Ok1 X x (evE Φ G a)) (hb : Ok1 X y (evE Φ G b)) : PE X (.Dict [some x] [y] pos) (tRD X.KK c (evD Φ G (.disp (.cons a .nil) (.cons b .nil)))) := ⟨fun pins s σ H Q I hq => by
  obtain ⟨ι, env, h, ks, vs, h', sr, eo, e, hg, q⟩ := hq
  simp only [evD, evEs, Option.bind_eq_bind, Option.bind_eq_some_iff, Prod.exists, Option.some.injEq, Prod.mk.injEq] at e
  obtain ⟨_, _, ⟨w, h1, e1, _, _, ⟨rfl, rfl⟩, rfl, rfl⟩, _, _, ⟨w2, h2, e2, _, _, ⟨rfl, rfl⟩, rfl, rfl⟩, kd, e3, vd, e4, e⟩ := e
  have : ∃ d1 d2, w = .d d1 ∧ w2 = .d d2 ∧ kd = [d1] ∧ vd = [d2] := by
    cases w with
    | ref n => simp [pureL] at e3
    | d d1 =>
      cases w2 with
      | ref n => simp [pureL] at e4
      | d d2 =>
        simp only [pureL, Option.map_some, Option.some.injEq] at e3 e4
        exact ⟨d1, d2, rfl, rfl, e3.symm, e4.symm⟩
  obtain ⟨d1, d2, rfl, rfl, rfl, rfl⟩ := this
  rw [if_pos ⟨rfl, Nat.le_refl _⟩] at e
  cases e
  simp only [List.all_cons, List.all_nil, Bool.and_true] at hg
  have hb0 : (s.heap.objs.size == sysModules) = false := beq_eq_false_iff_ne.mpr (Ne.symm (Nat.ne_of_lt I.big))
  have hp := I.hok.fresh (Nat.le_refl s.heap.objs.size)
  have hob : ObjOk X.prog X.w (upd H s.heap.objs.size (DctAt s.heap.objs.size [])) (s.heap.push { cls := .type "dict", data := .dict #[] }) s.heap.objs.size (DctAt s.heap.objs.size []) :=
    ⟨⟨_, #[], 0, Heap.get?_push_size _ rfl, ⟨rfl, rfl, rfl⟩, rfl, rfl⟩, ⟨_, Heap.get?_push_size _ rfl⟩, fun g1 g2 ⟨o, ea, ep, q1, q2⟩ k => ⟨o, ea, ep, k o q1, q2⟩⟩
  have I0 : Inv X pins σ (upd H s.heap.objs.size (DctAt s.heap.objs.size [])) { s with heap := s.heap.push { cls := .type "dict", data := .dict #[] } } := I.laid (a := s.heap.objs.size) (o := DctAt s.heap.objs.size []) (t' := s.toks) (fun _ _ q => Heap.get?_push_of_some _ q) (Nat.le_refl _) hob
  have sm : Same H (upd H s.heap.objs.size (DctAt s.heap.objs.size [])) := same_upd hp
  have sr0 := sr.same sm
  have eo0 := eo.stp (Stp.same (ι := ι) sm)
  have hn0 : s.heap.objs.size ∉ ι := sr.notin hp
  refine sub_one ?_
  refine thn (ha.pe.run pins _ σ _ (fun v H1 => ∃ ι1, Stp ι (upd H s.heap.objs.size (DctAt s.heap.objs.size [])) ι1 H1 ∧ SR X.KK ι1 H1 h1 ∧ Rep X.KK H1 d1 v) I0 ⟨ι, env, h, _, h1, sr0, eo0, e1, fun ι1 H1 v p1 s1 r1 => ⟨ι1, p1, s1, r1.pure⟩⟩) fun u s1 ⟨v, H1, I1, ru, ι1, p1, sr1, r1⟩ => ?_
  refine thn (hb.pe.run pins s1 σ H1 (fun v H2 => ∃ ι2, Stp ι1 H1 ι2 H2 ∧ SR X.KK ι2 H2 h' ∧ Rep X.KK H2 d2 v) I1 ⟨ι1, env, h1, _, h', sr1, eo0.stp p1, e2, fun ι2 H2 v p2 s2 r2 => ⟨ι2, p2, s2, r2.pure⟩⟩) fun r s2 ⟨v2, H2, I2, rr, ι2, p2, sr2, r2⟩ => ?_
  have p12 := p1.trans p2
  have hD : H2 s.heap.objs.size = some (DctAt s.heap.objs.size []) := p12.ext.oth _ _ hn0 upd_same
  have n1 : ∀ xs, DctAt s.heap.objs.size [] ≠ .tup xs := fun _ z => by cases z
  have n2 : ∀ o w, DctAt s.heap.objs.size [] ≠ .frz o w := fun _ _ z => by cases z
  have hn2 : s.heap.objs.size ∉ ι2 := fun z => by
    rcases p12.new _ z with z | z
    · exact hn0 z
    · rw [upd_same] at z; cases z
  refine x_dictSet hu I2 hD (.nil c hb0) (by show 0 < sizeLine; decide) hg.1 (r1.ext p2.fx) ru r2 rr fun s3 es' kus' vus' I3 dt => ?_
  have fx := fx_write (o := DctAt s.heap.objs.size es') hD n1 n2
  refine ⟨.ref s.heap.objs.size, _, I3, rfl, ?_⟩
  have st : Stp ι H ι2 (upd H2 s.heap.objs.size (DctAt s.heap.objs.size es')) := by
    have st0 := (Stp.same (ι := ι) sm).trans p12
    exact st0.off hp hD n1 n2
  exact q ι2 _ _ es' kus' vus' st (sr2.off hn2 hD n1 n2) upd_same hn2 hp (dt.ext fx)⟩
/-! ### d.get(k), d.get(k, z) -/
theorem few_two {env : PySem.Env} {p : Pos} (h : notStar x = true) (h2 : notStar y = true) : ((backTo p (starEach [x, y] env)).all (fun x => !x.1) && (backToKw p (keywordEach [] env)).all (fun x => x.1.isSome)
      && decide ([x, y].length + ([] : List Keyword).length + (if ([] : List Keyword).isEmpty then 0 else 1) < 30)) = true := by
  rw [starEach_cons h, starEach_cons h2]; rfl
theorem pe_dm {o e : Expr} {es : List Expr} {to : TE} {t : TA} {name : Str} {apos cpos : Pos} {id : String} {r : V → List V → Hp → VK → Prop} (slot : Slot "dict" name id) (hty : typeOf (.builtin id) = pure (.type "method_descriptor")) (hm : MtR X id r) (ho : PE X o to) (ha : PA X (e :: es) t)
    (hbase : attributeBase o name X.env (eval o X.env) = eval o X.env)
    (hfew : ((backTo cpos (starEach (e :: es) X.env)).all (fun x => !x.1) && (backToKw cpos (keywordEach [] X.env)).all (fun x => x.1.isSome) && decide ((e :: es).length + ([] : List Keyword).length + (if ([] : List Keyword).isEmpty then 0 else 1) < 30)) = true)
    (hline : (apos.endLine == cpos.line) = true) (hs : starEach (e :: es) X.env = (false, eval e X.env) :: starEach es X.env) (hplain : (backTo cpos (starEach es X.env)).any (·.1) = false) :
    PE X (.Call (.Attribute o name apos) (e :: es) [] cpos) (fun σ H Q => to σ H fun x H1 => (∃ a es, x = .ref a ∧ Rd H1 a (DctAt a es)) ∧ t σ H1 fun xs H2 => r x xs H2 Q) := by
  refine ⟨fun pins s σ H Q I h => ?_⟩
  refine wpAny_Call_method_late hbase hfew hline rfl (thn (ho.run pins s σ H _ I h) fun v s1 ⟨x, H1, I1, r1, ⟨a, es', ex, hr⟩, q1⟩ => ?_)
  subst ex
  obtain rfl : v = .ref a := r1
  obtain ⟨h1, h2⟩ := dct_sys I1 hr
  refine ⟨"dict", id, F.plainAttrs_dict, slot, hty, h1, h2, ?_⟩
  have hA := ha.run cpos pins s1 σ H1 _ I1 q1
  rw [hs] at hA ⊢
  refine Calls.callWith_builtin (by show (false || (backTo cpos (starEach es X.env)).any (·.1)) = false; rw [hplain] <;> rfl) (Calls.evalArgs_plain ?_)
  exact thn hA fun us s2 ⟨vs, H2, I2, r2, q2⟩ => hm pins s2 σ H2 (.ref a) vs (.ref a) us Q I2 rfl r2 q2
def rGet (K : KW) : V → List V → Hp → VK → Prop := fun x vs H Q => ∃ c ks ds k kv, Is K H (.dct c ks ds) x ∧ kcB c k = true ∧ Rep K H k kv ∧ ((vs = [kv] ∧ ∀ v, Rep K H ((lkK ks ds k).getD .non) v → Q v H) ∨ ∃ z zv, vs = [kv, zv] ∧ Rep K H z zv ∧ ∀ v, Rep K H ((lkK ks ds k).getD z) v → Q v H)
theorem getR (hu : X.A.units + 9 < cLine) : MtR X "dict.get" (rGet X.KK) := by
  intro pins s σ H x vs v us Q I rx rxs hq
  obtain ⟨c, ks, ds, k, kv, ix, hc, rk, hq⟩ := hq
  obtain ⟨a, es, kus, vus, rfl, hr, dt⟩ := ix.dctA
  obtain rfl : v = .ref a := rx
  rcases hq with ⟨rfl, q⟩ | ⟨z, zv, rfl, rz, q⟩
  · obtain ⟨u, rfl, ru⟩ := vals1 rxs
    exact x_get1 hu I hr dt hc rk ru fun v w' s' I' rw' rr => ⟨v, H, I', rw', q v rr⟩
  · cases rxs with
    | cons ru rt =>
      cases rt with
      | cons rzu rt =>
        cases rt
        exact x_get2 hu I hr dt hc rk ru rz rzu fun v w' s' I' rw' rr => ⟨v, H, I', rw', q v rr⟩
theorem dct_rd {K : KW} {ι : List Addr} {H : Hp} {h : DH} {w : W} {v : V} {c : Bool} {ks ds : List D} (s : SR K ι H h) (r : RepW K ι H w v) (e : valD h w = some (.dct c ks ds)) : ∃ a es, v = .ref a ∧ Rd H a (DctAt a es) := by
  obtain ⟨a, es, kus, vus, rfl, hr, dt⟩ := (r.is s e).dctA
  exact ⟨a, es, rfl, hr⟩
theorem s_get1 (hr : Room k X.A) {a b : E} {apos cpos : Pos} (ha : Ok1 X x (evE Φ G a)) (hb : Ok1 X y (evE Φ G b)) (hc : notC0 x = true) (hs : notStar y = true) (hl : (apos.endLine == cpos.line) = true) : Ok1 X (.Call (.Attribute x "get" apos) [y] [] cpos) (evE Φ G (.get a b .nil)) := by
  have hu : X.A.units + 9 < cLine := by have := hr.un; omega
  have pe := pe_dm (X := X) (cpos := cpos) (apos := apos) PySem.F.slot_dict_get PySem.F.type_dict_get (getR hu) ha.pe (pa_cons hb.pe pa_nil (starEach_cons hs)) (abase hc _ _ _) (few_one hs) hl (starEach_cons hs) rfl
  refine .plain (pe.imp fun σ H Q q => ?_) (fun _ => rfl) (fun _ _ _ z => by cases z)
  obtain ⟨ι, env, h, w, h', sr, eo, e, q⟩ := q
  simp only [evE, evEs, Option.bind_eq_bind, Option.bind_eq_some_iff, Prod.exists] at e
  obtain ⟨wx, h1, e1, e⟩ := e
  split at e
  · rename_i c0 k0 d0 hv
    simp only [Option.bind_eq_some_iff, Prod.exists, Option.some.injEq, Prod.mk.injEq] at e
    obtain ⟨wy, h2, e2, _, _, ⟨rfl, rfl⟩, dx, e3, dy, e4, ds, e5, e⟩ := e
    simp only [pureL, Option.some.injEq] at e5
    subst e5
    split at e
    · rename_i c ks vs hdx hds
      split at e
      · rename_i hg
        cases e
        refine ⟨ι, env, h, wx, h1, sr, eo, e1, fun ι1 H1 v1 p1 s1 r1 => ⟨dct_rd s1 r1 hv, ι1, env, h1, wy, _, s1, eo.stp p1, e2, fun ι2 H2 v2 p2 s2 r2 => ?_⟩⟩
        exact ⟨_, _, _, dy, v2, (r1.stp p2).is s2 e3, hg, (r2.is s2 e4).repk hg, .inl ⟨rfl, fun v rr => q ι2 H2 v (p1.trans p2) s2 (.d rr)⟩⟩
      · cases e
    · rename_i hds
      cases hds
    · cases e
  · cases e
theorem s_get2 (hr : Room k X.A) {a b c : E} {apos cpos : Pos} (ha : Ok1 X x (evE Φ G a)) (hb : Ok1 X y (evE Φ G b)) (hcc : Ok1 X z (evE Φ G c)) (hc : notC0 x = true) (hs : notStar y = true) (hs2 : notStar z = true) (hl : (apos.endLine == cpos.line) = true) : Ok1 X (.Call (.Attribute x "get" apos) [y, z] [] cpos) (evE Φ G (.get a b (.cons c .nil))) := by
  have hu : X.A.units + 9 < cLine := by have := hr.un; omega
  have pe := pe_dm (X := X) (cpos := cpos) (apos := apos) PySem.F.slot_dict_get PySem.F.type_dict_get (getR hu) ha.pe (pa_cons hb.pe (pa_cons hcc.pe pa_nil (starEach_cons hs2)) (starEach_cons hs)) (abase hc _ _ _) (few_two hs hs2) hl (starEach_cons hs) (noStar_any (by simp [noStar, hs2]) _)
  refine .plain (pe.imp fun σ H Q q => ?_) (fun _ => rfl) (fun _ _ _ z => by cases z)
  obtain ⟨ι, env, h, w, h', sr, eo, e, q⟩ := q
  simp only [evE, evEs, Option.bind_eq_bind, Option.bind_eq_some_iff, Prod.exists] at e
  obtain ⟨wx, h1, e1, e⟩ := e
  split at e
  · rename_i c0 k0 d0 hv
    simp only [Option.bind_eq_some_iff, Prod.exists, Option.some.injEq, Prod.mk.injEq] at e
    obtain ⟨wy, h2, e2, zs, h3, ⟨wz, h4, e2', _, _, ⟨rfl, rfl⟩, rfl, rfl⟩, dx, e3, dy, e4, ds, e5, e⟩ := e
    split at e
    · rename_i c ks vs hdx hds
      cases wz with
      | ref n => simp [pureL] at e5
      | d dz => simp [pureL] at e5
    · rename_i c ks vs dz hdx
      cases wz with
      | ref n => simp [pureL] at e5
      | d dz' =>
        simp only [pureL, Option.map_some, Option.some.injEq, List.cons.injEq, and_true] at e5
        subst e5
        split at e
        · rename_i hg
          cases e
          refine ⟨ι, env, h, wx, h1, sr, eo, e1, fun ι1 H1 v1 p1 s1 r1 => ⟨dct_rd s1 r1 hv, ι1, env, h1, wy, h2, s1, eo.stp p1, e2, fun ι2 H2 v2 p2 s2 r2 => ⟨ι2, env, h2, _, _, s2, (eo.stp p1).stp p2, e2', fun ι3 H3 v3 p3 s3 r3 => ?_⟩⟩⟩
          exact ⟨_, _, _, dy, v2, ((r1.stp p2).stp p3).is s3 e3, hg, ((r2.stp p3).is s3 e4).repk hg, .inr ⟨_, v3, rfl, r3.pure, fun v rr => q ι3 H3 v ((p1.trans p2).trans p3) s3 (.d rr)⟩⟩
        · cases e
    · cases e
  · cases e
end
end Sh

/-! list comprehensions -/
namespace Sh
open PySem PySem.Spec PyProof.Rows L2

/-- .. over the list in a cell -/
def tIr (K : KW) (f : Env → DH → Option (W × DH)) : TI := fun σ H R => ∃ ι env h n h' ws, SR K ι H h ∧ EnvOk K ι H env σ ∧ f env h = some (.ref n, h') ∧ h'[n]? = some (.lst ws) ∧
  ∀ ι' H' a, Stp ι H ι' H' → SR K ι' H' h' → ι'[n]? = some a → R (Itl K a) H'
def tIu (K : KW) (f : Env → DH → Option (W × DH)) : TI := fun σ H R => tI K f σ H R ∨ tIr K f σ H R
section
variable {X : Cx} {x y z tg : Expr} {pos : Pos} {cf : Cf} {Φ : Nat → FSpec} {G : Nat → D} {sc : Scope} {k : Nat}
theorem pi_cell {a : E} (pe : PE X x (tE X.KK (evE Φ G a))) : PI X tg x (tIr X.KK (evE Φ G a)) := by
  refine ⟨fun pins s σ H R I hq => ?_⟩
  obtain ⟨ι, env, h0, n, h', ws, sr, eo, e, ec, q⟩ := hq
  refine thn (pe.run pins s σ H (fun v H1 => ∃ ι1, Stp ι H ι1 H1 ∧ SR X.KK ι1 H1 h' ∧ RepW X.KK ι1 H1 (.ref n) v) I ⟨ι, env, h0, _, h', sr, eo, e, fun ι' H' v p s r => ⟨ι', p, s, r⟩⟩) fun v s1 ⟨xv, H1, I1, r1, ι1, p1, sr1, rx⟩ => ?_
  obtain ⟨a, rfl, ha⟩ := rx.cell
  cases r1
  obtain ⟨vs, hv, rv'⟩ := sr1.cell n _ a ec ha
  obtain ⟨its, rv, p, hz⟩ := I1.list (SqL.of hv)
  refine wpAny_pyIter_list p.isList ?_
  refine ⟨s1.heap.objs.size, [s1.heap.objs.size], _, _, H1, rfl, I1.kept (t' := s1.toks) fun b o e => Heap.get?_push_of_some _ e, turn_list a _, ⟨_, Heap.get?_push_size _ rfl, rfl, rfl⟩, fun b hb => ?_, q ι1 H1 _ p1 sr1 ha⟩
  have e : b = s1.heap.objs.size := by simpa using hb
  subst e
  exact I1.fpOk (Nat.le_refl _) (I1.hok.fresh (Nat.le_refl _))
theorem _root_.L2.PI.or {t t' : TI} (h : PI X tg x t) (h' : PI X tg x t') : PI X tg x (fun σ H R => t σ H R ∨ t' σ H R) := ⟨fun pins s σ H R I q => by
  rcases q with q | q
  · exact h.run pins s σ H R I q
  · exact h'.run pins s σ H R I q⟩
end

section
variable {K : KW}
/-- where a loop may have come: closed under steps, and under writing the list at D0 -/
structure Cl (D0 : Addr) (P : List Addr → Hp → Prop) : Prop where
  stp : ∀ ι H ι' H', P ι H → Stp ι H ι' H' → P ι' H'
  off : ∀ ι H vs vs', P ι H → H D0 = some (.lst vs) → P ι (upd H D0 (.lst vs'))
theorem cl_stp {ι1 : List Addr} {H1 : Hp} {D0 : Addr} (hD : H1 D0 = none) : Cl D0 (Stp ι1 H1) :=
  ⟨fun _ _ _ _ p q => p.trans q, fun _ _ vs vs' p d => p.off hD d (fun _ z => by cases z) (fun _ _ z => by cases z)⟩
theorem cl_in {P : List Addr → Hp → Prop} {D0 : Addr} (c : Cl D0 P) (ι4 : List Addr) (H4 : Hp) : Cl D0 (fun ι H => P ι H ∧ Fx H4 H ∧ ι4 <+: ι) :=
  ⟨fun _ _ _ _ p q => ⟨c.stp _ _ _ _ p.1 q, p.2.1.trans q.fx, p.2.2.trans q.pre⟩, fun _ _ vs vs' p d => ⟨c.off _ _ vs vs' p.1 d, p.2.1.trans (fx_write d (fun _ z => by cases z) (fun _ _ z => by cases z)), p.2.2⟩⟩
/-- the loop of a comprehension: the list at D grows -/
theorem comp_loop {J : It} {P : List Addr → Hp → Prop} {H0 : Hp} {D0 : Addr} {len : Nat} {turn : D → DH → Option (List W × DH)} {h' : DH} {acc0 rest0 : List W} {hh0 : DH} {ι0 : List Addr} {vs0 : List V} {B : V → Hp → (Hp → Prop) → Prop} {Ex : Hp → Prop}
    (Rem : Nat → DH → List W → Prop) (cl : Cl D0 P) (hline : (acc0 ++ rest0).length ≤ line)
    (hstep : ∀ i hh rest ι' H', Rem i hh rest → P ι' H' → SR K ι' H' hh → i ≤ len ∧ ((J.stop i H' ∧ rest = [] ∧ hh = h') ∨
      (J.go i H' ∧ ∃ d o hh1 rest', turn d hh = some (o, hh1) ∧ Rem (i + 1) hh1 rest' ∧ i + 1 ≤ len ∧ rest = o ++ rest' ∧ ∀ x H2, J.yld i H' x H2 → Same H' H2 ∧ Rep K H2 d x)))
    (hB : ∀ d hh o hh1 ι' H' x vs acc (Nx : Hp → Prop), turn d hh = some (o, hh1) → P ι' H' → SR K ι' H' hh → D0 ∉ ι' → H' D0 = some (.lst vs) → RepWL K ι' H' acc vs → Rep K H' d x → (acc ++ o).length ≤ line →
      (∀ ι'' H'' vs', P ι'' H'' → SR K ι'' H'' hh1 → D0 ∉ ι'' → H'' D0 = some (.lst vs') → RepWL K ι'' H'' (acc ++ o) vs' → Nx H'') → B x H' Nx)
    (h0 : Rem 0 hh0 rest0) (p0 : P ι0 H0) (s0 : SR K ι0 H0 hh0) (n0 : D0 ∉ ι0) (d0 : H0 D0 = some (.lst vs0)) (r0 : RepWL K ι0 H0 acc0 vs0)
    (hEx : ∀ ι'' H'' vs', P ι'' H'' → SR K ι'' H'' h' → D0 ∉ ι'' → H'' D0 = some (.lst vs') → RepWL K ι'' H'' (acc0 ++ rest0) vs' → Ex H'') :
    ∃ W : Nat → Nat → Hp → Prop, (∃ m, W 0 m H0) ∧ ∀ i m H, W i m H →
      (J.stop i H ∧ Ex H) ∨ (J.go i H ∧ ∃ Nx : Hp → Prop, (∀ H', Nx H' → ∃ m', m' < m ∧ W (i + 1) m' H') ∧ ∀ x H', J.yld i H x H' → B x H' Nx) := by
  refine ⟨fun i m H => ∃ ι' hh acc vs rest, m = len - i ∧ P ι' H ∧ SR K ι' H hh ∧ D0 ∉ ι' ∧ H D0 = some (.lst vs) ∧ RepWL K ι' H acc vs ∧ Rem i hh rest ∧ acc ++ rest = acc0 ++ rest0,
    ⟨len - 0, ι0, hh0, acc0, vs0, rest0, rfl, p0, s0, n0, d0, r0, h0, rfl⟩, ?_⟩
  rintro i m H ⟨ι', hh, acc, vs, rest, rfl, p, s, n, d, r, hr, e⟩
  obtain ⟨hi, (⟨hs, rfl, rfl⟩ | ⟨hg, dd, o, hh1, rest', ht, hr', hi', rfl, hy⟩)⟩ := hstep i hh rest ι' H hr p s
  · refine .inl ⟨hs, hEx ι' H vs p s n d ?_⟩
    rw [← e, List.append_nil]; exact r
  · refine .inr ⟨hg, fun H'' => ∃ ι'' hh acc vs rest, P ι'' H'' ∧ SR K ι'' H'' hh ∧ D0 ∉ ι'' ∧ H'' D0 = some (.lst vs) ∧ RepWL K ι'' H'' acc vs ∧ Rem (i + 1) hh rest ∧ acc ++ rest = acc0 ++ rest0,
      fun H' hN => ?_, fun x H2 y => ?_⟩
    · obtain ⟨ι'', hh, acc, vs, rest, q⟩ := hN
      exact ⟨len - (i + 1), by omega, ι'', hh, acc, vs, rest, rfl, q⟩
    · obtain ⟨sm, rx⟩ := hy x H2 y
      have p2 : P ι' H2 := cl.stp _ _ _ _ p (.same sm)
      refine hB dd hh o hh1 ι' H2 x vs acc _ ht p2 (s.same sm) n (sm _ _ d) (r.ext (List.prefix_refl _) (.of_same sm)) rx ?_ fun ι'' H'' vs' p'' s'' n'' d'' r'' => ?_
      · have := congrArg List.length e
        simp only [List.length_append] at this hline ⊢
        omega
      · exact ⟨ι'', hh1, acc ++ o, vs', rest', p'', s'', n'', d'', r'', hr', by rw [List.append_assoc]; exact e⟩
/-- what remains of a walk over plain items -/
theorem rem_d {J : It} {H1 : Hp} {ds : List D} {turn : D → DH → Option (List W × DH)} {h' : DH} (wk : WkOk K J ds H1) :
    ∀ i hh rest ι' H', (i ≤ ds.length ∧ compD turn (ds.drop i) hh = some (rest, h')) → Fx H1 H' → SR K ι' H' hh → i ≤ ds.length ∧ ((J.stop i H' ∧ rest = [] ∧ hh = h') ∨
      (J.go i H' ∧ ∃ d o hh1 rest', turn d hh = some (o, hh1) ∧ (i + 1 ≤ ds.length ∧ compD turn (ds.drop (i + 1)) hh1 = some (rest', h')) ∧ i + 1 ≤ ds.length ∧ rest = o ++ rest' ∧ ∀ x H2, J.yld i H' x H2 → Same H' H2 ∧ Rep K H2 d x)) := by
  intro i hh rest ι' H' ⟨hi, e⟩ p s
  refine ⟨hi, ?_⟩
  obtain ⟨w1, w2⟩ := wk H' p i
  by_cases hlt : i < ds.length
  · have hd : ds.drop i = ds[i] :: ds.drop (i + 1) := List.drop_eq_getElem_cons hlt
    rw [hd] at e
    simp only [compD, Option.bind_eq_bind, Option.bind_eq_some_iff, Prod.exists, Option.some.injEq, Prod.mk.injEq] at e
    obtain ⟨o, hh1, e1, ws, h2, e2, rfl, rfl⟩ := e
    obtain ⟨g, y⟩ := w1 ds[i] (List.getElem?_eq_getElem hlt)
    exact .inr ⟨g, ds[i], o, hh1, ws, e1, ⟨hlt, e2⟩, hlt, rfl, y⟩
  · have : ds.drop i = [] := List.drop_eq_nil_of_le (by omega)
    rw [this] at e
    simp only [compD, Option.some.injEq, Prod.mk.injEq] at e
    obtain ⟨rfl, rfl⟩ := e
    exact .inl ⟨w2 (by omega), rfl, rfl⟩
theorem rem_r {ι1 : List Addr} {n len : Nat} {a : Addr} {turn : D → DH → Option (List W × DH)} {h' : DH} (ha : ι1[n]? = some a) :
    ∀ i hh rest ι' H', (i ≤ len ∧ compR turn n (len - i) i hh = some (rest, h')) → ι1 <+: ι' → SR K ι' H' hh → i ≤ len ∧ (((Itl K a).stop i H' ∧ rest = [] ∧ hh = h') ∨
      ((Itl K a).go i H' ∧ ∃ d o hh1 rest', turn d hh = some (o, hh1) ∧ (i + 1 ≤ len ∧ compR turn n (len - (i + 1)) (i + 1) hh1 = some (rest', h')) ∧ i + 1 ≤ len ∧ rest = o ++ rest' ∧ ∀ x H2, (Itl K a).yld i H' x H2 → Same H' H2 ∧ Rep K H2 d x)) := by
  intro i hh rest ι' H' ⟨hi, e⟩ p s
  refine ⟨hi, ?_⟩
  have ha' : ι'[n]? = some a := by
    obtain ⟨t, rfl⟩ := p
    rw [List.getElem?_append_left (List.getElem?_eq_some_iff.mp ha).1]; exact ha
  by_cases hlt : i < len
  · have hd : len - i = (len - (i + 1)) + 1 := by omega
    rw [hd] at e
    simp only [compR] at e
    split at e
    · rename_i ws hc
      split at e
      · rename_i x hx
        simp only [Option.bind_eq_bind, Option.bind_eq_some_iff, Prod.exists, Option.some.injEq, Prod.mk.injEq] at e
        obtain ⟨o, hh1, e1, ws', h2, e2, rfl, rfl⟩ := e
        obtain ⟨vs, hv, r⟩ := s.cell n _ a hc ha'
        obtain ⟨v, h1, h2'⟩ := r.get hx
        refine .inr ⟨⟨vs, v, SqL.of hv, h1⟩, x, o, hh1, ws', e1, ⟨hlt, e2⟩, hlt, rfl, fun y H2 hy => ?_⟩
        obtain ⟨rfl, hy⟩ := hy
        have := hy vs (SqL.of hv)
        rw [h1] at this; cases this
        exact ⟨Same.refl _, h2'.pure⟩
      · cases e
    · cases e
  · have hd : len - i = 0 := by omega
    rw [hd] at e
    simp only [compR] at e
    split at e
    · rename_i ws hc
      split at e
      · rename_i hl
        simp only [Option.some.injEq, Prod.mk.injEq] at e
        obtain ⟨rfl, rfl⟩ := e
        obtain ⟨vs, hv, r⟩ := s.cell n _ a hc ha'
        exact .inl ⟨⟨vs, SqL.of hv, by rw [← r.length, hl]; exact Nat.le_refl _⟩, rfl, rfl⟩
      · cases e
    · cases e
end

section
variable {X : Cx} {x y z tg tg1 : Expr} {pos : Pos} {cf : Cf} {Φ : Nat → FSpec} {G : Nat → D} {sc scope : Scope} {k : Nat}
/-- the context of a block -/
theorem XOk.blk (ok : XOk cf Φ G sc k X) (s : Shared) (H : Hp) (C : Addr) (cl : List (Str × Addr)) (fp : List Addr) : XOk cf Φ G (relS scope sc) k (X.blk s H scope (compEnvC scope cl C X.env) fp) ∧ FOk scope (X.blk s H scope (compEnvC scope cl C X.env) fp) := by
  have hsc : (compEnvC scope cl C X.env).scope = relS scope sc := by
    show relabel scope X.env = _
    unfold relabel relS
    rw [show X.env.scope = sc from ok.sc]
    simp only [Env.kindOf, ok.sc]
  refine ⟨⟨ok.N, ok.nd, hsc, ok.calm, ok.room, fun g n h => ?_, ok.cons, ok.blt, ok.gcd⟩, fun n hn => ?_⟩
  · obtain ⟨a, fd, ps, j, q⟩ := (ok.fns g n h).ok
    exact ⟨a, fd, ps, j, q⟩
  · show Loc (compEnvC scope cl C X.env).scope n ∧ ((scope.names.lookup n == some .cell) = true ∨ (compEnvC scope cl C X.env).scope.names.lookup n = some .local)
    rw [hsc]
    simp only [locB, Bool.or_eq_true, decide_eq_true_eq] at hn
    rcases hn with hn | hn
    · have : (relS scope sc).names.lookup n = some .local := lookup_relS_keep (by decide) hn
      exact ⟨.inl this, .inr this⟩
    · have : (relS scope sc).names.lookup n = some .cell := lookup_relS_keep (by decide) hn
      exact ⟨.inr this, .inl (by simp [hn])⟩
theorem s_if0 : PTs X [] (tT X.KK (evIf Φ G .nil)) := ⟨fun pins s σ H Q I hq => pts_nil.run pins s σ H Q I (by
  obtain ⟨ι, env, h, b, h', sr, eo, e, q⟩ := hq
  simp only [evIf, Option.some.injEq, Prod.mk.injEq] at e
  obtain ⟨rfl, rfl⟩ := e
  exact q ι H .refl sr)⟩
theorem s_if1 {a : E} {r : Es} (ha : Ok1 X x (evE Φ G a)) (ht : tst x = true) : PTs X [x] (tT X.KK (evIf Φ G (.cons a r))) := ⟨fun pins s σ H Q I hq => (pts_one (ha.pt ht)).run pins s σ H Q I (by
  obtain ⟨ι, env, h, b, h', sr, eo, e, q⟩ := hq
  refine ⟨ι, env, h, b, h', sr, eo, ?_, q⟩
  simp only [evIf] at e
  exact e)⟩
theorem wipe_get (σ : L2.St) (i : Nat) : ∀ vs : List Nat, (L2.wipe σ vs)[i]? = if i ∈ vs then σ[i]?.map (fun _ => none) else σ[i]?
  | [] => by simp [L2.wipe]
  | v :: vs => by
    have ih := wipe_get σ i vs
    unfold L2.wipe
    rw [List.getElem?_set]
    by_cases hv : v = i
    · subst hv
      rw [if_pos rfl, if_pos List.mem_cons_self, L2.wipe_length]
      by_cases hl : v < σ.length
      · rw [if_pos hl, List.getElem?_eq_getElem hl]; rfl
      · rw [if_neg hl, List.getElem?_eq_none (by omega)]; rfl
    · rw [if_neg hv, ih]
      have : i ∈ v :: vs ↔ i ∈ vs := by simp [Ne.symm hv]
      simp only [this]
theorem wipe_idem (σ : L2.St) (vs : List Nat) : L2.wipe (L2.wipe σ vs) vs = L2.wipe σ vs := by
  refine List.ext_getElem? fun i => ?_
  rw [wipe_get, wipe_get]
  by_cases h : i ∈ vs
  · simp only [if_pos h, Option.map_map]; rfl
  · simp only [if_neg h]
/-- the turn of a comprehension -/
def turn1 (Φ : Nat → FSpec) (G : Nat → D) (p : Pat) (c : Es) (elt : E) (env : Env) : D → DH → Option (List W × DH) := fun x h => do
  let env1 ← p.bind x env
  let (b, h1) ← evIf Φ G c env1 h
  if b = true then do
    let (w, h2) ← evE Φ G elt env1 h1
    some ([w], h2)
  else some ([], h1)
theorem body1 {K : KW} {p : Pat} {c : Es} {elt : E} {env : Env} {τ : L2.St} {vs1 : List Nat} {P : List Addr → Hp → Prop} {D0 : Addr} (cl : Cl D0 P) (hv : ∀ i ∈ p.vars, i ∈ vs1)
    {d : D} {hh hh1 : DH} {o : List W} {ι' : List Addr} {H' : Hp} {x : V} {vs : List V} {acc : List W} {Nx : Hp → Prop} (ht : turn1 Φ G p c elt env d hh = some (o, hh1)) (p' : P ι' H') (s : SR K ι' H' hh)
    (eo : EnvOk K ι' H' env τ) (n : D0 ∉ ι') (hd : H' D0 = some (.lst vs)) (r : RepWL K ι' H' acc vs) (rx : Rep K H' d x) (hl : (acc ++ o).length ≤ line)
    {τ0 : L2.St} (hw0 : L2.wipe τ vs1 = τ0) (q : ∀ ι'' H'' vs', P ι'' H'' → SR K ι'' H'' hh1 → D0 ∉ ι'' → H'' D0 = some (.lst vs') → RepWL K ι'' H'' (acc ++ o) vs' → Nx H'') :
    gP K p x τ H' fun σ2 H2 => L2.wipe σ2 vs1 = τ0 ∧ tT K (evIf Φ G c) σ2 H2 fun b H3 =>
      if b = true then tE K (evE Φ G elt) σ2 H3 fun y H4 => ∃ acc, H4 D0 = some (.lst acc) ∧ acc.length < sizeLine ∧ Nx (upd H4 D0 (.lst (acc ++ [y]))) else Nx H3 := by
  simp only [turn1, Option.bind_eq_bind, Option.bind_eq_some_iff, Prod.exists] at ht
  obtain ⟨env1, e1, b, h1, e2, e3⟩ := ht
  refine ⟨ι', env, hh, d, env1, s, eo, rx, e1, fun σ' eo' hw => ⟨(hw vs1 hv).trans hw0, ι', env1, hh, b, h1, s, eo', e2, fun ι3 H3 p3 s3 => ?_⟩⟩
  have d3 : H3 D0 = some (.lst vs) := p3.ext.oth D0 _ n hd
  have n3 : D0 ∉ ι3 := fun z => by
    rcases p3.new D0 z with z | z
    · exact n z
    · rw [hd] at z; cases z
  cases b with
  | true =>
    simp only [if_true, Option.bind_eq_some_iff, Prod.exists, Option.some.injEq, Prod.mk.injEq] at e3
    obtain ⟨w, h2, e4, rfl, rfl⟩ := e3
    refine iteT ⟨ι3, env1, h1, w, h2, s3, eo'.stp p3, e4, fun ι4 H4 y p4 s4 r4 => ?_⟩
    have d4 : H4 D0 = some (.lst vs) := p4.ext.oth D0 _ n3 d3
    have n4 : D0 ∉ ι4 := fun z => by
      rcases p4.new D0 z with z | z
      · exact n3 z
      · rw [d3] at z; cases z
    have m1 : ∀ xs, HO.lst vs ≠ .tup xs := fun _ z => by cases z
    have m2 : ∀ o w, HO.lst vs ≠ .frz o w := fun _ _ z => by cases z
    have hlen := r.length
    refine ⟨vs, d4, ?_, q ι4 _ (vs ++ [y]) (cl.off _ _ vs _ (cl.stp _ _ _ _ (cl.stp _ _ _ _ p' p3) p4) d4) (s4.off n4 d4 m1 m2) n4 upd_same ?_⟩
    · have : acc.length + 1 ≤ line := by simpa using hl
      rw [← hlen, ← line_eq]; omega
    · exact (((r.stp p3).stp p4).append (.cons r4 .nil)).ext (List.prefix_refl _) (fx_write d4 m1 m2)
  | false =>
    simp only [Bool.false_eq_true, if_false, Option.some.injEq, Prod.mk.injEq] at e3
    obtain ⟨rfl, rfl⟩ := e3
    rw [List.append_nil] at q
    exact iteF (q ι3 H3 vs (cl.stp _ _ _ _ p' p3) s3 n3 d3 (r.stp p3))
/-- the outset of a walk: what remains of it -/
theorem comp_start {K : KW} {f : Env → DH → Option (W × DH)} {σ : L2.St} {H : Hp} {R : It → Hp → Prop} {ι : List Addr} {env : Env} {h h1 h' : DH} {w : W} {turn : D → DH → Option (List W × DH)} {ws : List W}
    (sr : SR K ι H h) (eo : EnvOk K ι H env σ) (e : f env h = some (w, h1)) (ec : compW turn w h1 = some (ws, h'))
    (q : ∀ ι1 H1 J len (Rem : Nat → DH → List W → Prop), Stp ι H ι1 H1 → SR K ι1 H1 h1 → Rem 0 h1 ws → (∀ i hh rest ι' H', Rem i hh rest → Fx H1 H' → ι1 <+: ι' → SR K ι' H' hh → i ≤ len ∧ ((J.stop i H' ∧ rest = [] ∧ hh = h') ∨
      (J.go i H' ∧ ∃ d o hh1 rest', turn d hh = some (o, hh1) ∧ Rem (i + 1) hh1 rest' ∧ i + 1 ≤ len ∧ rest = o ++ rest' ∧ ∀ x H2, J.yld i H' x H2 → Same H' H2 ∧ Rep K H2 d x))) → R J H1) :
    tIu K f σ H R := by
  cases w with
  | d x =>
    simp only [compW, Option.bind_eq_some_iff] at ec
    obtain ⟨ds, e1, e2⟩ := ec
    refine .inl ⟨ι, env, h, x, h1, ds, sr, eo, e, e1, fun ι1 H1 J p1 s1 wk => ?_⟩
    refine q ι1 H1 J ds.length (fun i hh rest => i ≤ ds.length ∧ compD turn (ds.drop i) hh = some (rest, h')) p1 s1 ⟨Nat.zero_le _, by simpa using e2⟩ fun i hh rest ι' H' hr p _ s => rem_d wk i hh rest ι' H' hr p s
  | ref n =>
    simp only [compW] at ec
    split at ec
    · rename_i l hl
      refine .inr ⟨ι, env, h, n, h1, l, sr, eo, e, hl, fun ι1 H1 a p1 s1 ha => ?_⟩
      refine q ι1 H1 (Itl K a) l.length (fun i hh rest => i ≤ l.length ∧ compR turn n (l.length - i) i hh = some (rest, h')) p1 s1 ⟨Nat.zero_le _, by simpa using ec⟩ fun i hh rest ι' H' hr _ p s => rem_r ha i hh rest ι' H' hr p s
    · cases ec
theorem ownB_ok {own vars : List Nat} (h : ownB cf sc scope own vars = true) : BlkOk cf.N sc scope (ownOf cf own) ∧ (ownOf cf own).map (·.2) = own ∧ ∀ i ∈ vars, i ∈ own := by
  simp only [ownB, Bool.and_eq_true, decide_eq_true_eq, List.all_eq_true] at h
  exact ⟨blkOk_by h.1.1, h.1.2, h.2⟩
theorem foldedSet {i : Expr} (h : notSet i = true) : ∀ env v, foldedSetIterable i env v = pure v := by
  intro env v
  cases i <;> simp_all [notSet, foldedSetIterable] <;> rfl
/-- the reading of a comprehension -/
def tComp (K : KW) (Φ : Nat → FSpec) (G : Nat → D) (own : List Nat) (p : Pat) (it : E) (c : Es) (elt : E) : TE := tLc (tIu K (evE Φ G it)) (gP K p) (tT K (evIf Φ G c)) (tE K (evE Φ G elt)) own
theorem tComp_of {K : KW} {own : List Nat} {p : Pat} {it : E} {c : Es} {elt : E} (hv : ∀ i ∈ p.vars, i ∈ own) {σ : L2.St} {H : Hp} {Q : VK} (hq : tR K (evC Φ G (.comp own p it c elt)) σ H Q) : tComp K Φ G own p it c elt σ H Q := by
  obtain ⟨ι, env, h, ws, h', sr, eo, e, q⟩ := hq
  simp only [evC, Option.bind_eq_bind, Option.bind_eq_some_iff, Prod.exists] at e
  obtain ⟨w, h1, e1, ws', h2, e2, e3⟩ := e
  split at e3
  · rename_i hl
    cases e3
    refine comp_start sr eo e1 (turn := turn1 Φ G p c elt (wipeE env own)) e2 fun ι1 H1 J len Rem p1 s1 r0 hstep D0 hD => ?_
    have sm := same_upd (o := HO.lst []) hD
    have n1 : D0 ∉ ι1 := s1.notin hD
    refine comp_loop (len := len) (turn := turn1 Φ G p c elt (wipeE env own)) (h' := h') (acc0 := []) (rest0 := ws) (vs0 := []) Rem (cl_stp (ι1 := ι1) hD) (by simpa using hl) (fun i hh rest ι' H' hr pp ss => hstep i hh rest ι' H' hr pp.fx pp.pre ss)
      (fun d hh o hh1 ι' H' x vs acc Nx ht pp ss nn dd rr rx hll qq => body1 (vs1 := own) (cl_stp (ι1 := ι1) hD) hv ht pp ss (((eo.stp p1).stp pp).wipe own) nn dd rr rx hll (wipe_idem _ _) qq) r0 (.same sm) (s1.same sm) n1 upd_same .nil fun ι'' H'' vs' pp ss nn dd rr => ?_
    exact q.stp p1 ι'' H'' D0 vs' pp ss dd nn hD (by simpa using rr)
  · cases e3

/-- the turn of the first clause of two -/
def turn2 (Φ : Nat → FSpec) (G : Nat → D) (vs1 : List Nat) (p : Pat) (c : Es) (p1 : Pat) (it1 : E) (c1 : Es) (elt : E) (env : Env) : D → DH → Option (List W × DH) := fun x h => do
  let env1 ← p.bind x env
  let (b, h1) ← evIf Φ G c env1 h
  if b = true then do
    let (y, h2) ← evE Φ G it1 env1 h1
    compW (turn1 Φ G p1 c1 elt (wipeE env1 vs1)) y h2
  else some ([], h1)
def tComp2 (K : KW) (Φ : Nat → FSpec) (G : Nat → D) (own vs1 : List Nat) (p : Pat) (it : E) (c : Es) (p1 : Pat) (it1 : E) (c1 : Es) (elt : E) : TE :=
  tLc2 (tIu K (evE Φ G it)) (gP K p) (tT K (evIf Φ G c)) (tIu K (evE Φ G it1)) (gP K p1) (tT K (evIf Φ G c1)) (tE K (evE Φ G elt)) own vs1
theorem tComp2_of {K : KW} {own vs1 : List Nat} {p p1 : Pat} {it it1 : E} {c c1 : Es} {elt : E} (hv : ∀ i ∈ p.vars, i ∈ own) (hv1 : ∀ i ∈ p1.vars, i ∈ vs1) {σ : L2.St} {H : Hp} {Q : VK} (hq : tR K (evC Φ G (.comp2 own vs1 p it c p1 it1 c1 elt)) σ H Q) :
    tComp2 K Φ G own vs1 p it c p1 it1 c1 elt σ H Q := by
  obtain ⟨ι, env, h, ws, h', sr, eo, e, q⟩ := hq
  simp only [evC, Option.bind_eq_bind, Option.bind_eq_some_iff, Prod.exists] at e
  obtain ⟨w, h1, e1, ws', h2, e2, e3⟩ := e
  split at e3
  · rename_i hl
    cases e3
    refine comp_start sr eo e1 (turn := turn2 Φ G vs1 p c p1 it1 c1 elt (wipeE env own)) e2 fun ι1 H1 J len Rem q1 s1 r0 hstep D0 hD => ?_
    have sm := same_upd (o := HO.lst []) hD
    have n1 : D0 ∉ ι1 := s1.notin hD
    refine comp_loop (len := len) (turn := turn2 Φ G vs1 p c p1 it1 c1 elt (wipeE env own)) (h' := h') (acc0 := []) (rest0 := ws) (vs0 := []) Rem (cl_stp (ι1 := ι1) hD) (by simpa using hl) (fun i hh rest ι' H' hr pp ss => hstep i hh rest ι' H' hr pp.fx pp.pre ss)
      (fun d hh o hh1 ι' H' x vs acc Nx ht pp ss nn dd rr rx hll qq => ?_) r0 (.same sm) (s1.same sm) n1 upd_same .nil fun ι'' H'' vs' pp ss nn dd rr => ?_
    · -- the first clause's turn
      simp only [turn2, Option.bind_eq_bind, Option.bind_eq_some_iff, Prod.exists] at ht
      obtain ⟨env1, e1, b, h1, e2, e3⟩ := ht
      refine ⟨ι', wipeE env own, hh, d, env1, ss, ((eo.stp q1).stp pp).wipe own, rx, e1, fun σ' eo' hw => ⟨(hw own hv).trans (wipe_idem _ _), ι', env1, hh, b, h1, ss, eo', e2, fun ι3 H3 p3 s3 => ?_⟩⟩
      have d3 : H3 D0 = some (.lst vs) := p3.ext.oth D0 _ nn dd
      have n3 : D0 ∉ ι3 := fun z => by
        rcases p3.new D0 z with z | z
        · exact nn z
        · rw [dd] at z; cases z
      cases b with
      | true =>
        simp only [if_true, Option.bind_eq_some_iff, Prod.exists] at e3
        obtain ⟨y, h2, e4, e5⟩ := e3
        refine iteT (comp_start s3 (eo'.stp p3) e4 (turn := turn1 Φ G p1 c1 elt (wipeE env1 vs1)) e5 fun ι4 H4 J1 len1 Rem1 p4 s4 r4 hstep1 => ?_)
        have d4 : H4 D0 = some (.lst vs) := p4.ext.oth D0 _ n3 d3
        have n4 : D0 ∉ ι4 := fun z => by
          rcases p4.new D0 z with z | z
          · exact n3 z
          · rw [d3] at z; cases z
        have p04 : Stp ι1 H1 ι4 H4 := (pp.trans p3).trans p4
        have cl := cl_in (cl_stp (ι1 := ι1) hD) ι4 H4
        -- the inner loop, told from the outset (ι1, H1), where D0 was not
        refine comp_loop (len := len1) (turn := turn1 Φ G p1 c1 elt (wipeE env1 vs1)) (h' := hh1) (acc0 := acc) (rest0 := o) (vs0 := vs) (fun i hh rest => Rem1 i hh rest) cl hll ?_
          (fun d hh o hh1 ι' H' x vs acc Nx ht pp' ss' nn' dd' rr' rx' hll' qq' => ?_) r4 ⟨p04, .refl, List.prefix_refl _⟩ s4 n4 d4 ((rr.stp p3).stp p4) fun ι'' H'' vs' pp'' ss'' nn'' dd'' rr'' => qq ι'' H'' vs' pp''.1 ss'' nn'' dd'' rr''
        · exact fun i hh rest ι' H' hr pp ss => hstep1 i hh rest ι' H' hr pp.2.1 pp.2.2 ss
        · exact body1 (vs1 := vs1) cl hv1 ht pp' ss' (((eo'.stp p3).ext (p4.pre.trans pp'.2.2) (p4.fx.trans pp'.2.1)).wipe vs1) nn' dd' rr' rx' hll' (wipe_idem _ _) qq'
      | false =>
        simp only [Bool.false_eq_true, if_false, Option.some.injEq, Prod.mk.injEq] at e3
        obtain ⟨rfl, rfl⟩ := e3
        rw [List.append_nil] at qq
        exact iteF (qq ι3 H3 vs (pp.trans p3) s3 n3 d3 (rr.stp p3))
    · exact q.stp q1 ι'' H'' D0 vs' pp ss dd nn hD (by simpa using rr)
  · cases e3
end
end Sh

/-! expressions: what the match says is right -/
namespace Sh
open PySem PySem.Spec PyProof.Rows L2

theorem PI.u {X : Cx} {x tg : Expr} {Φ : Nat → FSpec} {G : Nat → D} {a : E} (h : Ok1 X x (evE Φ G a)) : PI X tg x (tIu X.KK (evE Φ G a)) := (pi_val h.pe).or (pi_cell h.pe)
theorem PI.d {X : Cx} {x tg : Expr} {Φ : Nat → FSpec} {G : Nat → D} {a : E} (h : PI X tg x (tI X.KK (evE Φ G a))) (hn : ∀ env hh n h', evE Φ G a env hh ≠ some (.ref n, h')) : PI X tg x (tIu X.KK (evE Φ G a)) :=
  h.imp fun σ H R q => by
    rcases q with q | ⟨ι, env, h, n, h', ws, sr, eo, e, _⟩
    · exact q
    · exact absurd e (hn _ _ _ _)
theorem rng_noref {Φ : Nat → FSpec} {G : Nat → D} {es : Es} : ∀ env hh n h', evE Φ G (.rng es) env hh ≠ some (.ref n, h') := by
  intro env hh n h' e
  simp only [evE, Option.bind_eq_bind, Option.bind_eq_some_iff, Prod.exists, Option.some.injEq, Prod.mk.injEq] at e
  obtain ⟨_, _, _, _, _, _, _, z, _⟩ := e
  cases z
theorem en_noref {Φ : Nat → FSpec} {G : Nat → D} {a : E} : ∀ env hh n h', evE Φ G (.enum a) env hh ≠ some (.ref n, h') := by
  intro env hh n h' e
  simp only [evE, Option.bind_eq_bind, Option.bind_eq_some_iff, Prod.exists] at e
  obtain ⟨_, _, _, e⟩ := e
  split at e
  · simp only [Option.map_eq_some_iff, Prod.mk.injEq] at e
    obtain ⟨_, _, z, _⟩ := e
    cases z
  · cases e
theorem zip_noref {Φ : Nat → FSpec} {G : Nat → D} {a b : E} : ∀ env hh n h', evE Φ G (.zip a b) env hh ≠ some (.ref n, h') := by
  intro env hh n h' e
  simp only [evE, Option.bind_eq_bind, Option.bind_eq_some_iff, Prod.exists] at e
  obtain ⟨_, _, _, _, _, _, e⟩ := e
  split at e
  · simp only [Option.bind_eq_some_iff, Option.some.injEq, Prod.mk.injEq] at e
    obtain ⟨_, _, _, _, z, _⟩ := e
    cases z
  · cases e
/-- gcd is the module's own, where it is used -/
def GOk (X : Cx) : Prop := X.mg "gcd" = some (.builtin "math.gcd")
theorem val_all {X : Cx} {x : Expr} {Φ : Nat → FSpec} {G : Nat → D} {a : E} (h : Ok1 X x (evE Φ G a)) : (isVal a = true → Ok1 X x (evE Φ G a)) ∧ (∀ tg, tgB a tg = true → PI X tg x (tIu X.KK (evE Φ G a))) := ⟨fun _ => h, fun _ _ => PI.u h⟩
mutual
theorem sE {cf : Cf} {Φ : Nat → FSpec} {G : Nat → D} {k : Nat} : ∀ (e : E) (sc : Scope) (X : Cx) (x : Expr), XOk cf Φ G sc k X → mE cf e sc x = true → (isVal e = true → Ok1 X x (evE Φ G e)) ∧ (∀ tg, tgB e tg = true → PI X tg x (tIu X.KK (evE Φ G e)))
  | .var i, sc, X, x, ok, h => by
    unfold mE at h
    split at h
    · simp only [Bool.and_eq_true, decide_eq_true_eq] at h
      exact val_all (s_var ok h.1.1 h.1.2 h.2)
    · cases h
  | .lit d, sc, X, x, ok, h => by
    unfold mE at h
    split at h
    · exact val_all (s_lit h)
    · cases h
  | .con g, sc, X, x, ok, h => by
    unfold mE at h
    split at h
    · simp only [Bool.and_eq_true, decide_eq_true_eq] at h
      exact val_all (s_con ok h.1.1 h.1.2 h.2)
    · cases h
  | .bin o a b, sc, X, x, ok, h => by
    unfold mE at h
    split at h
    · simp only [Bool.and_eq_true, decide_eq_true_eq] at h
      exact val_all (s_bin ok.room h.1.1.1.1 ((sE a sc X _ ok h.1.2).1 h.1.1.1.2) ((sE b sc X _ ok h.2).1 h.1.1.2))
    · simp only [Bool.and_eq_true, decide_eq_true_eq] at h
      exact val_all (s_cmp ok.room h.1.1.1.1.1 ((sE a sc X _ ok h.1.2).1 h.1.1.1.2) ((sE b sc X _ ok h.2).1 h.1.1.2) h.1.1.1.1.2)
    · cases h
  | .neg a, sc, X, x, ok, h => by
    unfold mE at h
    split at h
    · simp only [Bool.and_eq_true] at h
      exact val_all (s_neg ((sE a sc X _ ok h.2).1 h.1))
    · cases h
  | .not a, sc, X, x, ok, h => by
    unfold mE at h
    split at h
    · simp only [Bool.and_eq_true] at h
      exact val_all (s_not ((sE a sc X _ ok h.2).1 h.1.1) h.1.2)
    · cases h
  | .and a b, sc, X, x, ok, h => by
    unfold mE at h
    split at h
    · rename_i x y r p
      simp only [Bool.and_eq_true] at h
      refine val_all (s_and ((sE a sc X _ ok h.1.2).1 h.1.1.1.1) h.1.1.2 ?_)
      have h2 := h.2
      split at h2
      · simp only [Bool.and_eq_true] at h2
        exact .inl ⟨rfl, h2.1, (sE b sc X _ ok h2.2).1 h.1.1.1.2⟩
      · exact .inr ((sE b sc X _ ok h2).1 h.1.1.1.2)
    · cases h
  | .or a b, sc, X, x, ok, h => by
    unfold mE at h
    split at h
    · rename_i x y r p
      simp only [Bool.and_eq_true] at h
      refine val_all (s_or ((sE a sc X _ ok h.1.2).1 h.1.1.1.1) h.1.1.2 ?_)
      have h2 := h.2
      split at h2
      · simp only [Bool.and_eq_true] at h2
        exact .inl ⟨rfl, h2.1, (sE b sc X _ ok h2.2).1 h.1.1.1.2⟩
      · exact .inr ((sE b sc X _ ok h2).1 h.1.1.1.2)
    · cases h
  | .chain o p a b c, sc, X, x, ok, h => by
    unfold mE at h
    split at h
    · simp only [Bool.and_eq_true, decide_eq_true_eq] at h
      obtain ⟨⟨⟨⟨⟨⟨⟨⟨h1, h2⟩, h3⟩, h4⟩, h5⟩, h6⟩, h7⟩, h8⟩, h9⟩ := h
      exact val_all (s_chain ok.room h1 h2 ((sE a sc X _ ok h7).1 h4) ((sE b sc X _ ok h8).1 h5) ((sE c sc X _ ok h9).1 h6) h3)
    · cases h
  | .ite c a b, sc, X, x, ok, h => by
    unfold mE at h
    split at h
    · simp only [Bool.and_eq_true] at h
      obtain ⟨⟨⟨⟨⟨⟨h1, h2⟩, h3⟩, h4⟩, h5⟩, h6⟩, h7⟩ := h
      exact val_all (s_ite ((sE c sc X _ ok h5).1 h1) h4 ((sE a sc X _ ok h6).1 h2) ((sE b sc X _ ok h7).1 h3))
    · cases h
  | .tup es, sc, X, x, ok, h => by
    unfold mE at h
    split at h
    · simp only [Bool.and_eq_true] at h
      exact val_all (s_tup ((sEs es sc X ok).1 _ h.1 h.2))
    · cases h
  | .ix a b, sc, X, x, ok, h => by
    unfold mE at h
    split at h
    · simp only [Bool.and_eq_true] at h
      obtain ⟨⟨⟨⟨h1, h2⟩, h3⟩, h4⟩, h5⟩ := h
      exact val_all (s_ix ok.room ((sE a sc X _ ok h4).1 h2) ((sE b sc X _ ok h5).1 h3) h1)
    · cases h
  | .sl a lo hi, sc, X, x, ok, h => by
    unfold mE at h
    split at h
    · simp only [Bool.and_eq_true] at h
      obtain ⟨⟨⟨h1, h2⟩, h3⟩, h4⟩ := h
      exact val_all (s_sl ((sE a sc X _ ok h2).1 h1) ((sEs lo sc X ok).2.1 _ h3) ((sEs hi sc X ok).2.1 _ h4))
    · cases h
  | .rev a, sc, X, x, ok, h => by
    unfold mE at h
    split at h
    · simp only [Bool.and_eq_true] at h
      exact val_all (s_rev ((sE a sc X _ ok h.2).1 h.1))
    · cases h
  | .isi a t, sc, X, x, ok, h => by
    unfold mE at h
    split at h
    · simp only [Bool.and_eq_true, decide_eq_true_eq] at h
      obtain ⟨⟨⟨⟨⟨⟨h1, h2⟩, h3⟩, h4⟩, h5⟩, h6⟩, h7⟩ := h
      subst h1 h3
      exact val_all (s_isi ok h2 h4 ((sE a sc X _ ok h7).1 h5) h6)
    · cases h
  | .bif b es, sc, X, x, ok, h => by
    unfold mE at h
    split at h
    · simp only [Bool.and_eq_true, decide_eq_true_eq] at h
      obtain ⟨⟨⟨⟨h1, h0⟩, h2⟩, h3⟩, h4⟩ := h
      subst h1
      refine val_all (s_bif ok h2 (fun z => ok.gcd ?_) h3 ((sEs es sc X ok).1 _ h3 h4))
      subst z
      simpa using h0
    · cases h
  | .call g es, sc, X, x, ok, h => by
    unfold mE at h
    split at h
    · simp only [Bool.and_eq_true, decide_eq_true_eq] at h
      obtain ⟨⟨⟨⟨h1, h2⟩, h3⟩, h4⟩, h5⟩ := h
      refine val_all (s_call ok h1 h2 h3 h4 (fun z => ?_) ((sEs es sc X ok).1 _ h4 h5))
      subst z
      cases es with
      | nil => rfl
      | cons a r => simp [mEs] at h5
    · cases h
  | .mkl m c, sc, X, x, ok, h => by
    unfold mE at h
    have := pe_mkl (m := m) rfl (sC c sc X x ok h)
    refine val_all (.plain this ?_ ?_)
    · cases c <;> (unfold mC at h; split at h <;> first | cases h | (intro _; rfl))
    · intro op es p z
      subst z
      cases c <;> (unfold mC at h; cases h)
  | .rng es, sc, X, x, ok, h => by
    refine ⟨fun z => (by cases z), fun tg _ => ?_⟩
    unfold mE at h
    split at h
    · rename_i f p xs pos
      simp only [Bool.and_eq_true, decide_eq_true_eq] at h
      obtain ⟨⟨⟨⟨h1, h2⟩, h3⟩, h4⟩, h5, h6⟩ := h
      subst h1
      cases es with
      | nil =>
        simp only [mEs, List.isEmpty_iff] at h4
        subst h4
        simp at h5
      | cons a r =>
        cases xs with
        | nil => simp at h5
        | cons x xs =>
          simp only [mEs, Bool.and_eq_true] at h4
          simp only [noStar, Bool.and_eq_true] at h3
          cases r with
          | nil =>
            have h7 := h4.2
            simp only [mEs, List.isEmpty_iff] at h7
            subst h7
            exact PI.d (pi_r1 ok h2 ((sE a sc X _ ok h4.1.2).1 h4.1.1) h3.1) rng_noref
          | cons b r =>
            cases xs with
            | nil => have h7 := h4.2; simp [mEs] at h7
            | cons y xs =>
              have h7 := h4.2
              simp only [mEs, Bool.and_eq_true] at h7
              have h8 : xs = [] := by
                cases xs with
                | nil => rfl
                | cons _ _ => simp at h6
              subst h8
              cases r with
              | nil =>
                have h9 := h3.2
                simp only [noStar, Bool.and_eq_true] at h9
                exact PI.d (pi_r2 ok h2 ((sE a sc X _ ok h4.1.2).1 h4.1.1) ((sE b sc X _ ok h7.1.2).1 h7.1.1) h3.1 h9.1) rng_noref
              | cons _ _ => have h9 := h7.2; simp [mEs] at h9
    · cases h
  | .enum a, sc, X, x, ok, h => by
    refine ⟨fun z => (by cases z), fun tg ht => ?_⟩
    unfold mE at h
    split at h
    · simp only [Bool.and_eq_true, decide_eq_true_eq] at h
      obtain ⟨⟨⟨⟨rfl, h2⟩, h3⟩, h4⟩, h5⟩ := h
      cases tg <;> first | (simp only [tgB, Bool.false_eq_true] at ht; done) | skip
      exact PI.d (pi_enD ok h2 ((sE a sc X _ ok h5).1 h4) h3) en_noref
    · cases h
  | .zip a b, sc, X, x, ok, h => by
    refine ⟨fun z => (by cases z), fun tg ht => ?_⟩
    unfold mE at h
    split at h
    · simp only [Bool.and_eq_true, decide_eq_true_eq] at h
      obtain ⟨⟨⟨⟨⟨⟨⟨rfl, h2⟩, h3⟩, h4⟩, h5⟩, h6⟩, h7⟩, h8⟩ := h
      cases tg <;> first | (simp only [tgB, Bool.false_eq_true] at ht; done) | skip
      exact PI.d (pi_zD ok h2 ((sE a sc X _ ok h7).1 h5) ((sE b sc X _ ok h8).1 h6) h3 h4) zip_noref
    · cases h
  | .items a, sc, X, x, ok, h => by unfold mE at h; cases h
  | .trng es, sc, X, x, ok, h => by
    unfold mE at h
    split at h
    · rename_i f p g p2 xs pos2 pos
      simp only [Bool.and_eq_true, decide_eq_true_eq] at h
      obtain ⟨⟨⟨⟨⟨⟨rfl, h2⟩, rfl⟩, h3⟩, n3⟩, h4⟩, h5, h6⟩ := h
      refine val_all ?_
      cases es with
      | nil =>
        simp only [mEs, List.isEmpty_iff] at h4
        subst h4
        simp at h5
      | cons a r =>
        cases xs with
        | nil => simp at h5
        | cons x xs =>
          simp only [mEs, Bool.and_eq_true] at h4
          simp only [noStar, Bool.and_eq_true] at n3
          cases r with
          | nil =>
            have h7 := h4.2
            simp only [mEs, List.isEmpty_iff] at h7
            subst h7
            exact s_trng1 ok h2 h3 ((sE a sc X _ ok h4.1.2).1 h4.1.1) n3.1
          | cons b r =>
            cases xs with
            | nil => have h7 := h4.2; simp [mEs] at h7
            | cons y xs =>
              have h7 := h4.2
              simp only [mEs, Bool.and_eq_true] at h7
              have h8 : xs = [] := by
                cases xs with
                | nil => rfl
                | cons _ _ => simp at h6
              subst h8
              cases r with
              | nil =>
                have h9 := n3.2
                simp only [noStar, Bool.and_eq_true] at h9
                exact s_trng2 ok h2 h3 ((sE a sc X _ ok h4.1.2).1 h4.1.1) ((sE b sc X _ ok h7.1.2).1 h7.1.1) n3.1 h9.1
              | cons _ _ => have h9 := h7.2; simp [mEs] at h9
    · cases h
  | .join z a, sc, X, x, ok, h => by
    unfold mE at h
    split at h
    · simp only [Bool.and_eq_true, decide_eq_true_eq] at h
      obtain ⟨⟨⟨⟨⟨⟨rfl, h2⟩, rfl⟩, h3⟩, h4⟩, h5⟩, h6⟩ := h
      exact val_all (s_join ((sE a sc X _ ok h6).1 h5) h2 h4 h3)
    · cases h
  | .idx a b, sc, X, x, ok, h => by
    unfold mE at h
    split at h
    · simp only [Bool.and_eq_true, decide_eq_true_eq] at h
      obtain ⟨⟨⟨⟨⟨⟨⟨rfl, h2⟩, h3⟩, h4⟩, h5⟩, h6⟩, h7⟩, h8⟩ := h
      exact val_all (s_idx ok.room ((sE a sc X _ ok h7).1 h5) ((sE b sc X _ ok h8).1 h6) h3 h4 h2)
    · cases h
  | .cnt a b, sc, X, x, ok, h => by unfold mE at h; cases h
  | .get a b c, sc, X, x, ok, h => by
    unfold mE at h
    split at h
    · rename_i x m apos y zs cpos
      simp only [Bool.and_eq_true, decide_eq_true_eq] at h
      obtain ⟨⟨⟨⟨⟨⟨⟨⟨⟨⟨rfl, h2⟩, h3⟩, h4⟩, h5⟩, h6⟩, h7⟩, h8⟩, h9⟩, h10⟩, h11⟩ := h
      refine val_all ?_
      cases c with
      | nil =>
        simp only [mEs, List.isEmpty_iff] at h10
        subst h10
        exact s_get1 ok.room ((sE a sc X _ ok h8).1 h6) ((sE b sc X _ ok h9).1 h7) h3 h4 h2
      | cons c r =>
        cases zs with
        | nil => simp [mEs] at h10
        | cons z zs =>
          cases zs with
          | cons _ _ => simp at h11
          | nil =>
            simp only [mEs, Bool.and_eq_true] at h10
            simp only [noStar, Bool.and_eq_true] at h5
            cases r with
            | cons _ _ => have h12 := h10.2; simp [mEs] at h12
            | nil => exact s_get2 ok.room ((sE a sc X _ ok h8).1 h6) ((sE b sc X _ ok h9).1 h7) ((sE c sc X _ ok h10.1.2).1 h10.1.1) h3 h4 h5.1 h2
    · cases h
  | .pop i es, sc, X, x, ok, h => by
    unfold mE at h
    split at h
    · rename_i n px m apos xs cpos
      simp only [Bool.and_eq_true, decide_eq_true_eq] at h
      obtain ⟨⟨⟨⟨⟨⟨⟨rfl, h2⟩, h3⟩, h4⟩, h5⟩, h6⟩, h7⟩, h8⟩ := h
      refine val_all ?_
      cases es with
      | nil =>
        simp only [mEs, List.isEmpty_iff] at h7
        subst h7
        exact s_pop0 ok h3 h4 h5 h2
      | cons a r =>
        cases xs with
        | nil => simp [mEs] at h7
        | cons x xs =>
          cases xs with
          | cons _ _ => simp at h8
          | nil =>
            simp only [mEs, Bool.and_eq_true] at h7
            simp only [noStar, Bool.and_eq_true] at h6
            cases r with
            | cons _ _ => have h12 := h7.2; simp [mEs] at h12
            | nil => exact s_pop1 ok h3 h4 h5 h2 ((sE a sc X _ ok h7.1.2).1 h7.1.1) h6.1
    · cases h
  | .lset a, sc, X, x, ok, h => by
    unfold mE at h
    split at h
    · simp only [Bool.and_eq_true, decide_eq_true_eq] at h
      obtain ⟨⟨⟨⟨⟨⟨rfl, h2⟩, rfl⟩, h3⟩, h4⟩, h5⟩, h6⟩ := h
      exact val_all (s_lset ok h2 h3 ((sE a sc X _ ok h6).1 h5) h4)
    · cases h
  | .sset a, sc, X, x, ok, h => by unfold mE at h; cases h
  | .emp n a, sc, X, x, ok, h => by unfold mE at h; cases h
  | .mkd m c d, sc, X, x, ok, h => by
    unfold mE at h
    have := pe_mkd (m := m) (sDC d c sc X x ok h)
    refine val_all (.plain this ?_ ?_)
    · cases d <;> (unfold mD at h; first | cases h | (split at h <;> first | cases h | (intro _; rfl)))
    · intro op es p z
      subst z
      cases d <;> (unfold mD at h; cases h)
  | .ksrt p q a, sc, X, x, ok, h => by unfold mE at h; cases h
theorem sEs {cf : Cf} {Φ : Nat → FSpec} {G : Nat → D} {k : Nat} : ∀ (es : Es) (sc : Scope) (X : Cx), XOk cf Φ G sc k X →
    (∀ xs, noStar xs = true → mEs cf es sc xs = true → PA X xs (tA X.KK (evEs Φ G es))) ∧ (∀ o, mPart cf es sc o = true → PO X o (tO X.KK (evPart Φ G es))) ∧ (∀ xs, mIf cf es sc xs = true → PTs X xs (tT X.KK (evIf Φ G es)))
  | .nil, sc, X, ok => by
    refine ⟨fun xs _ h => ?_, fun o h => ?_, fun xs h => ?_⟩
    · simp only [mEs, List.isEmpty_iff] at h
      subst h; exact s_nil
    · cases o with
      | none => exact s_part0
      | some x => simp [mPart] at h
    · simp only [mIf, List.isEmpty_iff] at h
      subst h; exact s_if0
  | .cons a r, sc, X, ok => by
    refine ⟨fun xs hs h => ?_, fun o h => ?_, fun xs h => ?_⟩
    · cases xs with
      | nil => simp [mEs] at h
      | cons x xs =>
        simp only [mEs, Bool.and_eq_true] at h
        simp only [noStar, Bool.and_eq_true] at hs
        exact s_cons ((sE a sc X _ ok h.1.2).1 h.1.1) ((sEs r sc X ok).1 _ hs.2 h.2) hs.1
    · cases o with
      | none => simp [mPart] at h
      | some x =>
        simp only [mPart, Bool.and_eq_true] at h
        exact s_part1 ((sE a sc X _ ok h.2).1 h.1)
    · unfold mIf at h
      split at h
      · simp only [Bool.and_eq_true] at h
        exact s_if1 ((sE a sc X _ ok h.2).1 h.1.1) h.1.2
      · cases h
theorem sC {cf : Cf} {Φ : Nat → FSpec} {G : Nat → D} {k : Nat} : ∀ (c : C) (sc : Scope) (X : Cx) (x : Expr), XOk cf Φ G sc k X → mC cf c sc x = true → PE X x (tR X.KK (evC Φ G c))
  | .disp es, sc, X, x, ok, h => by
    unfold mC at h
    split at h
    · simp only [Bool.and_eq_true] at h
      exact s_disp ((sEs es sc X ok).1 _ h.1 h.2)
    · cases h
  | .ofl a, sc, X, x, ok, h => by
    unfold mC at h
    split at h
    · simp only [Bool.and_eq_true, decide_eq_true_eq] at h
      obtain ⟨⟨⟨⟨h1, h2⟩, h3⟩, hok⟩, h4⟩ := h
      subst h1
      by_cases hv : isVal a = true
      · exact s_ofl ok h2 ((sE a sc X _ ok h4).1 hv) h3
      · match a, h4, hv, hok with
        | .rng .nil, q4, _, _ =>
          unfold mE at q4
          split at q4
          · simp only [Bool.and_eq_true, decide_eq_true_eq, mEs, List.isEmpty_iff] at q4
            obtain ⟨⟨_, q4⟩, h5, h6⟩ := q4
            subst q4
            simp at h5
          · cases q4
        | .rng (.cons a .nil), q4, _, _ =>
          unfold mE at q4
          split at q4
          · rename_i f p2 xs pos2
            simp only [Bool.and_eq_true, decide_eq_true_eq] at q4
            obtain ⟨⟨⟨⟨h1, h2'⟩, n3⟩, q4⟩, h5, h6⟩ := q4
            subst h1
            cases xs with
            | nil => simp at h5
            | cons x xs =>
              simp only [mEs, Bool.and_eq_true, List.isEmpty_iff] at q4
              simp only [noStar, Bool.and_eq_true] at n3
              obtain ⟨q4, rfl⟩ := q4
              exact s_oflr1 ok h2 h2' ((sE a sc X _ ok q4.2).1 q4.1) n3.1
          · cases q4
        | .rng (.cons a (.cons b .nil)), q4, _, _ =>
          unfold mE at q4
          split at q4
          · rename_i f p2 xs pos2
            simp only [Bool.and_eq_true, decide_eq_true_eq] at q4
            obtain ⟨⟨⟨⟨h1, h2'⟩, n3⟩, q4⟩, h5, h6⟩ := q4
            subst h1
            cases xs with
            | nil => simp at h5
            | cons x xs =>
              cases xs with
              | nil => simp [mEs] at q4
              | cons y xs =>
                simp only [mEs, Bool.and_eq_true, List.isEmpty_iff] at q4
                simp only [noStar, Bool.and_eq_true] at n3
                obtain ⟨q4, h4', rfl⟩ := q4
                exact s_oflr2 ok h2 h2' ((sE a sc X _ ok q4.2).1 q4.1) ((sE b sc X _ ok h4'.2).1 h4'.1) n3.1 n3.2.1
          · cases q4
        | .rng (.cons a (.cons b (.cons c r))), q4, _, _ =>
          unfold mE at q4
          split at q4
          · rename_i f p2 xs pos2
            simp only [Bool.and_eq_true, decide_eq_true_eq] at q4
            obtain ⟨⟨⟨⟨h1, h2'⟩, n3⟩, q4⟩, h5, h6⟩ := q4
            match xs, q4, h6 with
            | x :: y :: z :: w, _, h6 => simp at h6
            | [x, y], q4, _ => simp [mEs] at q4
            | [x], q4, _ => simp [mEs] at q4
            | [], q4, _ => simp [mEs] at q4
          · cases q4
        | .enum _, _, _, hok => simp [oflOk] at hok
        | .items _, _, _, hok => simp [oflOk] at hok
        | .zip a b, h4, _, _ =>
          unfold mE at h4
          split at h4
          · simp only [Bool.and_eq_true, decide_eq_true_eq] at h4
            obtain ⟨⟨⟨⟨⟨⟨⟨rfl, g2⟩, g3⟩, g4⟩, g5⟩, g6⟩, g7⟩, g8⟩ := h4
            exact s_oflz ok h2 g2 ((sE a sc X _ ok g7).1 g5) ((sE b sc X _ ok g8).1 g6) g3 g4
          · cases h4
        | .trng _, _, hv, _ => exact absurd rfl hv
        | .join _ _, _, hv, _ => exact absurd rfl hv
        | .idx _ _, _, hv, _ => exact absurd rfl hv
        | .cnt _ _, _, hv, _ => exact absurd rfl hv
        | .get _ _ _, _, hv, _ => exact absurd rfl hv
        | .pop _ _, _, hv, _ => exact absurd rfl hv
        | .lset _, _, hv, _ => exact absurd rfl hv
        | .sset _, _, hv, _ => exact absurd rfl hv
        | .emp _ _, _, hv, _ => exact absurd rfl hv
        | .mkd _ _ _, _, hv, _ => exact absurd rfl hv
        | .ksrt _ _ _, _, hv, _ => exact absurd rfl hv
        | .var _, _, hv, _ => exact absurd rfl hv
        | .lit _, _, hv, _ => exact absurd rfl hv
        | .con _, _, hv, _ => exact absurd rfl hv
        | .bin _ _ _, _, hv, _ => exact absurd rfl hv
        | .neg _, _, hv, _ => exact absurd rfl hv
        | .not _, _, hv, _ => exact absurd rfl hv
        | .and _ _, _, hv, _ => exact absurd rfl hv
        | .or _ _, _, hv, _ => exact absurd rfl hv
        | .chain _ _ _ _ _, _, hv, _ => exact absurd rfl hv
        | .ite _ _ _, _, hv, _ => exact absurd rfl hv
        | .tup _, _, hv, _ => exact absurd rfl hv
        | .ix _ _, _, hv, _ => exact absurd rfl hv
        | .sl _ _ _, _, hv, _ => exact absurd rfl hv
        | .rev _, _, hv, _ => exact absurd rfl hv
        | .isi _ _, _, hv, _ => exact absurd rfl hv
        | .bif _ _, _, hv, _ => exact absurd rfl hv
        | .call _ _, _, hv, _ => exact absurd rfl hv
        | .mkl _ _, _, hv, _ => exact absurd rfl hv
    · cases h
  | .comp own p it c elt, sc, X, x, ok, h => by
    unfold mC at h
    split at h
    · rename_i elt' tg iter ifs scope pos
      simp only [Bool.and_eq_true] at h
      obtain ⟨⟨⟨⟨⟨⟨⟨h1, h2⟩, h3⟩, h4⟩, h5⟩, h6⟩, h7⟩, h8⟩ := h
      obtain ⟨b1, b2, b3⟩ := ownB_ok h2
      have blk := fun s H C cl fp => ok.blk (scope := scope) s H C cl fp
      refine PE.imp (t := tComp X.KK Φ G own p it c elt) ?_ fun σ H Q q => tComp_of b3 q
      unfold tComp
      rw [← b2]
      refine pe_lc ok.calm (by rw [ok.N]; exact ok.nd) ((sE it sc X _ ok h3).2 tg h5) (by rw [ok.N, ok.sc]; exact b1)
        (fun s H C cl fp => pg_pat (blk s H C cl fp).1 (blk s H C cl fp).2 h4) (fun s H C cl fp => (sEs c (relS scope sc) _ (blk s H C cl fp).1).2.2 _ h6)
        (fun s H C cl fp => ((sE elt (relS scope sc) _ _ (blk s H C cl fp).1 h8).1 h7).pe) (foldedSet h1 _)
    · cases h
  | .comp2 own vs1 p it c p1 it1 c1 elt, sc, X, x, ok, h => by
    unfold mC at h
    split at h
    · rename_i elt' tg iter ifs tg1 iter1 ifs1 scope pos
      simp only [Bool.and_eq_true, List.all_eq_true, decide_eq_true_eq] at h
      obtain ⟨⟨⟨⟨⟨⟨⟨⟨⟨⟨⟨⟨⟨⟨h1, h1'⟩, h2⟩, g1⟩, g2⟩, h3⟩, h4⟩, h5⟩, h6⟩, i3⟩, i4⟩, i5⟩, i6⟩, h7⟩, h8⟩ := h
      obtain ⟨b1, b2, b3⟩ := ownB_ok h2
      have blk := fun s H C cl fp => ok.blk (scope := scope) s H C cl fp
      refine PE.imp (t := tComp2 X.KK Φ G own vs1 p it c p1 it1 c1 elt) ?_ fun σ H Q q => tComp2_of b3 g1 q
      unfold tComp2
      rw [show own = (ownOf cf own).map (·.2) from b2.symm] at g2 ⊢
      refine pe_lc2 ok.calm (by rw [ok.N]; exact ok.nd) ((sE it sc X _ ok h3).2 tg h5) (by rw [ok.N, ok.sc]; exact b1) g2
        (fun s H C cl fp => pg_pat (blk s H C cl fp).1 (blk s H C cl fp).2 h4) (fun s H C cl fp => (sEs c (relS scope sc) _ (blk s H C cl fp).1).2.2 _ h6)
        (fun s H C cl fp => (sE it1 (relS scope sc) _ _ (blk s H C cl fp).1 i3).2 tg1 i5)
        (fun s H C cl fp => pg_pat (blk s H C cl fp).1 (blk s H C cl fp).2 i4) (fun s H C cl fp => (sEs c1 (relS scope sc) _ (blk s H C cl fp).1).2.2 _ i6)
        (fun s H C cl fp => ((sE elt (relS scope sc) _ _ (blk s H C cl fp).1 h8).1 h7).pe) (foldedSet h1 _) (foldedSet h1')
    · cases h
  | .rep a b, sc, X, x, ok, h => by
    unfold mC at h
    split at h
    · simp only [Bool.and_eq_true] at h
      obtain ⟨⟨⟨h1, h2⟩, h3⟩, h4⟩ := h
      exact s_rep ((sE a sc X _ ok h3).1 h1) ((sE b sc X _ ok h4).1 h2)
    · cases h
theorem sDC {cf : Cf} {Φ : Nat → FSpec} {G : Nat → D} {k : Nat} : ∀ (d : DC) (c : Bool) (sc : Scope) (X : Cx) (x : Expr), XOk cf Φ G sc k X → mD cf d sc x = true → PE X x (tRD X.KK c (evD Φ G d))
  | .disp ks vs, c, sc, X, x, ok, h => by
    unfold mD at h
    split at h
    · rename_i kx vx pos
      split at h
      · simp only [Bool.and_eq_true, List.isEmpty_iff] at h
        obtain ⟨⟨h1, h2⟩, rfl⟩ := h
        cases ks with
        | cons _ _ => cases h1
        | nil =>
          cases vs with
          | cons _ _ => cases h2
          | nil => exact s_dd0
      · rename_i x
        simp only [Bool.and_eq_true, decide_eq_true_eq] at h
        obtain ⟨⟨h1, h2⟩, h3⟩ := h
        match vx, h3 with
        | [y], _ =>
          cases ks with
          | nil => simp [mEs] at h1
          | cons a r =>
            cases vs with
            | nil => simp [mEs] at h2
            | cons b r2 =>
              simp only [mEs, Bool.and_eq_true] at h1 h2
              cases r with
              | cons _ _ => have h12 := h1.2; simp [mEs] at h12
              | nil =>
                cases r2 with
                | cons _ _ => have h12 := h2.2; simp [mEs] at h12
                | nil => exact s_dd1 (by have := ok.room.un; omega) ((sE a sc X _ ok h1.1.2).1 h1.1.1) ((sE b sc X _ ok h2.1.2).1 h2.1.1)
      · cases h
    · cases h
  | .comp own p it c ky v, _, sc, X, x, ok, h => by unfold mD at h; cases h
  | .ofp a, _, sc, X, x, ok, h => by unfold mD at h; cases h
end
end Sh

/-! statements: what the match says, and that the evaluator is sound -/
namespace Sh
open PySem PySem.Spec PyProof.Rows L2

def notComp : Expr → Bool
  | .ListComp .. => false
  | .SetComp .. => false
  | .DictComp .. => false
  | _ => true
def notTup : Expr → Bool
  | .Tuple .. => false
  | _ => true
def isNameOf (e : Expr) (x : Str) : Bool := match e with
  | .Name n _ => decide (n = x)
  | _ => false
/-- a comprehension whose store is exchanged with the letting go of its names -/
def swB (sc scope : Scope) (y : Str) (py pos : Pos) : Bool := decide (sc.names.lookup y = some .local) && (py.line == pos.line) && !(scope.names.any fun (n, k) => n == y && (k == .local || k == .cell))
def namesB (cf : Cf) (sc : Scope) : List Nat → List Expr → Bool := patB.go cf sc
def allLoc (sc : Scope) : List Expr → Bool
  | [] => true
  | .Name x _ :: es => decide (sc.names.lookup x = some .local) && allLoc sc es
  | _ => false
/-- which names are stored in exchange (pairs and triples of plain names), by the scope -/
def swK (sc : Scope) (ts vs : List Expr) : Option (Option (List Str)) :=
  if (!(ts.length == 2 || ts.length == 3) || vs.length != ts.length || sc.kind != .function) = true then some none else
  if (vs.any fun | .Starred .. => true | _ => false) = true then some none else
  let line := (ts.head?.map (·.pos.line)).getD 0
  let names := ts.filterMap fun
    | .Name id pos => if sc.names.lookup id == some .local && pos.line == line then some id else none
    | _ => none
  if (names.length != ts.length || names.eraseDups.length != names.length) = true then some none else
  if vs.all (foldedForSure 8) = true then some none else
  if vs.all (constantsAlone 8) = true then none else some (some names)
def parB (cf : Cf) (sc : Scope) (is : List Nat) (ts vs : List Expr) : Bool := match swK sc ts vs with
  | some none => patB.go cf sc is ts
  | some (some ns) => match is, ts, ns with
    | [i, j], [.Name n _, .Name m _], [n', m'] => decide (n' = n) && decide (m' = m) && decide (cf.N[i]? = some n) && decide (cf.N[j]? = some m) && decide (i ≠ j) && decide (sc.names.lookup n = some .local) && decide (sc.names.lookup m = some .local)
    | [i, j, l], [.Name n _, .Name m _, .Name r _], [n', m', r'] => decide (n' = n) && decide (m' = m) && decide (r' = r) && decide (cf.N[i]? = some n) && decide (cf.N[j]? = some m) && decide (cf.N[l]? = some r) && decide (i ≠ j) && decide (i ≠ l) && decide (j ≠ l) &&
      decide (sc.names.lookup n = some .local) && decide (sc.names.lookup m = some .local) && decide (sc.names.lookup r = some .local)
    | _, _, _ => false
  | none => false
def lcOr : Expr → Bool
  | .ListComp .. => true
  | v => notComp v
def tgtB (cf : Cf) (sc : Scope) : Tgt → Expr → Expr → Bool
  | .pat (.nm i), .Name x py, v => decide (cf.N[i]? = some x) && locB sc x && lcOr v
  | .pat p, tg, v => patB cf sc p tg && notTup v && (match tg with | .Tuple .. => true | _ => false)
  | .sub a b, .Subscript x y _, _ => isVal a && isVal b && notSlice y && mE cf a sc x && mE cf b sc y
  | .two a b a' b', .Tuple [.Subscript x y _, .Subscript x' y' _] _ _, _ => isVal a && isVal b && notSlice y && mE cf a sc x && mE cf b sc y && isVal a' && isVal b' && notSlice y' && mE cf a' sc x' && mE cf b' sc y'
  | _, _, _ => false
mutual
def mS (cf : Cf) (sc : Scope) : S → Stmt → Bool
  | .asg t e, s => match s with
    | .Assign [tg] v _ => isVal e && tgtB cf sc t tg v && mE cf e sc v
    | _ => false
  | .par is es, s => match s with
    | .Assign [.Tuple ts _ _] (.Tuple vs _ _) _ => noStar vs && parB cf sc is ts vs && mEs cf es sc vs && decide (ts.length = vs.length) && decide (is.length ≤ 100)
    | _ => false
  | .ext i e, s => match s with
    | .AugAssign (.Name x _) .Add v _ => decide (cf.N[i]? = some x) && locB sc x && isVal e && mE cf e sc v
    | _ => false
  | .app i e, s => match s with
    | .Expr (.Call (.Attribute (.Name x _) m apos) [v] [] cpos) _ => decide (cf.N[i]? = some x) && visB sc x && okN x && decide (m = "append") && (apos.endLine == cpos.line) && notStar v && isVal e && mE cf e sc v
    | _ => false
  | .expr e, s => match s with
    | .Expr v _ => isVal e && notComp v && mE cf e sc v
    | _ => false
  | .ite c a b, s => match s with
    | .If t x y _ => isVal c && tst t && mE cf c sc t && mSs cf sc a x && mSs cf sc b y
    | _ => false
  | .for p it body, s => match s with
    | .For tg iter b [] _ => notSet iter && patB cf sc p tg && tgB it tg && mE cf it sc iter && mSs cf sc body b
    | _ => false
  | .while c body, s => match s with
    | .While t b [] _ => isVal c && tst t && mE cf c sc t && mSs cf sc body b
    | _ => false
  | .ret e, s => match s with
    | .Return (some v) _ => isVal e && mE cf e sc v
    | _ => false
  | .brk, s => match s with
    | .Break _ => true
    | _ => false
  | .cont, s => match s with
    | .Continue _ => true
    | _ => false
  | .pass, s => match s with
    | .Pass _ => true
    | _ => false
  | .nev, _ => true
  | .fgt _, _ => false
  | .frz _, _ => false
  | .frzi _, _ => false
  | .upd _ _, _ => false
def mSs (cf : Cf) (sc : Scope) : Ss → List Stmt → Bool
  | .nil, ss => ss.isEmpty
  | .cons (.fgt _) r, ss => mSs cf sc r ss
  | .cons (.frz _) r, ss => mSs cf sc r ss
  | .cons (.frzi _) r, ss => mSs cf sc r ss
  | .cons s r, ss => match ss with
    | st :: rest => mS cf sc s st && mSs cf sc r rest
    | [] => false
end
/-- what is wanted behind a statement -/
def PostS (K : KW) (ι : List Addr) (H : Hp) (o : Out) (D : Ends) : Prop := match o with
  | .nx env h => ∀ ι' H' σ, Stp ι H ι' H' → SR K ι' H' h → EnvOk K ι' H' env σ → D.nx σ H'
  | .bk env h => ∀ ι' H' σ, Stp ι H ι' H' → SR K ι' H' h → EnvOk K ι' H' env σ → D.bk σ H'
  | .ct env h => ∀ ι' H' σ, Stp ι H ι' H' → SR K ι' H' h → EnvOk K ι' H' env σ → D.ct σ H'
  | .rt w h => ∀ ι' H' v, Stp ι H ι' H' → SR K ι' H' h → RepW K ι' H' w v → D.rt v H'
def tS (K : KW) (f : Env → DH → Option Out) : TS := fun D σ H => ∃ ι env h o, SR K ι H h ∧ EnvOk K ι H env σ ∧ f env h = some o ∧ PostS K ι H o D
section
variable {K : KW} {ι ι' : List Addr} {H H' : Hp} {o : Out} {D D' : Ends}
theorem PostS.stp (p : PostS K ι H o D) (a : Stp ι H ι' H') : PostS K ι' H' o D := by
  cases o <;> exact fun ι2 H2 x b => p ι2 H2 x (a.trans b)
end
section
variable {X : Cx} {x y z tg : Expr} {pos : Pos} {cf : Cf} {Φ : Nat → FSpec} {G : Nat → D} {sc : Scope} {k N : Nat} {st : Stmt} {rest : List Stmt}
theorem PS.imp {t t' : TS} (h : PS X st t) (i : ∀ D σ H, t' D σ H → t D σ H) : PS X st t' := ⟨fun pins s σ H D I q => h.run pins s σ H D I (i D σ H q)⟩
theorem PSs.imp {t t' : TS} (h : PSs X rest t) (i : ∀ D σ H, t' D σ H → t D σ H) : PSs X rest t' := ⟨fun pins s σ H D I q => h.run pins s σ H D I (i D σ H q)⟩

/-! ### blocks -/
theorem b_nil : PSs X [] (tS X.KK (evSs Φ G N .nil)) := PSs.imp pss_nil fun D σ H q => by
  obtain ⟨ι, env, h, o, sr, eo, e, q⟩ := q
  simp only [evSs, Option.some.injEq] at e
  subst e
  exact q ι H σ .refl sr eo
theorem b_cons {s : S} {r : Ss} (h1 : PS X st (tS X.KK (evS Φ G N s))) (h2 : PSs X rest (tS X.KK (evSs Φ G N r))) : PSs X (st :: rest) (tS X.KK (evSs Φ G N (.cons s r))) := PSs.imp (pss_cons h1 h2) fun D σ H q => by
  obtain ⟨ι, env, h, o, sr, eo, e, q⟩ := q
  simp only [evSs, Option.bind_eq_bind, Option.bind_eq_some_iff] at e
  obtain ⟨o1, e1, e2⟩ := e
  refine ⟨ι, env, h, o1, sr, eo, e1, ?_⟩
  split at e2
  · exact fun ι1 H1 σ1 p1 s1 eo1 => ⟨ι1, _, _, o, s1, eo1, e2, q.stp p1⟩
  · cases e2
    cases o with
    | nx env1 h1 => rename_i hn; exact absurd rfl (hn env1 h1)
    | rt w h => exact q
    | bk env h => exact q
    | ct env h => exact q
theorem unset_ok {K : KW} {ι : List Addr} {H : Hp} {σ : L2.St} : ∀ {vs : List Nat} {env : Env}, EnvOk K ι H env σ → EnvOk K ι H (unsetE env vs) σ
  | [], _, h => h
  | v :: vs, env, h => unset_ok (vs := vs) ⟨by simp [h.len], fun i w hi => by
    by_cases hv : v = i
    · subst hv
      by_cases hl : v < env.length
      · rw [List.getElem?_set_self hl] at hi; cases hi
      · rw [List.getElem?_eq_none (by simpa using hl)] at hi; cases hi
    · rw [List.getElem?_set_ne hv] at hi
      exact h.val i w hi⟩
theorem b_fgt {vs : List Nat} {r : Ss} (h2 : PSs X rest (tS X.KK (evSs Φ G N r))) : PSs X rest (tS X.KK (evSs Φ G N (.cons (.fgt vs) r))) := PSs.imp h2 fun D σ H q => by
  obtain ⟨ι, env, h, o, sr, eo, e, q⟩ := q
  simp only [evSs, evS, Option.bind_eq_bind, Option.bind_some] at e
  exact ⟨ι, _, h, o, sr, unset_ok eo, e, q⟩
/-- a cell that stands is told anew -/
theorem SR.recell {K : KW} {ι : List Addr} {H : Hp} {h : DH} (s : SR K ι H h) {n : Nat} {a : Addr} {c : Cell} (ha : ι[n]? = some a) (hc : CellOk K ι H a c) : SR K ι H (h.set n c) := by
  refine ⟨by simp [s.len], s.nd, s.trk, fun m d b h1 h2 => ?_⟩
  by_cases hm : m = n
  · subst hm
    rw [ha] at h2; cases h2
    have hlt : m < h.length := by rw [← s.len]; exact (List.getElem?_eq_some_iff.mp ha).1
    rw [List.getElem?_set_self hlt] at h1
    cases h1; exact hc
  · rw [List.getElem?_set_ne (Ne.symm hm)] at h1
    exact s.cell m d b h1 h2
/-- a cell is frozen -/
theorem frz_cell {pins : List (Addr × Obj)} {s : Shared} {σ : L2.St} {H : Hp} {ι : List Addr} {h : DH} {n : Nat} {a : Addr} {u : HO} (I : Inv X pins σ H s) (sr : SR X.KK ι H h) (ha : ι[n]? = some a) (hH : H a = some u)
    (hu : (∃ vs, u = .lst vs) ∨ ∃ es, u = DctAt a es) : ∃ ob, Inv X pins σ (upd H a (.frz ob u)) s ∧ SR X.KK ι (upd H a (.frz ob u)) (h.set n .dead) ∧ Stp ι H ι (upd H a (.frz ob u)) := by
  have m1 : ∀ xs, u ≠ .tup xs := fun _ z => by rcases hu with ⟨_, rfl⟩ | ⟨_, rfl⟩ <;> cases z
  have m2 : ∀ o w, u ≠ .frz o w := fun _ _ z => by rcases hu with ⟨_, rfl⟩ | ⟨_, rfl⟩ <;> cases z
  have hx : ∃ o, s.heap.get? a = some o := by
    rcases hu with ⟨vs, rfl⟩ | ⟨es, rfl⟩
    · obtain ⟨_, its, m, _, ob⟩ := I.hok a _ hH
      exact ⟨_, ob⟩
    · obtain ⟨o, _, _, ho, _⟩ := dct_raw I (.inl hH)
      exact ⟨o, ho⟩
  obtain ⟨ob, I2⟩ := Inv.freeze I hH m1 m2 (fun _ z => by rcases hu with ⟨_, rfl⟩ | ⟨_, rfl⟩ <;> cases z) (fun _ z => by rcases hu with ⟨_, rfl⟩ | ⟨_, rfl⟩ <;> cases z) hx
  have hmem : a ∈ ι := List.mem_of_getElem? ha
  exact ⟨ob, I2, sr.write ha trivial (fx_write hH m1 m2), List.prefix_refl _, ext_write hmem hH m1 m2, fun _ z => .inl z⟩
theorem env_frz {ι : List Addr} {H H' : Hp} {env : Env} {σ : L2.St} {i : Nat} {v : V} {d : D} (eo : EnvOk X.KK ι H env σ) (st : Stp ι H ι H') (hv : σ[i]? = some (some v)) (r : Rep X.KK H' d v) : EnvOk X.KK ι H' (env.set i (some (.d d))) σ := by
  refine ⟨by simp [eo.len], fun j w hj => ?_⟩
  by_cases hij : j = i
  · subst hij
    have hlt : j < env.length := by have := (List.getElem?_eq_some_iff.mp hj).1; simpa using this
    rw [List.getElem?_set_self hlt] at hj
    cases hj
    exact ⟨_, hv, .d r⟩
  · rw [List.getElem?_set_ne (Ne.symm hij)] at hj
    obtain ⟨v', h1, h2⟩ := eo.val j w hj
    exact ⟨v', h1, h2.stp st⟩
theorem b_frz {i : Nat} {r : Ss} (h2 : PSs X rest (tS X.KK (evSs Φ G N r))) : PSs X rest (tS X.KK (evSs Φ G N (.cons (.frz i) r))) := by
  refine ⟨fun pins s σ H D I q => ?_⟩
  obtain ⟨ι, env, h, o, sr, eo, e, q⟩ := q
  simp only [evSs, Option.bind_eq_bind, Option.bind_eq_some_iff] at e
  obtain ⟨o1, e1, e2⟩ := e
  simp only [evS] at e1
  split at e1
  · rename_i n hn
    obtain ⟨v, hv, rv⟩ := eo.val i _ hn
    obtain ⟨a, rfl, ha⟩ := rv.cell
    split at e1
    · rename_i ws hc
      simp only [Option.bind_eq_bind, Option.bind_eq_some_iff, Option.some.injEq] at e1
      obtain ⟨ds, hp, rfl⟩ := e1
      obtain ⟨vs, hH, r⟩ := sr.cell n _ a hc ha
      obtain ⟨ob, I2, sr2, st⟩ := frz_cell I sr ha hH (.inl ⟨_, rfl⟩)
      exact h2.run pins s σ _ D I2 ⟨ι, _, _, o, sr2, env_frz eo st hv (.lst ⟨ob, upd_same⟩ ((r.pure hp).ext st.fx)), e2, q.stp st⟩
    · rename_i c ks us hc
      cases e1
      obtain ⟨es, kus, vus, hH, c1, c2, c3, c4, c5, c6⟩ := sr.cell n _ a hc ha
      obtain ⟨ob, I2, sr2, st⟩ := frz_cell I sr ha hH (.inr ⟨_, rfl⟩)
      exact h2.run pins s σ _ D I2 ⟨ι, _, _, o, sr2, env_frz eo st hv (.dct ⟨ob, upd_same⟩ c1 c2 c3 c4 (c5.ext st.fx) (c6.ext st.fx)), e2, q.stp st⟩
    · cases e1
  · cases e1
theorem frzI_ok {pins : List (Addr × Obj)} {s : Shared} {σ : L2.St} {ι : List Addr} {n : Nat} : ∀ (m i : Nat) (h h1 : DH) (H : Hp), Inv X pins σ H s → SR X.KK ι H h → frzI n m i h = some h1 → ∃ H', Inv X pins σ H' s ∧ SR X.KK ι H' h1 ∧ Stp ι H ι H'
  | 0, i, h, h1, H, I, sr, e => by
    simp only [frzI, Option.some.injEq] at e
    subst e
    exact ⟨H, I, sr, .refl⟩
  | m + 1, i, h, h1, H, I, sr, e => by
    simp only [frzI] at e
    split at e
    · rename_i ws hc
      split at e
      · exact frzI_ok m (i + 1) h h1 H I sr e
      · rename_i j hj
        split at e
        · rename_i us hu
          split at e
          · cases e
          · rename_i hne
            simp only [Option.bind_eq_some_iff] at e
            obtain ⟨ds, hp, e⟩ := e
            have hnl : n < ι.length := by rw [sr.len]; exact (List.getElem?_eq_some_iff.mp hc).1
            have hjl : j < ι.length := by rw [sr.len]; exact (List.getElem?_eq_some_iff.mp hu).1
            have ha : ι[n]? = some ι[n] := List.getElem?_eq_getElem hnl
            have hb : ι[j]? = some ι[j] := List.getElem?_eq_getElem hjl
            obtain ⟨vs, hH, r⟩ := sr.cell n _ _ hc ha
            obtain ⟨vs2, hH2, r2⟩ := sr.cell j _ _ hu hb
            obtain ⟨ob, I2, sr2, st⟩ := frz_cell I sr hb hH2 (.inl ⟨_, rfl⟩)
            have hab : ι[n] ≠ ι[j] := nodup_get_ne sr.nd ha hb (Ne.symm hne)
            obtain ⟨v, hv, rv⟩ := r.get hj
            obtain ⟨b, rfl, hb'⟩ := rv.cell
            rw [hb] at hb'; cases hb'
            have hset : vs.set i (V.ref ι[j]) = vs := by
              refine List.ext_getElem? fun q => ?_
              by_cases hq : i = q
              · subst hq
                have hlt := (List.getElem?_eq_some_iff.mp hv).1
                rw [List.getElem?_set_self hlt, hv]
              · rw [List.getElem?_set_ne hq]
            have rr : RepW X.KK ι (upd H ι[j] (.frz ob (.lst vs2))) (.d (.lst ds)) (.ref ι[j]) := .d (.lst ⟨ob, upd_same⟩ ((r2.pure hp).ext st.fx))
            have r3 := RepWL.set rr i (r.ext (List.prefix_refl _) st.fx)
            rw [hset] at r3
            have sr3 := sr2.recell (c := .lst (ws.set i (.d (.lst ds)))) ha ⟨vs, by rw [upd_ne hab]; exact hH, r3⟩
            obtain ⟨H', I4, sr4, st4⟩ := frzI_ok m (i + 1) _ h1 _ I2 sr3 e
            exact ⟨H', I4, sr4, st.trans st4⟩
        · cases e
      · cases e
    · cases e
theorem b_frzi {i : Nat} {r : Ss} (h2 : PSs X rest (tS X.KK (evSs Φ G N r))) : PSs X rest (tS X.KK (evSs Φ G N (.cons (.frzi i) r))) := by
  refine ⟨fun pins s σ H D I q => ?_⟩
  obtain ⟨ι, env, h, o, sr, eo, e, q⟩ := q
  simp only [evSs, Option.bind_eq_bind, Option.bind_eq_some_iff] at e
  obtain ⟨o1, e1, e2⟩ := e
  simp only [evS] at e1
  split at e1
  · rename_i n hn
    split at e1
    · rename_i ws hc
      simp only [Option.bind_eq_bind, Option.bind_eq_some_iff, Option.some.injEq] at e1
      obtain ⟨h1, hp, rfl⟩ := e1
      obtain ⟨H', I2, sr2, st⟩ := frzI_ok _ _ _ _ _ I sr hp
      exact h2.run pins s σ _ D I2 ⟨ι, _, _, o, sr2, eo.stp st, e2, q.stp st⟩
    · cases e1
  · cases e1
/-! ### small statements -/
theorem t_pass : PS X (.Pass pos) (tS X.KK (evS Φ G N .pass)) := PS.imp ps_pass fun D σ H q => by
  obtain ⟨ι, env, h, o, sr, eo, e, q⟩ := q
  simp only [evS, Option.some.injEq] at e
  subst e
  exact q ι H σ .refl sr eo
theorem t_brk : PS X (.Break pos) (tS X.KK (evS Φ G N .brk)) := PS.imp ps_break fun D σ H q => by
  obtain ⟨ι, env, h, o, sr, eo, e, q⟩ := q
  simp only [evS, Option.some.injEq] at e
  subst e
  exact q ι H σ .refl sr eo
theorem t_cont : PS X (.Continue pos) (tS X.KK (evS Φ G N .cont)) := PS.imp ps_continue fun D σ H q => by
  obtain ⟨ι, env, h, o, sr, eo, e, q⟩ := q
  simp only [evS, Option.some.injEq] at e
  subst e
  exact q ι H σ .refl sr eo
theorem t_nev : PS X st (tS X.KK (evS Φ G N .nev)) := PS.imp ps_never fun D σ H q => by
  obtain ⟨ι, env, h, o, sr, eo, e, q⟩ := q
  simp [evS] at e
theorem t_ret {e : E} (h : Ok1 X x (evE Φ G e)) : PS X (.Return (some x) pos) (tS X.KK (evS Φ G N (.ret e))) := PS.imp (ps_ret h.pe) fun D σ H q => by
  obtain ⟨ι, env, h, o, sr, eo, e, q⟩ := q
  simp only [evS, Option.bind_eq_bind, Option.bind_eq_some_iff, Prod.exists, Option.some.injEq] at e
  obtain ⟨w, h1, e1, rfl⟩ := e
  exact ⟨ι, env, h, w, h1, sr, eo, e1, q⟩
theorem swaps_no {v : Expr} {t : Option Expr} {l : Nat} {env : PySem.Env} (h : notComp v = true) : swapsWith v t l env = pure false := by
  cases v <;> first | (simp [notComp] at h; done) | rfl
theorem t_expr {e : E} (h : Ok1 X x (evE Φ G e)) (hc : notComp x = true) : PS X (.Expr x pos) (tS X.KK (evS Φ G N (.expr e))) := PS.imp (ps_expr h.pe (swaps_no hc)) fun D σ H q => by
  obtain ⟨ι, env, h, o, sr, eo, e, q⟩ := q
  simp only [evS, Option.bind_eq_bind, Option.bind_eq_some_iff, Prod.exists, Option.some.injEq] at e
  obtain ⟨w, h1, e1, rfl⟩ := e
  exact ⟨ι, env, h, w, h1, sr, eo, e1, fun ι1 H1 v p1 s1 _ => q ι1 H1 σ p1 s1 (eo.stp p1)⟩
theorem t_ite {c : E} {a b : Ss} {xs ys : List Stmt} (hc : Ok1 X x (evE Φ G c)) (ht : tst x = true) (ha : PSs X xs (tS X.KK (evSs Φ G N a))) (hb : PSs X ys (tS X.KK (evSs Φ G N b))) : PS X (.If x xs ys pos) (tS X.KK (evS Φ G N (.ite c a b))) :=
  PS.imp (ps_if (hc.pt ht) ha hb) fun D σ H q => by
    obtain ⟨ι, env, h, o, sr, eo, e, q⟩ := q
    simp only [evS, Option.bind_eq_bind, Option.bind_eq_some_iff, Prod.exists] at e
    obtain ⟨w, h1, e1, e⟩ := e
    split at e
    · exact ⟨ι, env, h, _, h1, sr, eo, evB_of e1, fun ι1 H1 p1 s1 => iteT ⟨ι1, env, h1, o, s1, eo.stp p1, e, q.stp p1⟩⟩
    · exact ⟨ι, env, h, _, h1, sr, eo, evB_of e1, fun ι1 H1 p1 s1 => iteF ⟨ι1, env, h1, o, s1, eo.stp p1, e, q.stp p1⟩⟩
    · cases e
/-! ### loops -/
theorem t_for (hx : X.xe = fun _ _ => False) (hc : X.calm = true) {p : Pat} {it : E} {body : Ss} {b : List Stmt} (hi : PI X tg x (tIu X.KK (evE Φ G it))) (hg : PG X tg (gP X.KK p)) (hb : PSs X b (tS X.KK (evSs Φ G N body))) (hs : notSet x = true) :
    PS X (.For tg x b [] pos) (tS X.KK (evS Φ G N (.for p it body))) := PS.imp (ps_for (by rw [hx]; exact PassesOwn.never) hc hi hg hb (foldedSet hs _)) fun D σ H q => by
  obtain ⟨ι, env, h, o, sr, eo, e, q⟩ := q
  simp only [evS, Option.bind_eq_bind, Option.bind_eq_some_iff, Prod.exists] at e
  obtain ⟨w, h1, e1, e⟩ := e
  split at e
  · rename_i d
    simp only [Option.bind_eq_some_iff] at e
    obtain ⟨ds, e2, e3⟩ := e
    refine .inl ⟨ι, env, h, d, h1, ds, sr, eo, e1, e2, fun ι1 H1 J p1 s1 wk => ?_⟩
    have key : ∀ i m σ H', (∃ ι' env' hh, m = ds.length - i ∧ i ≤ ds.length ∧ Stp ι1 H1 ι' H' ∧ SR X.KK ι' H' hh ∧ EnvOk X.KK ι' H' env' σ ∧
        forD (fun x env h => do let env1 ← p.bind x env; evSs Φ G N body env1 h) (ds.drop i) env' hh = some o) → (J.stop i H' ∧ D.nx σ H') ∨ (J.go i H' ∧ ∃ Nn : L2.St → Hp → Prop, (∀ σ' H'', Nn σ' H'' → ∃ m', m' < m ∧
          (∃ ι' env' hh, m' = ds.length - (i + 1) ∧ i + 1 ≤ ds.length ∧ Stp ι1 H1 ι' H'' ∧ SR X.KK ι' H'' hh ∧ EnvOk X.KK ι' H'' env' σ' ∧ forD (fun x env h => do let env1 ← p.bind x env; evSs Φ G N body env1 h) (ds.drop (i + 1)) env' hh = some o)) ∧
          ∀ x H'', J.yld i H' x H'' → gP X.KK p x σ H'' fun σ2 H2 => tS X.KK (evSs Φ G N body) { D with nx := Nn, ct := Nn, bk := D.nx } σ2 H2) := by
      rintro i m σ H' ⟨ι', env', hh, rfl, hi, pp, ss, ee, ef⟩
      obtain ⟨w1, w2⟩ := wk H' pp.fx i
      by_cases hlt : i < ds.length
      · rw [List.drop_eq_getElem_cons hlt] at ef
        simp only [forD, Option.bind_eq_bind, Option.bind_eq_some_iff] at ef
        obtain ⟨o1, ⟨env1, e4, e5⟩, e6⟩ := ef
        obtain ⟨g, yl⟩ := w1 ds[i] (List.getElem?_eq_getElem hlt)
        refine .inr ⟨g, fun σ' H'' => ∃ ι'' env'' hh'', Stp ι1 H1 ι'' H'' ∧ SR X.KK ι'' H'' hh'' ∧ EnvOk X.KK ι'' H'' env'' σ' ∧ forD (fun x env h => do let env1 ← p.bind x env; evSs Φ G N body env1 h) (ds.drop (i + 1)) env'' hh'' = some o, fun σ' H'' hn => ?_, fun x H'' hy => ?_⟩
        · obtain ⟨ι'', env'', hh'', q1, q2, q3, q4⟩ := hn
          exact ⟨ds.length - (i + 1), by omega, ι'', env'', hh'', rfl, hlt, q1, q2, q3, q4⟩
        · obtain ⟨sm, rx⟩ := yl x H'' hy
          have pp2 : Stp ι' H' ι' H'' := .same sm
          refine ⟨ι', env', hh, ds[i], env1, ss.same sm, ee.stp pp2, rx, e4, fun σ2 ee2 _ => ⟨ι', env1, hh, o1, ss.same sm, ee2, e5, ?_⟩⟩
          have pp3 := pp.trans pp2
          cases o1 with
          | nx env2 h2 => exact fun ι3 H3 σ3 p3 s3 e3 => ⟨ι3, env2, h2, pp3.trans p3, s3, e3, e6⟩
          | ct env2 h2 => exact fun ι3 H3 σ3 p3 s3 e3 => ⟨ι3, env2, h2, pp3.trans p3, s3, e3, e6⟩
          | bk env2 h2 =>
            simp only [Option.some.injEq] at e6
            subst e6
            exact fun ι3 H3 σ3 p3 s3 e3 => q ι3 H3 σ3 ((p1.trans pp3).trans p3) s3 e3
          | rt w h2 =>
            simp only [Option.some.injEq] at e6
            subst e6
            exact fun ι3 H3 v p3 s3 r3 => q ι3 H3 v ((p1.trans pp3).trans p3) s3 r3
      · rw [List.drop_eq_nil_of_le (by omega)] at ef
        simp only [forD, Option.some.injEq] at ef
        subst ef
        exact .inl ⟨w2 (by omega), q ι' H' σ (p1.trans pp) ss ee⟩
    exact ⟨_, ⟨_, ι1, env, h1, rfl, Nat.zero_le _, .refl, s1, eo.stp p1, by simpa using e3⟩, key⟩
  · cases e
theorem t_while (hx : X.xe = fun _ _ => False) {c : E} {body : Ss} {b : List Stmt} (hc : Ok1 X x (evE Φ G c)) (ht : tst x = true) (hb : PSs X b (tS X.KK (evSs Φ G N body))) : PS X (.While x b [] pos) (tS X.KK (evS Φ G N (.while c body))) :=
  PS.imp (ps_while (by rw [hx]; exact PassesOwn.never) (hc.pt ht) hb) fun D σ H q => by
    obtain ⟨ι, env, h, o, sr, eo, e, q⟩ := q
    have key : ∀ m σ H', (∃ ι' env' hh, Stp ι H ι' H' ∧ SR X.KK ι' H' hh ∧ EnvOk X.KK ι' H' env' σ ∧ whileD (evB (evE Φ G c)) (evSs Φ G N body) m env' hh = some o) →
        tT X.KK (evB (evE Φ G c)) σ H' fun b H1 => if b = true then ∃ Nn : L2.St → Hp → Prop, (∀ σ' H'', Nn σ' H'' → ∃ m', m' < m ∧ (∃ ι' env' hh, Stp ι H ι' H'' ∧ SR X.KK ι' H'' hh ∧ EnvOk X.KK ι' H'' env' σ' ∧ whileD (evB (evE Φ G c)) (evSs Φ G N body) m' env' hh = some o)) ∧
          tS X.KK (evSs Φ G N body) { D with nx := Nn, ct := Nn, bk := D.nx } σ H1 else D.nx σ H1 := by
      rintro m σ H' ⟨ι', env', hh, pp, ss, ee, ew⟩
      cases m with
      | zero => simp [whileD] at ew
      | succ m =>
        simp only [whileD, Option.bind_eq_bind, Option.bind_eq_some_iff, Prod.exists] at ew
        obtain ⟨bb, h1, e1, e2⟩ := ew
        refine ⟨ι', env', hh, bb, h1, ss, ee, e1, fun ι1 H1 p1 s1 => ?_⟩
        cases bb with
        | false =>
          simp only [Bool.false_eq_true, if_false, Option.some.injEq] at e2
          subst e2
          exact iteF (q ι1 H1 σ (pp.trans p1) s1 (ee.stp p1))
        | true =>
          simp only [if_true, Option.bind_eq_some_iff] at e2
          obtain ⟨o1, e3, e4⟩ := e2
          refine iteT ⟨fun σ' H'' => ∃ ι' env' hh, Stp ι H ι' H'' ∧ SR X.KK ι' H'' hh ∧ EnvOk X.KK ι' H'' env' σ' ∧ whileD (evB (evE Φ G c)) (evSs Φ G N body) m env' hh = some o, fun σ' H'' hn => ⟨m, Nat.lt_succ_self m, hn⟩, ι1, env', h1, o1, s1, ee.stp p1, e3, ?_⟩
          have pp2 := pp.trans p1
          cases o1 with
          | nx env2 h2 => exact fun ι3 H3 σ3 p3 s3 e3 => ⟨ι3, env2, h2, pp2.trans p3, s3, e3, e4⟩
          | ct env2 h2 => exact fun ι3 H3 σ3 p3 s3 e3 => ⟨ι3, env2, h2, pp2.trans p3, s3, e3, e4⟩
          | bk env2 h2 =>
            simp only [Option.some.injEq] at e4
            subst e4
            exact fun ι3 H3 σ3 p3 s3 e3 => q ι3 H3 σ3 (pp2.trans p3) s3 e3
          | rt w h2 =>
            simp only [Option.some.injEq] at e4
            subst e4
            exact fun ι3 H3 v p3 s3 r3 => q ι3 H3 v (pp2.trans p3) s3 r3
    simp only [evS] at e
    exact ⟨_, ⟨N, ι, env, h, .refl, sr, eo, e⟩, key⟩
end
end Sh

/-! stores -/
namespace Sh
open PySem PySem.Spec PyProof.Rows L2

theorem swK_ok {env : PySem.Env} {sc : Scope} {ts vs : List Expr} {r : Option (List Str)} {k k2 : Nat} {p p2 : Pos} (he : env.scope = sc) (hk : sc.kind = .function) (h : swK sc ts vs = some r) :
    swappedStores [.Tuple ts k p] (.Tuple vs k2 p2) env = pure r := by
  have hb : env.blockKind = .function := by unfold Env.blockKind; rw [he, hk]; rfl
  have ks : (sc.kind != ScopeKind.function) = false := by rw [hk]; rfl
  have hl : ∀ id, env.kindOf id = sc.names.lookup id := fun id => by unfold Env.kindOf; rw [he]
  unfold swappedStores
  unfold swK at h
  simp only [hb, ks, hl, bne_self_eq_false, Bool.or_false] at h ⊢
  split at h
  · rename_i c; cases h; exact if_pos c
  rename_i c; refine (if_neg c).trans ?_; clear c
  split at h
  · rename_i c; cases h; exact if_pos c
  rename_i c; refine (if_neg c).trans ?_; clear c
  split at h
  · rename_i c; cases h; exact if_pos c
  rename_i c; refine (if_neg c).trans ?_; clear c
  split at h
  · rename_i c; cases h; exact if_pos c
  rename_i c; refine (if_neg c).trans ?_; clear c
  split at h
  · cases h
  rename_i c; cases h; exact if_neg c

section
variable {X : Cx} {x y z tg : Expr} {pos : Pos} {cf : Cf} {Φ : Nat → FSpec} {G : Nat → D} {sc : Scope} {k N : Nat} {st : Stmt} {rest : List Stmt}
/-- one name -/
theorem t_name (ok : XOk cf Φ G sc k X) (fo : FOk sc X) {i : Nat} {n : Str} {py : Pos} {e : E} (h1 : cf.N[i]? = some n) (h2 : locB sc n = true) (he : Ok1 X x (evE Φ G e)) (hs : swapsWith x (some (.Name n py)) pos.line X.env = pure false) :
    PS X (.Assign [.Name n py] x pos) (tS X.KK (evS Φ G N (.asg (.pat (.nm i)) e))) := by
  obtain ⟨hloc, hfn⟩ := fo n h2
  refine PS.imp (ps_set (by rw [ok.N]; exact ok.nd) (by rw [ok.N]; exact h1) hloc he.pe hs hfn) fun D σ H q => ?_
  obtain ⟨ι, env, h, o, sr, eo, e, q⟩ := q
  simp only [evS, Option.bind_eq_bind, Option.bind_eq_some_iff, Prod.exists, Option.some.injEq] at e
  obtain ⟨w, h1, e1, rfl⟩ := e
  exact ⟨ι, env, h, w, h1, sr, eo, e1, fun ι1 H1 v p1 s1 r1 => q ι1 H1 _ p1 s1 ((eo.stp p1).set r1 i)⟩
/-- a target of several names -/
theorem t_pat (ok : XOk cf Φ G sc k X) (fo : FOk sc X) {p : Pat} {es : List Expr} {kk : Nat} {pt : Pos} {e : E} (hp : patB cf sc p (.Tuple es kk pt) = true) (he : Ok1 X x (evE Φ G e)) (hn : notTup x = true) :
    PS X (.Assign [.Tuple es kk pt] x pos) (tS X.KK (evS Φ G N (.asg (.pat p) e))) := by
  have hs : swapsWithSole [.Tuple es kk pt] x pos.line X.env = pure false := by cases x <;> rfl
  have hw : swappedStores [.Tuple es kk pt] x X.env = pure none := by cases x <;> first | (simp [notTup] at hn; done) | rfl
  refine PS.imp (ps_asg he.pe (pg_pat ok fo hp) hs hw (by rfl)) fun D σ H q => ?_
  obtain ⟨ι, env, h, o, sr, eo, e, q⟩ := q
  cases p with
  | nm i => simp [patB] at hp
  | _ =>
    simp only [evS, Option.bind_eq_bind, Option.bind_eq_some_iff, Prod.exists] at e
    obtain ⟨w, h1, e1, e⟩ := e
    split at e
    · simp only [Option.bind_eq_some_iff, Option.some.injEq] at e
      obtain ⟨env1, e2, rfl⟩ := e
      exact ⟨ι, env, h, _, h1, sr, eo, e1, fun ι1 H1 v p1 s1 r1 => ⟨ι1, env, h1, _, env1, s1, eo.stp p1, r1.pure, e2, fun σ' eo' _ => q ι1 H1 σ' p1 s1 eo'⟩⟩
    · cases e
/-- o[i] = v by data -/
def tSetW (K : KW) : TSet := fun o i v H Q => ∃ ι h a b w h', SR K ι H h ∧ RepW K ι H a o ∧ RepW K ι H b i ∧ RepW K ι H w v ∧ storeW a b w h = some h' ∧ ∀ ι' H', Stp ι H ι' H' → SR K ι' H' h' → Q H'
theorem setR (hu : X.A.units + 9 < cLine) : PSet X (tSetW X.KK) := by
  intro pins s σ H o i v ov iv u Q I ro ri rv hq
  obtain ⟨ι, h, a, b, w, h', sr, ra, rb, rw', e, q⟩ := hq
  unfold storeW at e
  split at e
  · rename_i n x
    obtain ⟨adr, rfl, ha⟩ := ra.cell
    split at e
    · rename_i ws hc
      split at e
      · rename_i kk
        simp only [Option.map_eq_some_iff] at e
        obtain ⟨j, e1, rfl⟩ := e
        obtain rfl := rb.int
        obtain ⟨vs, hH, r⟩ := sr.cell n _ adr hc ha
        have m1 : ∀ xs, HO.lst vs ≠ .tup xs := fun _ z => by cases z
        have m2 : ∀ o w, HO.lst vs ≠ .frz o w := fun _ _ z => by cases z
        refine set_list pins s σ H _ _ v ov iv u Q I ro ri rv ⟨adr, vs, kk, j, rfl, rfl, hH, by rw [← r.length]; exact e1, ?_⟩
        have fx := fx_write (o := .lst (vs.set j v)) hH m1 m2
        exact q ι _ ⟨List.prefix_refl _, ext_write (List.mem_of_getElem? ha) hH m1 m2, fun _ z => .inl z⟩ (sr.write ha ⟨_, upd_same, (r.set rw' j).ext (List.prefix_refl _) fx⟩ fx)
      · cases e
    · rename_i c ks us hc
      split at e
      · rename_i y
        split at e
        · rename_i hg
          simp only [Bool.and_eq_true, decide_eq_true_eq] at hg
          cases e
          obtain ⟨es, kus, vus, hH, c1, c2, c3, c4, c5, c6⟩ := sr.cell n _ adr hc ha
          have m1 : ∀ xs, DctAt adr es ≠ .tup xs := fun _ z => by cases z
          have m2 : ∀ o w, DctAt adr es ≠ .frz o w := fun _ _ z => by cases z
          obtain rfl : ov = .ref adr := ro
          refine x_setItem hu I hH ⟨c1, c2, c3, c4, c5, c6⟩ (by rw [← line_eq]; exact hg.2) hg.1 rb.pure ri rw'.pure rv fun s' es' kus' vus' I' dt' => ?_
          have fx := fx_write (o := DctAt adr es') hH m1 m2
          refine ⟨_, I', q ι _ ⟨List.prefix_refl _, ext_write (List.mem_of_getElem? ha) hH m1 m2, fun _ z => .inl z⟩ (sr.write ha ⟨es', kus', vus', upd_same, dt'.sys, dt'.len, dt'.keys, dt'.ents, dt'.rk.ext fx, dt'.rv.ext fx⟩ fx)⟩
        · cases e
      · cases e
    · cases e
  · cases e
theorem assign_sub {env : PySem.Env} {o i : Expr} (h : notSlice i = true) : ∀ v, assign (.Subscript o i pos) env v = (do
      let ov ← holding [v] (eval o env)
      let iv ← holding [v, ov] (eval i env)
      standAt pos
      holding [v, ov, iv] (setItem ov iv v)
      release [v, ov, iv] []) := by
  intro v
  cases i <;> first | (simp [notSlice] at h; done) | rfl
theorem t_sub (hu : X.A.units + 9 < cLine) {a b e : E} {ps : Pos} (ha : Ok1 X y (evE Φ G a)) (hb : Ok1 X z (evE Φ G b)) (hz : notSlice z = true) (he : Ok1 X x (evE Φ G e)) : PS X (.Assign [.Subscript y z ps] x pos) (tS X.KK (evS Φ G N (.asg (.sub a b) e))) := by
  have hs : swapsWithSole [.Subscript y z ps] x pos.line X.env = pure false := by cases x <;> rfl
  have hw : swappedStores [.Subscript y z ps] x X.env = pure none := by cases x <;> rfl
  refine PS.imp (ps_asg he.pe (pg_sub ha.pe hb.pe (setR hu) (assign_sub hz)) hs hw (by rfl)) fun D σ H q => ?_
  obtain ⟨ι, env, h, o, sr, eo, e, q⟩ := q
  simp only [evS, Option.bind_eq_bind, Option.bind_eq_some_iff, Prod.exists, Option.some.injEq] at e
  obtain ⟨v, h1, e1, o, h2, e2, i, h3, e3, h4, e4, rfl⟩ := e
  refine ⟨ι, env, h, v, h1, sr, eo, e1, fun ι1 H1 v1 p1 s1 r1 => ⟨ι1, env, h1, o, h2, s1, eo.stp p1, e2, fun ι2 H2 v2 p2 s2 r2 => ⟨ι2, env, h2, i, h3, s2, (eo.stp p1).stp p2, e3, fun ι3 H3 v3 p3 s3 r3 => ?_⟩⟩⟩
  exact ⟨ι3, h3, o, i, v, h4, s3, r2.stp p3, r3, (r1.stp p2).stp p3, e4, fun ι4 H4 p4 s4 => q ι4 H4 σ (((p1.trans p2).trans p3).trans p4) s4 ((((eo.stp p1).stp p2).stp p3).stp p4)⟩
theorem filter_two {sc : PySem.Env} {a b a' b' : Expr} {p p' : Pos} {line : Nat} : ([Expr.Subscript a b p, .Subscript a' b' p'].filterMap fun
    | .Name id pos => if sc.kindOf id == some .local && pos.line == line then some id else none
    | _ => none) = [] := rfl
theorem swap_two {env : PySem.Env} {a b a' b' v : Expr} {kk : Nat} {p p' pt : Pos} : swappedStores [.Tuple [.Subscript a b p, .Subscript a' b' p'] kk pt] v env = pure none := by
  cases v <;> first
    | rfl
    | (rename_i vs k2 p2
       unfold swappedStores
       simp only [filter_two]
       split
       · rfl
       · split
         · rfl
         · rfl)
theorem t_two (hu : X.A.units + 9 < cLine) (ok : XOk cf Φ G sc k X) {a b a' b' e : E} {y' z' : Expr} {p1 p2 pt : Pos} {kk : Nat} (ha : Ok1 X y (evE Φ G a)) (hb : Ok1 X z (evE Φ G b)) (hz : notSlice z = true) (ha' : Ok1 X y' (evE Φ G a')) (hb' : Ok1 X z' (evE Φ G b')) (hz' : notSlice z' = true) (he : Ok1 X x (evE Φ G e)) :
    PS X (.Assign [.Tuple [.Subscript y z p1, .Subscript y' z' p2] kk pt] x pos) (tS X.KK (evS Φ G N (.asg (.two a b a' b') e))) := by
  have hs : swapsWithSole [.Tuple [.Subscript y z p1, .Subscript y' z' p2] kk pt] x pos.line X.env = pure false := by cases x <;> rfl
  refine PS.imp (ps_asg he.pe (pg_tup ok.calm (pgs_cons (pg_sub ha.pe hb.pe (setR hu) (assign_sub hz)) (pgs_cons (pg_sub ha'.pe hb'.pe (setR hu) (assign_sub hz')) pgs_nil))) hs swap_two (by rfl)) fun D σ H q => ?_
  obtain ⟨ι, env, h, o, sr, eo, e, q⟩ := q
  simp only [evS, Option.bind_eq_bind, Option.bind_eq_some_iff, Prod.exists] at e
  obtain ⟨v, h1, e1, e⟩ := e
  split at e
  · simp only [Option.bind_eq_some_iff, Prod.exists, Option.some.injEq] at e
    obtain ⟨o, h2, e2, i, h3, e3, h4, e4, o', h5, e5, i', h6, e6, h7, e7, rfl⟩ := e
    refine ⟨ι, env, h, _, h1, sr, eo, e1, fun ι1 H1 v1 q1 s1 r1 => ?_⟩
    have r1 := r1.pure
    cases r1 with
    | tup hq rr =>
      cases rr with
      | cons ra rr =>
        cases rr with
        | cons rb rr =>
          cases rr
          refine ⟨_, _, rfl, hq, rfl, _, _, rfl, ?_⟩
          refine ⟨ι1, env, h1, o, h2, s1, eo.stp q1, e2, fun ι2 H2 v2 q2 s2 r2 => ⟨ι2, env, h2, i, h3, s2, (eo.stp q1).stp q2, e3, fun ι3 H3 v3 q3 s3 r3 => ?_⟩⟩
          refine ⟨ι3, h3, o, i, _, h4, s3, r2.stp q3, r3, .d ((ra.ext q2.fx).ext q3.fx), e4, fun ι4 H4 q4 s4 => ?_⟩
          have eo4 := (((eo.stp q1).stp q2).stp q3).stp q4
          refine ⟨_, _, rfl, ι4, env, h4, o', h5, s4, eo4, e5, fun ι5 H5 v5 q5 s5 r5 => ⟨ι5, env, h5, i', h6, s5, eo4.stp q5, e6, fun ι6 H6 v6 q6 s6 r6 => ?_⟩⟩
          refine ⟨ι6, h6, o', i', _, h7, s6, r5.stp q6, r6, .d (((((rb.ext q2.fx).ext q3.fx).ext q4.fx).ext q5.fx).ext q6.fx), e7, fun ι7 H7 q7 s7 => ?_⟩
          exact ⟨rfl, q ι7 H7 σ ((((((q1.trans q2).trans q3).trans q4).trans q5).trans q6).trans q7) s7 (((eo4.stp q5).stp q6).stp q7)⟩
  · cases e
/-! ### several names at once -/
theorem gl_namesW (ok : XOk cf Φ G sc k X) (fo : FOk sc X) : ∀ {is : List Nat} {es : List Expr}, patB.go cf sc is es = true → ∃ t, PGs X es t ∧ (assignEach es X.env).length = es.length ∧ (assignEach es X.env).findIdx? (·.1) = none ∧
    ∀ (ι : List Addr) (env env' : Env) (h : DH) (H : Hp) (σ : L2.St) (ds : List W) (vs : List V) (Q : L2.St → Hp → Prop), SR X.KK ι H h → EnvOk X.KK ι H env σ → RepWL X.KK ι H ds vs → setsE is ds env = some env' →
      (∀ σ', EnvOk X.KK ι H env' σ' → Q σ' H) → t vs σ H Q
  | [], [], _ => ⟨gNil, pgs_nil, rfl, rfl, fun ι env env' h H σ ds vs Q sr eo r e q => by
      cases r with
      | nil =>
        simp only [setsE, Option.some.injEq] at e
        subst e
        exact ⟨rfl, q σ eo⟩
      | cons a b => simp [setsE] at e⟩
  | [], _ :: _, h => by simp [patB.go] at h
  | _ :: _, [], h => by simp [patB.go] at h
  | i :: is, x :: es, h => by
    cases x with
    | Name n p =>
      simp only [patB.go, Bool.and_eq_true, decide_eq_true_eq] at h
      obtain ⟨t, ht, hl, hf, hq⟩ := gl_namesW ok fo h.2
      have hN : X.N[i]? = some n := by rw [ok.N]; exact h.1.1
      obtain ⟨hloc, hfn⟩ := fo n h.1.2
      refine ⟨gCons (gName i) t, pgs_cons (pg_name (by rw [ok.N]; exact ok.nd) hN hloc hfn) ht (by rfl), by simp only [assignEach, List.length_cons, hl], ?_, fun ι env env' h' H σ ds vs Q sr eo r e q => ?_⟩
      · show List.findIdx? (·.1) ((false, assign (.Name n p) X.env) :: assignEach es X.env) = none
        rw [List.findIdx?_cons, hf]; rfl
      · cases r with
        | nil => simp [setsE] at e
        | cons a b =>
          simp only [setsE] at e
          exact ⟨_, _, rfl, hq ι _ env' h' H _ _ _ Q sr (eo.set a i) b e fun σ' eo' => q σ' eo'⟩
    | _ => simp [patB.go] at h
theorem setsE_len : ∀ {is : List Nat} {ws : List W} {env env' : Env}, setsE is ws env = some env' → is.length = ws.length
  | [], [], _, _, _ => rfl
  | [], _ :: _, _, _, h => by simp [setsE] at h
  | _ :: _, [], _, _, h => by simp [setsE] at h
  | _ :: is, _ :: ws, _, _, h => by simp only [setsE] at h; simp [setsE_len h]
theorem go_len : ∀ {is : List Nat} {es : List Expr}, patB.go cf sc is es = true → is.length = es.length
  | [], [], _ => rfl
  | [], _ :: _, h => by simp [patB.go] at h
  | _ :: _, [], h => by simp [patB.go] at h
  | _ :: _, x :: _, h => by
    cases x <;> simp only [patB.go, Bool.and_eq_true, Bool.false_eq_true] at h
    simp [go_len h.2]
/-- plainly: the tuple is made, and taken apart -/
theorem t_par0 (ok : XOk cf Φ G sc k X) (fo : FOk sc X) {is : List Nat} {es : Es} {ts vs : List Expr} {kt kv : Nat} {pt pv : Pos} (hn : patB.go cf sc is ts = true) (ha : PA X vs (tA X.KK (evEs Φ G es))) (hlen : ts.length = vs.length) (hl : is.length ≤ 100)
    (hw : swappedStores [.Tuple ts kt pt] (.Tuple vs kv pv) X.env = pure none) : PS X (.Assign [.Tuple ts kt pt] (.Tuple vs kv pv) pos) (tS X.KK (evS Φ G N (.par is es))) := by
  obtain ⟨t, ht, h1, h2, hq⟩ := gl_namesW ok fo hn
  refine PS.imp (ps_asg (pe_tup ha) (pg_tup ok.calm ht h1 h2) rfl hw (by rfl)) fun D σ H q => ?_
  obtain ⟨ι, env, h, o, sr, eo, e, q⟩ := q
  simp only [evS, Option.bind_eq_bind, Option.bind_eq_some_iff, Prod.exists, Option.some.injEq] at e
  obtain ⟨ws, h1, e1, env1, e2, rfl⟩ := e
  refine ⟨ι, env, h, ws, h1, sr, eo, e1, fun ι1 H1 vs' p1 s1 r1 => ?_⟩
  have hL : vs'.length = is.length := by rw [← r1.length, setsE_len e2]
  refine ⟨by have := line_eq; rw [hL, ← this]; simp only [line]; omega, fun p hp => ⟨p, vs', rfl, .inl (.inl upd_same), by rw [hL, go_len hn], ?_⟩⟩
  have sm := same_upd (o := HO.tup vs') hp
  have st : Stp ι1 H1 ι1 _ := .same sm
  exact hq ι1 env env1 h1 _ σ ws vs' _ (s1.same sm) ((eo.stp p1).stp st) (r1.stp st) e2 fun σ' eo' => q ι1 _ σ' (p1.trans st) (s1.same sm) eo'
theorem t_par2 (ok : XOk cf Φ G sc k X) {i j : Nat} {es : Es} {n m : Str} {a b : Expr} {px py pt pv : Pos} {kt kv : Nat} (hi : cf.N[i]? = some n) (hj : cf.N[j]? = some m) (hij : i ≠ j) (hx : sc.names.lookup n = some .local) (hy : sc.names.lookup m = some .local)
    (ha : PA X [a, b] (tA X.KK (evEs Φ G es))) (hw : swappedStores [.Tuple [.Name n px, .Name m py] kt pt] (.Tuple [a, b] kv pv) X.env = pure (some [n, m])) :
    PS X (.Assign [.Tuple [.Name n px, .Name m py] kt pt] (.Tuple [a, b] kv pv) pos) (tS X.KK (evS Φ G N (.par [i, j] es))) := by
  refine PS.imp (ps_par ok.calm (by rw [ok.N]; exact ok.nd) (by rw [ok.N]; exact hi) (by rw [ok.N]; exact hj) hij (by rw [ok.sc]; exact hx) (by rw [ok.sc]; exact hy) ha hw rfl) fun D σ H q => ?_
  obtain ⟨ι, env, h, o, sr, eo, e, q⟩ := q
  simp only [evS, Option.bind_eq_bind, Option.bind_eq_some_iff, Prod.exists, Option.some.injEq] at e
  obtain ⟨ws, h1, e1, env1, e2, rfl⟩ := e
  refine ⟨ι, env, h, ws, h1, sr, eo, e1, fun ι1 H1 vs' p1 s1 r1 => ?_⟩
  cases r1 with
  | nil => simp [setsE] at e2
  | cons ra r1 =>
    cases r1 with
    | nil => simp [setsE] at e2
    | cons rb r1 =>
      cases r1 with
      | cons _ _ => simp [setsE] at e2
      | nil =>
        simp only [setsE, Option.some.injEq] at e2
        subst e2
        exact ⟨_, _, rfl, q ι1 H1 _ p1 s1 (((eo.stp p1).set ra i).set rb j)⟩
theorem t_par3 (ok : XOk cf Φ G sc k X) {i j l : Nat} {es : Es} {n m r : Str} {a b c : Expr} {px py pz pt pv : Pos} {kt kv : Nat} (hi : cf.N[i]? = some n) (hj : cf.N[j]? = some m) (hl : cf.N[l]? = some r) (hij : i ≠ j) (hil : i ≠ l) (hjl : j ≠ l)
    (hx : sc.names.lookup n = some .local) (hy : sc.names.lookup m = some .local) (hz : sc.names.lookup r = some .local)
    (ha : PA X [a, b, c] (tA X.KK (evEs Φ G es))) (hw : swappedStores [.Tuple [.Name n px, .Name m py, .Name r pz] kt pt] (.Tuple [a, b, c] kv pv) X.env = pure (some [n, m, r])) :
    PS X (.Assign [.Tuple [.Name n px, .Name m py, .Name r pz] kt pt] (.Tuple [a, b, c] kv pv) pos) (tS X.KK (evS Φ G N (.par [i, j, l] es))) := by
  refine PS.imp (ps_par3 ok.calm (by rw [ok.N]; exact ok.nd) (by rw [ok.N]; exact hi) (by rw [ok.N]; exact hj) (by rw [ok.N]; exact hl) hij hil hjl (by rw [ok.sc]; exact hx) (by rw [ok.sc]; exact hy) (by rw [ok.sc]; exact hz) ha hw rfl) fun D σ H q => ?_
  obtain ⟨ι, env, h, o, sr, eo, e, q⟩ := q
  simp only [evS, Option.bind_eq_bind, Option.bind_eq_some_iff, Prod.exists, Option.some.injEq] at e
  obtain ⟨ws, h1, e1, env1, e2, rfl⟩ := e
  refine ⟨ι, env, h, ws, h1, sr, eo, e1, fun ι1 H1 vs' p1 s1 r1 => ?_⟩
  cases r1 with
  | nil => simp [setsE] at e2
  | cons ra r1 =>
    cases r1 with
    | nil => simp [setsE] at e2
    | cons rb r1 =>
      cases r1 with
      | nil => simp [setsE] at e2
      | cons rc r1 =>
        cases r1 with
        | cons _ _ => simp [setsE] at e2
        | nil =>
          simp only [setsE, Option.some.injEq] at e2
          subst e2
          exact ⟨_, _, _, rfl, q ι1 H1 _ p1 s1 ((((eo.stp p1).set ra i).set rb j).set rc l)⟩
/-! ### lists changed -/
/-- name += list, in place -/
def ipExt (K : KW) : TIp := fun x y H Q => ∃ ι h n ws xs, SR K ι H h ∧ RepW K ι H (.ref n) x ∧ RepW K ι H (.d (.lst xs)) y ∧ h[n]? = some (.lst ws) ∧ ws.length + xs.length ≤ line ∧
  ∀ ι' H', Stp ι H ι' H' → SR K ι' H' (h.set n (.lst (ws ++ xs.map W.d))) → RepW K ι' H' (.ref n) x → Q x H'
theorem ipR : PIp X .Add (ipExt X.KK) := by
  intro pins s σ H x y v u Q I rx ry hq
  obtain ⟨ι, h, n, ws, xs, sr, r1, r2, hc, hl, q⟩ := hq
  obtain ⟨adr, rfl, ha⟩ := r1.cell
  obtain ⟨vs, hH, rw'⟩ := sr.cell n _ adr hc ha
  obtain ⟨b, us, rfl, hB, rb⟩ := (Is.rep r2.pure).sq
  cases rx
  cases ry
  obtain ⟨z, its, m, r, hl1, e⟩ := I.lstM hH
  obtain ⟨z2, its2, m2, r2', hl2, e2⟩ := Inv.rdl I hB
  have hsz : its.toArray.size + its2.toArray.size ≤ sizeLine := by rw [List.size_toArray, List.size_toArray, ← hl1, ← hl2, ← rw'.length, ← rb.length, ← line_eq]; exact hl
  have hlong : ¬ (!its.toArray.isEmpty && Builtin.List.listTooLong (its.toArray.size + its2.toArray.size)) = true := by
    rw [notLongL hsz, Bool.and_false]
    exact Bool.false_ne_true
  refine iadd_road ⟨_, e, rfl⟩ ⟨_, e2, rfl⟩ (call_meets PySem.F.slot_list_iadd ⟨_, e, rfl⟩ PySem.F.entry_list_iadd (PySem.F.args_list_iadd_2 _ _)
    (AutoSeq1.list___iadd___list_list_0 adr its.toArray m b its2.toArray m2 hlong (by simp only [List.size_toArray] at hsz ⊢; omega) (by simp only [List.size_toArray] at hsz ⊢; omega)) ⟨e, e2, ?_⟩)
  have m1 : ∀ xs, HO.lst vs ≠ .tup xs := fun _ z => by cases z
  have m2 : ∀ o w, HO.lst vs ≠ .frz o w := fun _ _ z => by cases z
  have fx := fx_write (o := .lst (vs ++ us)) hH m1 m2
  refine ⟨.ref adr, _, I.lset (its' := its ++ its2) (t' := s.toks) hH e (by simp) (r.append r2') ?_, rfl, q ι _ ⟨List.prefix_refl _, ext_write (List.mem_of_getElem? ha) hH m1 m2, fun _ z => .inl z⟩ (sr.write ha ⟨_, upd_same, (rw'.append (RepWL.of rb)).ext (List.prefix_refl _) fx⟩ fx) (.ref ha)⟩
  rw [List.length_append]
  simpa [hl1, hl2] using hsz
theorem env_set_same {env : Env} {i : Nat} {w : Option W} (h : env[i]? = some w) : env.set i w = env := by
  refine List.ext_getElem? fun j => ?_
  by_cases hij : i = j
  · subst hij
    rw [List.getElem?_set_self (List.getElem?_eq_some_iff.mp h).1, h]
  · rw [List.getElem?_set_ne hij]
theorem t_ext (ok : XOk cf Φ G sc k X) (fo : FOk sc X) {i : Nat} {n : Str} {px : Pos} {e : E} (h1 : cf.N[i]? = some n) (h2 : locB sc n = true) (he : Ok1 X x (evE Φ G e)) : PS X (.AugAssign (.Name n px) .Add x pos) (tS X.KK (evS Φ G N (.ext i e))) := by
  obtain ⟨hloc, hfn⟩ := fo n h2
  refine PS.imp (ps_aug (by rw [ok.N]; exact ok.nd) (by rw [ok.N]; exact h1) hloc he.pe ipR hfn) fun D σ H q => ?_
  obtain ⟨ι, env, h, o, sr, eo, e, q⟩ := q
  simp only [evS] at e
  split at e
  · rename_i m hm
    simp only [Option.bind_eq_bind, Option.bind_eq_some_iff, Prod.exists] at e
    obtain ⟨w, h1, e1, e⟩ := e
    obtain ⟨v, hv, rv⟩ := eo.val i _ hm
    refine ⟨v, hv, ι, env, h, w, h1, sr, eo, e1, fun ι1 H1 y p1 s1 r1 => ?_⟩
    split at e
    · rename_i xs ws hc
      split at e
      · rename_i hl
        cases e
        refine ⟨ι1, h1, m, ws, xs, s1, rv.stp p1, r1, hc, hl, fun ι2 H2 p2 s2 r2 => q ι2 H2 _ (p1.trans p2) s2 ?_⟩
        have := ((eo.stp p1).stp p2).set r2 i
        rw [env_set_same hm] at this
        exact this
      · cases e
    · cases e
  · cases e
def rAppW (K : KW) : V → List V → Hp → VK → Prop := fun x vs H Q => ∃ ι h n ws w y, SR K ι H h ∧ RepW K ι H (.ref n) x ∧ vs = [y] ∧ RepW K ι H w y ∧ h[n]? = some (.lst ws) ∧ ws.length < line ∧
  ∀ ι' H', Stp ι H ι' H' → SR K ι' H' (h.set n (.lst (ws ++ [w]))) → Q .non H'
theorem appR : MtR X "list.append" (rAppW X.KK) := by
  intro pins s σ H x xs v us Q I rx rs hq
  obtain ⟨ι, h, n, ws, w, y, sr, r1, rfl, r2, hc, hl, q⟩ := hq
  obtain ⟨adr, rfl, ha⟩ := r1.cell
  obtain ⟨vs, hH, rw'⟩ := sr.cell n _ adr hc ha
  have m1 : ∀ xs, HO.lst vs ≠ .tup xs := fun _ z => by cases z
  have m2 : ∀ o w, HO.lst vs ≠ .frz o w := fun _ _ z => by cases z
  have fx := fx_write (o := .lst (vs ++ [y])) hH m1 m2
  exact mt_append pins s σ H _ _ v us Q I rx rs ⟨adr, vs, y, rfl, rfl, hH, by rw [← rw'.length, ← line_eq]; exact hl,
    q ι _ ⟨List.prefix_refl _, ext_write (List.mem_of_getElem? ha) hH m1 m2, fun _ z => .inl z⟩ (sr.write ha ⟨_, upd_same, (rw'.append (.cons r2 .nil)).ext (List.prefix_refl _) fx⟩ fx)⟩
theorem t_app (ok : XOk cf Φ G sc k X) {i : Nat} {n : Str} {px apos cpos : Pos} {e : E} (h1 : cf.N[i]? = some n) (h2 : visB sc n = true) (h3 : okN n = true) (hl : (apos.endLine == cpos.line) = true) (he : Ok1 X x (evE Φ G e)) (hs : notStar x = true) :
    PS X (.Expr (.Call (.Attribute (.Name n px) "append" apos) [x] [] cpos) pos) (tS X.KK (evS Φ G N (.app i e))) := by
  have hd := okN_dbg h3
  have pe := pe_bm (X := X) (cpos := cpos) (apos := apos) PySem.F.plainAttrs_list PySem.F.slot_list_append PySem.F.type_list_append appR (pe_var (by rw [ok.N]; exact h1) (ok.vis h2) hd.1 hd.2.1 (pos := px)) (pa_cons he.pe pa_nil (starEach_cons hs)) rfl (few_one hs) hl (starEach_cons hs) rfl
  refine PS.imp (ps_expr pe rfl) fun D σ H q => ?_
  obtain ⟨ι, env, h, o, sr, eo, e, q⟩ := q
  simp only [evS] at e
  split at e
  · rename_i m hm
    split at e
    · rename_i ws0 hc0
      simp only [Option.bind_eq_bind, Option.bind_eq_some_iff, Prod.exists] at e
      obtain ⟨w, h1, e1, e⟩ := e
      obtain ⟨v, hv, rv⟩ := eo.val i _ hm
      split at e
      · rename_i ws hc
        split at e
        · rename_i hl
          cases e
          refine ⟨v, hv, ?_, ι, env, h, w, h1, sr, eo, e1, fun ι1 H1 y p1 s1 r1 => ?_⟩
          · obtain ⟨adr, rfl, ha⟩ := rv.cell
            obtain ⟨vs0, hH0, _⟩ := sr.cell m _ adr hc0 ha
            exact .inl ⟨rfl, _, SqL.of hH0⟩
          · exact ⟨ι1, h1, m, ws, w, y, s1, rv.stp p1, rfl, r1, hc, hl, fun ι2 H2 p2 s2 => q ι2 H2 σ (p1.trans p2) s2 ((eo.stp p1).stp p2)⟩
        · cases e
      · cases e
    · cases e
  · cases e
/-! ### a comprehension's store -/
theorem t_sw {i : Nat} {m : Bool} {c : C} {te : TE} (ps : PS X st (tAsg te (gName i))) (hte : ∀ σ H Q, tR X.KK (evC Φ G c) σ H Q → te σ H Q) : PS X st (tS X.KK (evS Φ G N (.asg (.pat (.nm i)) (.mkl m c)))) := by
  cases m with
  | true =>
    refine PS.imp ps fun D σ H q => hte σ H _ ?_
    obtain ⟨ι, env, h, o, sr, eo, e, q⟩ := q
    simp only [evS, evE, mkL, Option.bind_eq_bind, Option.bind_eq_some_iff, Prod.exists, if_true, Option.some.injEq, Prod.mk.injEq] at e
    obtain ⟨w, h1, ⟨ws, h2, e1, rfl, rfl⟩, rfl⟩ := e
    refine ⟨ι, env, h, ws, h2, sr, eo, e1, fun ι1 H1 p vs p1 s1 hp hn hq r => ?_⟩
    have st : Stp ι H (ι1 ++ [p]) H1 := ⟨p1.pre.trans (List.prefix_append _ _), p1.ext, fun c hc => by
      rcases List.mem_append.mp hc with z | z
      · exact p1.new c z
      · simp at z; subst z; exact .inr hq⟩
    exact q (ι1 ++ [p]) H1 _ st (s1.take hn (by rw [hp]; simp) ⟨vs, hp, r.ext (List.prefix_append _ _) .refl⟩) ((eo.stp st).set (.ref (by rw [← s1.len]; simp)) i)
  | false =>
    refine ⟨fun pins s σ H D I q => thn (ps.run pins s σ H { D with nx := fun σ' H' => ∃ p vs, H' p = some (.lst vs) ∧ ∀ o, D.nx σ' (upd H' p (.frz o (.lst vs))) } I (hte σ H _ ?_)) fun f s1 => ?_⟩
    · obtain ⟨ι, env, h, o, sr, eo, e, q⟩ := q
      simp only [evS, evE, mkL, Option.bind_eq_bind, Option.bind_eq_some_iff, Prod.exists, Bool.false_eq_true, if_false, Option.map_eq_some_iff, Prod.mk.injEq, Option.some.injEq] at e
      obtain ⟨w, h1, ⟨ws, h2, e1, ds, e2, rfl, rfl⟩, rfl⟩ := e
      refine ⟨ι, env, h, ws, h2, sr, eo, e1, fun ι1 H1 p vs p1 s1 hp hn hq r => ⟨p, vs, hp, fun o => ?_⟩⟩
      have n1 : ∀ xs, HO.lst vs ≠ .tup xs := fun _ z => by cases z
      have n2 : ∀ o w, HO.lst vs ≠ .frz o w := fun _ _ z => by cases z
      have st := p1.off (o := .frz o (.lst vs)) hq hp n1 n2
      exact q ι1 _ _ st (s1.off hn hp n1 n2) ((eo.stp st).set (.d (.lst ⟨o, upd_same⟩ ((r.pure e2).ext (fx_write hp n1 n2)))) i)
    · cases f with
      | next =>
        rintro ⟨σ', H', I', p, vs, hp, q⟩
        obtain ⟨_, its, m, _, ob⟩ := I'.hok p _ hp
        obtain ⟨o, I2⟩ := Inv.freeze I' hp (fun _ z => by cases z) (fun _ _ z => by cases z) (fun _ z => by cases z) (fun _ z => by cases z) ⟨_, ob⟩
        exact ⟨σ', _, I2, q o⟩
      | brk => exact fun h => h
      | cont => exact fun h => h
      | ret u => exact fun h => h
theorem sw_false {elt : Expr} {gs : List Comprehension} {scope : Scope} {pos py : Pos} {y : Str} {l : Nat} (hs : X.env.scope = sc) (h : swB sc scope y py pos = false) : swapsWith (.ListComp elt gs scope pos) (some (.Name y py)) l X.env = pure false := by
  have ky : X.env.kindOf y = sc.names.lookup y := by unfold Env.kindOf; rw [hs]
  unfold swapsWith
  simp only [ky, Expr.pos]
  unfold swB at h
  have h2 : (X.env.blockKind == ScopeKind.function && sc.names.lookup y == some NameKind.local && py.line == pos.line && !(scope.names.any fun (n, k) => n == y && (k == .local || k == .cell))) = false := by
    cases hb : (X.env.blockKind == ScopeKind.function) with
    | false => rfl
    | true =>
      rw [Bool.true_and]
      by_cases hd : sc.names.lookup y = some NameKind.local
      · simp only [hd, decide_true] at h ⊢
        exact h
      · have : (sc.names.lookup y == some NameKind.local) = false := by simp [hd]
        rw [this]; rfl
  simp only [h2]
end
end Sh

/-! statements: the matched text is sound -/
namespace Sh
open PySem PySem.Spec PyProof.Rows L2
variable {cf : Cf} {Φ : Nat → FSpec} {G : Nat → D} {k N : Nat}
/-- what is said of the function's own context -/
structure SOk (cf : Cf) (Φ : Nat → FSpec) (G : Nat → D) (sc : Scope) (k : Nat) (X : Cx) : Prop where
  x : XOk cf Φ G sc k X
  fo : FOk sc X
  fn : sc.kind = .function
  xe : X.xe = fun _ _ => False
section
variable {sc : Scope} {X : Cx} {x : Expr} {e : E} {py pos : Pos} {n : Str} {i : Nat}
theorem val_of (ok : XOk cf Φ G sc k X) (hv : isVal e = true) (h : mE cf e sc x = true) : Ok1 X x (evE Φ G e) := (sE e sc X x ok h).1 hv
/-- a name gets a value -/
theorem n_asg (ok : SOk cf Φ G sc k X) (h1 : cf.N[i]? = some n) (h2 : locB sc n = true) (hm : mE cf e sc x = true) (hv : isVal e = true) (hc : lcOr x = true) :
    PS X (.Assign [.Name n py] x pos) (tS X.KK (evS Φ G N (.asg (.pat (.nm i)) e))) := by
  by_cases hn : notComp x = true
  · exact t_name ok.x ok.fo h1 h2 (val_of ok.x hv hm) (swaps_no hn)
  · cases x with
    | ListComp elt gs scope p2 =>
      cases hs : swB sc scope n py p2 with
      | false => exact t_name ok.x ok.fo h1 h2 (val_of ok.x hv hm) (sw_false ok.x.sc hs)
      | true =>
        have hs0 := hs
        simp only [swB, Bool.and_eq_true, decide_eq_true_eq, Bool.not_eq_true'] at hs
        obtain ⟨⟨q1, q2⟩, q3⟩ := hs
        have hyl : X.env.scope.names.lookup n = some .local := by rw [show X.env.scope = sc from ok.x.sc]; exact q1
        have hfn : X.env.scope.kind = .function := by rw [show X.env.scope = sc from ok.x.sc]; exact ok.fn
        have ok0 := ok.x
        cases e with
        | mkl m c =>
          have h : mC cf c sc (.ListComp elt gs scope p2) = true := hm
          cases c with
          | comp own p it c elt2 =>
            unfold mC at h
            split at h
            · rename_i elt' tg iter ifs scope pos heq
              cases heq
              simp only [Bool.and_eq_true] at h
              obtain ⟨⟨⟨⟨⟨⟨⟨h1', h2'⟩, h3⟩, h4⟩, h5⟩, h6⟩, h7⟩, h8⟩ := h
              obtain ⟨b1, b2, b3⟩ := ownB_ok h2'
              have blk := fun s H C cl fp => ok0.blk (scope := scope) s H C cl fp
              refine t_sw (te := tComp X.KK Φ G own p it c elt2) ?_ fun σ H Q q => tComp_of b3 q
              unfold tComp
              rw [← b2]
              exact ps_setLc ok0.calm (by rw [ok0.N]; exact ok0.nd) (by rw [ok0.N]; exact h1) hyl (sw_true hfn hyl q2 q3) ((sE it sc X _ ok0 h3).2 tg h5) (by rw [ok0.N, ok0.sc]; exact b1)
                (fun s H C cl fp => pg_pat (blk s H C cl fp).1 (blk s H C cl fp).2 h4) (fun s H C cl fp => (sEs c (relS scope sc) _ (blk s H C cl fp).1).2.2 _ h6)
                (fun s H C cl fp => ((sE elt2 (relS scope sc) _ _ (blk s H C cl fp).1 h8).1 h7).pe) (foldedSet h1' _)
            · cases h
          | comp2 own vs1 p it c p1 it1 c1 elt2 =>
            unfold mC at h
            split at h
            · rename_i elt' tg iter ifs tg1 iter1 ifs1 scope pos heq
              cases heq
              simp only [Bool.and_eq_true, List.all_eq_true, decide_eq_true_eq] at h
              obtain ⟨⟨⟨⟨⟨⟨⟨⟨⟨⟨⟨⟨⟨⟨r1, r1'⟩, r2⟩, g1⟩, g2⟩, h3⟩, h4⟩, h5⟩, h6⟩, i3⟩, i4⟩, i5⟩, i6⟩, h7⟩, h8⟩ := h
              obtain ⟨b1, b2, b3⟩ := ownB_ok r2
              have blk := fun s H C cl fp => ok0.blk (scope := scope) s H C cl fp
              refine t_sw (te := tComp2 X.KK Φ G own vs1 p it c p1 it1 c1 elt2) ?_ fun σ H Q q => tComp2_of b3 g1 q
              unfold tComp2
              rw [show own = (ownOf cf own).map (·.2) from b2.symm] at g2 ⊢
              exact ps_setLc2 ok0.calm (by rw [ok0.N]; exact ok0.nd) (by rw [ok0.N]; exact h1) hyl (sw_true hfn hyl q2 q3) ((sE it sc X _ ok0 h3).2 tg h5) (by rw [ok0.N, ok0.sc]; exact b1) g2
                (fun s H C cl fp => pg_pat (blk s H C cl fp).1 (blk s H C cl fp).2 h4) (fun s H C cl fp => (sEs c (relS scope sc) _ (blk s H C cl fp).1).2.2 _ h6)
                (fun s H C cl fp => (sE it1 (relS scope sc) _ _ (blk s H C cl fp).1 i3).2 tg1 i5)
                (fun s H C cl fp => pg_pat (blk s H C cl fp).1 (blk s H C cl fp).2 i4) (fun s H C cl fp => (sEs c1 (relS scope sc) _ (blk s H C cl fp).1).2.2 _ i6)
                (fun s H C cl fp => ((sE elt2 (relS scope sc) _ _ (blk s H C cl fp).1 h8).1 h7).pe) (foldedSet r1 _) (foldedSet r1')
            · cases h
          | _ => simp [mC] at h
        | mkd m c d => cases d <;> simp [mE, mD] at hm
        | _ => simp [mE] at hm
    | _ => exact absurd hc hn
/-- several at once -/
theorem n_par (ok : SOk cf Φ G sc k X) {is : List Nat} {es : Es} {ts vs : List Expr} {kt kv : Nat} {pt pv : Pos} (hp : parB cf sc is ts vs = true) (hn : noStar vs = true) (hm : mEs cf es sc vs = true) (hl : ts.length = vs.length) (hi : is.length ≤ 100) :
    PS X (.Assign [.Tuple ts kt pt] (.Tuple vs kv pv) pos) (tS X.KK (evS Φ G N (.par is es))) := by
  have pa : PA X vs (tA X.KK (evEs Φ G es)) := (sEs es sc X ok.x).1 vs hn hm
  unfold parB at hp
  split at hp
  · rename_i hk
    exact t_par0 ok.x ok.fo hp pa hl hi (swK_ok ok.x.sc ok.fn hk)
  · rename_i ns hk
    have sw := swK_ok (k := kt) (k2 := kv) (p := pt) (p2 := pv) ok.x.sc ok.fn hk
    split at hp
    · simp only [Bool.and_eq_true, decide_eq_true_eq] at hp
      obtain ⟨⟨⟨⟨⟨⟨rfl, rfl⟩, h1⟩, h2⟩, h3⟩, h4⟩, h5⟩ := hp
      match vs, hl with
      | [a, b], _ => exact t_par2 ok.x h1 h2 h3 h4 h5 pa sw
    · simp only [Bool.and_eq_true, decide_eq_true_eq] at hp
      obtain ⟨⟨⟨⟨⟨⟨⟨⟨⟨⟨⟨rfl, rfl⟩, rfl⟩, h1⟩, h2⟩, h3⟩, h4⟩, h5⟩, h6⟩, h7⟩, h8⟩, h9⟩ := hp
      match vs, hl with
      | [a, b, c], _ => exact t_par3 ok.x h1 h2 h3 h4 h5 h6 h7 h8 h9 pa sw
    · cases hp
  · cases hp
theorem n_tgt (ok : SOk cf Φ G sc k X) {t : Tgt} {tg : Expr} (h : tgtB cf sc t tg x = true) (hm : mE cf e sc x = true) (hv : isVal e = true) : PS X (.Assign [tg] x pos) (tS X.KK (evS Φ G N (.asg t e))) := by
  unfold tgtB at h
  split at h
  · simp only [Bool.and_eq_true, decide_eq_true_eq] at h
    exact n_asg ok h.1.1 h.1.2 hm hv h.2
  · simp only [Bool.and_eq_true] at h
    obtain ⟨⟨h1, h2⟩, h3⟩ := h
    split at h3
    · exact t_pat ok.x ok.fo h1 (val_of ok.x hv hm) h2
    · cases h3
  · simp only [Bool.and_eq_true] at h
    exact t_sub (by have := ok.x.room.un; omega) (val_of ok.x h.1.1.1.1 h.1.2) (val_of ok.x h.1.1.1.2 h.2) h.1.1.2 (val_of ok.x hv hm)
  · simp only [Bool.and_eq_true] at h
    obtain ⟨⟨⟨⟨⟨⟨⟨⟨⟨a1, a2⟩, a3⟩, a4⟩, a5⟩, b1⟩, b2⟩, b3⟩, b4⟩, b5⟩ := h
    exact t_two (by have := ok.x.room.un; omega) ok.x (val_of ok.x a1 a4) (val_of ok.x a2 a5) a3 (val_of ok.x b1 b4) (val_of ok.x b2 b5) b3 (val_of ok.x hv hm)
  · cases h
end
mutual
theorem sS {sc : Scope} {X : Cx} (ok : SOk cf Φ G sc k X) : ∀ (s : S) (st : Stmt), mS cf sc s st = true → PS X st (tS X.KK (evS Φ G N s))
  | .asg t e, st, h => by
    unfold mS at h
    split at h
    · simp only [Bool.and_eq_true] at h
      exact n_tgt ok h.1.2 h.2 h.1.1
    · cases h
  | .par is es, st, h => by
    unfold mS at h
    split at h
    · simp only [Bool.and_eq_true, decide_eq_true_eq] at h
      exact n_par ok h.1.1.1.2 h.1.1.1.1 h.1.1.2 h.1.2 h.2
    · cases h
  | .ext i e, st, h => by
    unfold mS at h
    split at h
    · simp only [Bool.and_eq_true, decide_eq_true_eq] at h
      exact t_ext ok.x ok.fo h.1.1.1 h.1.1.2 (val_of ok.x h.1.2 h.2)
    · cases h
  | .app i e, st, h => by
    unfold mS at h
    split at h
    · simp only [Bool.and_eq_true, decide_eq_true_eq] at h
      obtain ⟨⟨⟨⟨⟨⟨⟨h1, h2⟩, h3⟩, h4⟩, h5⟩, h6⟩, h7⟩, h8⟩ := h
      subst h4
      exact t_app ok.x h1 h2 h3 h5 (val_of ok.x h7 h8) h6
    · cases h
  | .expr e, st, h => by
    unfold mS at h
    split at h
    · simp only [Bool.and_eq_true] at h
      exact t_expr (val_of ok.x h.1.1 h.2) h.1.2
    · cases h
  | .ite c a b, st, h => by
    unfold mS at h
    split at h
    · simp only [Bool.and_eq_true] at h
      exact t_ite (val_of ok.x h.1.1.1.1 h.1.1.2) h.1.1.1.2 (sSs ok a _ h.1.2) (sSs ok b _ h.2)
    · cases h
  | .for p it body, st, h => by
    unfold mS at h
    split at h
    · simp only [Bool.and_eq_true] at h
      obtain ⟨⟨⟨⟨h1, h2⟩, h3⟩, h4⟩, h5⟩ := h
      exact t_for ok.xe ok.x.calm ((sE it sc X _ ok.x h4).2 _ h3) (pg_pat ok.x ok.fo h2) (sSs ok body _ h5) h1
    · cases h
  | .while c body, st, h => by
    unfold mS at h
    split at h
    · simp only [Bool.and_eq_true] at h
      exact t_while ok.xe (val_of ok.x h.1.1.1 h.1.2) h.1.1.2 (sSs ok body _ h.2)
    · cases h
  | .ret e, st, h => by
    unfold mS at h
    split at h
    · simp only [Bool.and_eq_true] at h
      exact t_ret (val_of ok.x h.1 h.2)
    · cases h
  | .brk, st, h => by
    unfold mS at h
    split at h
    · exact t_brk
    · cases h
  | .cont, st, h => by
    unfold mS at h
    split at h
    · exact t_cont
    · cases h
  | .pass, st, h => by
    unfold mS at h
    split at h
    · exact t_pass
    · cases h
  | .nev, st, h => t_nev
  | .fgt _, st, h => by unfold mS at h; cases h
  | .frz _, st, h => by unfold mS at h; cases h
  | .frzi _, st, h => by unfold mS at h; cases h
  | .upd _ _, st, h => by unfold mS at h; cases h
theorem sSs {sc : Scope} {X : Cx} (ok : SOk cf Φ G sc k X) : ∀ (s : Ss) (st : List Stmt), mSs cf sc s st = true → PSs X st (tS X.KK (evSs Φ G N s))
  | .nil, st, h => by
    unfold mSs at h
    have : st = [] := by simpa using h
    subst this
    exact b_nil
  | .cons (.fgt _) r, st, h => b_fgt (sSs ok r st (by unfold mSs at h; exact h))
  | .cons (.frz _) r, st, h => b_frz (sSs ok r st (by unfold mSs at h; exact h))
  | .cons (.frzi _) r, st, h => b_frzi (sSs ok r st (by unfold mSs at h; exact h))
  | .cons (.upd i e) r, st, h => sCons ok (.upd i e) r st (by unfold mSs at h; exact h)
  | .cons (.asg t e) r, st, h => sCons ok (.asg t e) r st (by unfold mSs at h; exact h)
  | .cons (.par t e) r, st, h => sCons ok (.par t e) r st (by unfold mSs at h; exact h)
  | .cons (.ext t e) r, st, h => sCons ok (.ext t e) r st (by unfold mSs at h; exact h)
  | .cons (.app t e) r, st, h => sCons ok (.app t e) r st (by unfold mSs at h; exact h)
  | .cons (.expr e) r, st, h => sCons ok (.expr e) r st (by unfold mSs at h; exact h)
  | .cons (.ite c a b) r, st, h => sCons ok (.ite c a b) r st (by unfold mSs at h; exact h)
  | .cons (.for c a b) r, st, h => sCons ok (.for c a b) r st (by unfold mSs at h; exact h)
  | .cons (.while c a) r, st, h => sCons ok (.while c a) r st (by unfold mSs at h; exact h)
  | .cons (.ret e) r, st, h => sCons ok (.ret e) r st (by unfold mSs at h; exact h)
  | .cons .brk r, st, h => sCons ok .brk r st (by unfold mSs at h; exact h)
  | .cons .cont r, st, h => sCons ok .cont r st (by unfold mSs at h; exact h)
  | .cons .pass r, st, h => sCons ok .pass r st (by unfold mSs at h; exact h)
  | .cons .nev r, st, h => sCons ok .nev r st (by unfold mSs at h; exact h)
theorem sCons {sc : Scope} {X : Cx} (ok : SOk cf Φ G sc k X) (s : S) (r : Ss) : ∀ (st : List Stmt), (match st with | x :: rest => mS cf sc s x && mSs cf sc r rest | [] => false) = true → PSs X st (tS X.KK (evSs Φ G N (.cons s r)))
  | [], h => by cases h
  | x :: rest, h => by
    simp only [Bool.and_eq_true] at h
    exact b_cons (sS ok s x h.1) (sSs ok r rest h.2)
end
end Sh

/-! functions: what the matched text computes is what the function promises -/
namespace Sh
open PySem PySem.Spec PyProof.Rows L2

/-- an own function of the table: its names (the parameters first), how it is called (0: of data; 1: the first argument a list that it changes; 2: it makes a list) -/
structure FD where
  nm : Str
  np : Nat
  N : List Str
  kd : Nat
  body : Ss
structure Tb where
  fds : List (Option FD)
  cons : List (Option Str)
  gcd : Bool
def envAt (n : Nat) (ws : List W) : Env := ws.map some ++ List.replicate (n - ws.length) none
def runP (Φ : Nat → FSpec) (G : Nat → D) (N : Nat) (fd : FD) (ds : List D) : Option D :=
  if ds.length = fd.np then
    match evSs Φ G N fd.body (envAt fd.N.length (ds.map W.d)) [] with
    | some (.rt (.d d) _) => some d
    | some (.nx _ _) => some .non
    | _ => none
  else none
def runN (Φ : Nat → FSpec) (G : Nat → D) (N : Nat) (fd : FD) (ds : List D) : Option (List D) :=
  if ds.length = fd.np then
    match evSs Φ G N fd.body (envAt fd.N.length (ds.map W.d)) [] with
    | some (.rt (.ref n) h) => match h[n]? with
      | some (.lst ws) => pureL ws
      | _ => none
    | _ => none
  else none
def outC (d : D) (h : DH) : Option (D × List D) := match (h[0]? : Option Cell) with
  | some (.lst ws) => (pureL ws).map fun c => (d, c)
  | _ => none
def runC (Φ : Nat → FSpec) (G : Nat → D) (N : Nat) (fd : FD) (ws : List W) (c : List D) : Option (D × List D) :=
  if ws.length = fd.np then
    match evSs Φ G N fd.body (envAt fd.N.length ws) [.lst (c.map W.d)] with
    | some (.rt (.d d) h) => outC d h
    | some (.nx _ h) => outC .non h
    | _ => none
  else none
def specOf (Φ : Nat → FSpec) (G : Nat → D) (N : Nat) (fd : FD) : FSpec := match fd.kd with
  | 0 => .pure (runP Φ G N fd)
  | 1 => .cell (runC Φ G N fd)
  | _ => .new (runN Φ G N fd)
/-- what the functions compute, to a depth of calls -/
def phi (T : Tb) (G : Nat → D) (N : Nat) : Nat → Nat → FSpec
  | 0, _ => .none
  | k + 1, g => match T.fds[g]? with
    | some (some fd) => specOf (phi T G N k) G N fd
    | _ => .none
def cfOf (T : Tb) (fd : FD) : Cf := { N := fd.N, fns := T.fds.map fun o => o.map (·.nm), cons := T.cons, gcd := T.gcd }
def freeB (sc : Scope) : Bool := sc.names.all fun y => !decide (y.2 = .free)
/-- the look at a scope -/
def scopeB (N P : List Str) (sc : Scope) : Bool := decide (sc.kind = .function ∧ sc.isCoroutine = false ∧ sc.isGenerator = false ∧ N.Nodup ∧ N.take P.length = P) && (P.all fun x => decide (sc.names.lookup x = some .local ∨ sc.names.lookup x = some .cell)) && freeB sc
theorem scope_ok {N P : List Str} {sc : Scope} (h : scopeB N P sc = true) : FnScope N P sc := by
  simp only [scopeB, freeB, Bool.and_eq_true, decide_eq_true_eq, List.all_eq_true, Bool.not_eq_true', decide_eq_false_iff_not] at h
  exact ⟨h.1.1.1, h.1.1.2.1, h.1.1.2.2.1, h.1.1.2.2.2.1, h.1.1.2.2.2.2, h.1.2, h.2⟩
/-- the look at a function's text -/
def fdB (T : Tb) (fd : FD) (st : Stmt) : Bool := scopeB fd.N (fd.N.take fd.np) (defScope st) && decide (fd.np ≤ fd.N.length) && mSs (cfOf T fd) (defScope st) fd.body (defBody st)

section
variable {K : KW} {ι ι' : List Addr} {H H' : Hp}
theorem EnvOk.start {N : List Str} {ws : List W} {vs : List V} (r : RepWL K ι H ws vs) : EnvOk K ι H (envAt N.length ws) (start N vs) := by
  have hl := r.length
  refine ⟨by simp [envAt, L2.start, hl], fun i w hi => ?_⟩
  by_cases h : i < ws.length
  · have h1 : (envAt N.length ws)[i]? = some (some ws[i]) := by
      unfold envAt
      rw [List.getElem?_append_left (by simpa using h), List.getElem?_map, List.getElem?_eq_getElem h]; rfl
    rw [h1] at hi
    cases hi
    obtain ⟨v, hv, rv⟩ := r.get (List.getElem?_eq_getElem h)
    refine ⟨v, ?_, rv⟩
    unfold L2.start
    rw [List.getElem?_append_left (by rw [List.length_map, ← hl]; exact h), List.getElem?_map, hv]; rfl
  · unfold envAt at hi
    rw [List.getElem?_append_right (by simpa using h)] at hi
    rw [List.getElem?_replicate] at hi
    split at hi
    · cases hi
    · cases hi
theorem sr_nil : SR K [] H [] := ⟨rfl, .nil, fun a h => by simp at h, fun n c a h => by simp at h⟩
theorem sr_one {a : Addr} {ws : List W} {vs : List V} (ha : H a = some (.lst vs)) (r : RepWL K [a] H ws vs) : SR K [a] H [.lst ws] := ⟨rfl, by simp, fun b h => by simp at h; subst h; rw [ha]; simp, fun n c b h1 h2 => by
  cases n with
  | zero =>
    simp at h1 h2
    subst h1 h2
    exact ⟨vs, ha, r⟩
  | succ n => simp at h1⟩
theorem Stp.same0 (p : Stp [] H ι' H') : Same H H' := fun b o h => p.ext.oth b o (by simp) h
end

/-- what the module's top has written: the constants and the built-in names -/
structure Glob (T : Tb) (G : Nat → D) (K : KW) (mg : Str → Option Value) : Prop where
  cons : ∀ (g : Nat) (x : Str), T.cons[g]? = some (some x) → ∃ u v, mg x = some u ∧ RelV v u ∧ ∀ H, Rep K H (G g) v
  blt : ∀ x ∈ bltNames, mg x = none
  gcd : T.gcd = true → mg "gcd" = some (.builtin "math.gcd")
/-- a function of the table stands in the module -/
structure FnIn (T : Tb) (K : PySem.W.Frag) (mg : Str → Option Value) (fd : FD) : Prop where
  ok : ∃ (st : Stmt) (a : Addr) (f : FuncData), Fun K fd.nm fd.nm st a f ∧ mg fd.nm = some (.ref a) ∧ (∀ us : List Value, us.length = (fd.N.take fd.np).length → bindArgs f ⟨us, []⟩ = pure ((fd.N.take fd.np).zip us)) ∧ fdB T fd st = true
section
variable {P : Program} {K : KW} {mg : Str → Option Value} {base : Heap} {T : Tb} {G : Nat → D} {N k : Nat} {fd : FD} {Φ : Nat → FSpec}
theorem take_len {fd : FD} {st : Stmt} (h : fdB T fd st = true) : (fd.N.take fd.np).length = fd.np := by
  simp only [fdB, Bool.and_eq_true, decide_eq_true_eq] at h
  rw [List.length_take]; omega
theorem sp_len {st : Stmt} (h : fdB T fd st = true) : ∀ vs H Q E, spOf K (specOf Φ G N fd) vs H Q E → vs.length = (fd.N.take fd.np).length := by
  intro vs H Q E q
  rw [take_len h]
  unfold specOf at q
  split at q
  · obtain ⟨ds, d, r, e, _⟩ := q
    unfold runP at e
    split at e
    · rename_i hl; rw [← r.length]; exact hl
    · cases e
  · obtain ⟨a, ws, c, us, d, c', r, _, _, e, _⟩ := q
    unfold runC at e
    split at e
    · rename_i hl; rw [← r.length]; exact hl
    · cases e
  · obtain ⟨ds, d, r, e, _⟩ := q
    unfold runN at e
    split at e
    · rename_i hl; rw [← r.length]; exact hl
    · cases e
/-- a function by its matched text -/
theorem fn_ok {st : Stmt} {a : Addr} {f : FuncData} (F : Fun K fd.nm fd.nm st a f) (hB : fdB T fd st = true) (gl : Glob T G K mg)
    (fns : ∀ (g : Nat) (gd : FD), T.fds[g]? = some (some gd) → ∃ (a : Addr) (f : FuncData) (ps : List Str), mg gd.nm = some (.ref a) ∧ PySem.W.keepIn K (.ref a) = true ∧ Binds K f ps [] ∧ FnOk P K.w K.K mg base CX0 k a f ps (spOf K (Φ g))) :
    FnOk P K.w K.K mg base CX0 (k + 1) a f (fd.N.take fd.np) (spOf K (specOf Φ G N fd)) := by
  have hB' := hB
  simp only [fdB, Bool.and_eq_true, decide_eq_true_eq] at hB'
  obtain ⟨⟨h1, h2⟩, h3⟩ := hB'
  have S := scope_ok h1
  refine F.ok S (sp_len hB) fun cdv A outer s H vs Q E hr hsp => ?_
  have ok : SOk (cfOf T fd) Φ G (defScope st) k (cxOf CX0 P K.w K.K mg base fd.N fd.nm (defScope st) a cdv A outer s H E).nox := by
    refine ⟨⟨rfl, S.nd, rfl, rfl, hr, fun g x hg => ?_, gl.cons, gl.blt, gl.gcd⟩, fun n hn => ?_, S.kind, rfl⟩
    · have hg : (T.fds.map fun o => o.map (·.nm))[g]? = some (some x) := hg
      rw [List.getElem?_map] at hg
      match hf : T.fds[g]? with
      | none => rw [hf] at hg; cases hg
      | some none => rw [hf] at hg; cases hg
      | some (some gd) =>
        rw [hf] at hg
        cases hg
        obtain ⟨a, f, ps, q1, q2, q3, q4⟩ := fns g gd hf
        exact ⟨a, f, ps, k, Nat.le_refl _, q1, q2, q3, q4⟩
    · refine ⟨?_, .inl rfl⟩
      simp only [locB, Bool.or_eq_true, decide_eq_true_eq] at hn
      exact hn
  refine ⟨_, sSs (N := N) ok fd.body _ h3, ?_⟩
  show tS K (evSs Φ G N fd.body) { nx := fun _ H' => Q .non H', rt := Q } (L2.start fd.N vs) H
  unfold specOf at hsp
  split at hsp
  · obtain ⟨ds, d, r, e, q⟩ := hsp
    unfold runP at e
    split at e
    · split at e
      · rename_i d' h' he
        cases e
        exact ⟨[], _, [], _, sr_nil, .start (RepWL.of r), he, fun ι1 H1 v p s1 rv => q H1 v p.same0 rv.pure⟩
      · rename_i env' h' he
        cases e
        exact ⟨[], _, [], _, sr_nil, .start (RepWL.of r), he, fun ι1 H1 σ p s1 _ => q H1 .non p.same0 .non⟩
      · cases e
    · cases e
  · obtain ⟨b, ws, c, us, d, c', r, hb, rc, e, q⟩ := hsp
    have key : ∀ (x : D) (h' : DH) (ι1 : List Addr) (H1 : Hp) (v : V), outC x h' = some (d, c') → Stp [b] H ι1 H1 → SR K ι1 H1 h' → Rep K H1 x v → Q v H1 := by
      intro x h' ι1 H1 v e p s1 rv
      unfold outC at e
      split at e
      · rename_i ws' hw
        simp only [Option.map_eq_some_iff, Prod.mk.injEq] at e
        obtain ⟨c1, hc1, rfl, rfl⟩ := e
        have hb1 : ι1[0]? = some b := by
          obtain ⟨t, rfl⟩ := p.pre
          rfl
        obtain ⟨us', hu, ru⟩ := s1.cell 0 _ b hw hb1
        exact q H1 v us' p.ext hu (ru.pure hc1) rv
      · cases e
    unfold runC at e
    split at e
    · split at e
      · rename_i d' h' he
        exact ⟨[b], _, _, _, sr_one hb (RepWL.of rc), .start r, he, fun ι1 H1 v p s1 rv => key _ _ ι1 H1 v e p s1 rv.pure⟩
      · rename_i env' h' he
        exact ⟨[b], _, _, _, sr_one hb (RepWL.of rc), .start r, he, fun ι1 H1 σ p s1 _ => key _ _ ι1 H1 .non e p s1 .non⟩
      · cases e
    · cases e
  · obtain ⟨ds, rs, r, e, q⟩ := hsp
    unfold runN at e
    split at e
    · split at e
      · rename_i n h' he
        split at e
        · rename_i ws hw
          refine ⟨[], _, [], _, sr_nil, .start (RepWL.of r), he, fun ι1 H1 v p s1 rv => ?_⟩
          obtain ⟨b, rfl, hb⟩ := rv.cell
          obtain ⟨us, hu, ru⟩ := s1.cell n _ b hw hb
          refine q H1 b us p.same0 ?_ hu (ru.pure e)
          rcases p.new b (List.mem_of_getElem? hb) with z | z
          · simp at z
          · exact z
        · cases e
      · cases e
    · cases e
/-- all the table's functions, to any depth of calls -/
theorem tb_ok (gl : Glob T G K mg) (fns : ∀ fd, some fd ∈ T.fds → FnIn T K mg fd) : ∀ (k : Nat) (g : Nat) (gd : FD), T.fds[g]? = some (some gd) →
    ∀ (st : Stmt) (a : Addr) (f : FuncData), Fun K gd.nm gd.nm st a f → mg gd.nm = some (.ref a) → Binds K f (gd.N.take gd.np) [] → fdB T gd st = true → FnOk P K.w K.K mg base CX0 k a f (gd.N.take gd.np) (spOf K (phi T G N k g))
  | 0, g, gd, hg, st, a, f, F, hm, hb, hB => ⟨fun vs H Q E q => q.elim, fun A outer s H args us vs Q E _ _ _ _ q => q.elim⟩
  | k + 1, g, gd, hg, st, a, f, F, hm, hb, hB => by
    have e : phi T G N (k + 1) g = specOf (phi T G N k) G N gd := by
      show (match T.fds[g]? with | some (some fd) => specOf (phi T G N k) G N fd | _ => .none) = _
      rw [hg]
    rw [e]
    refine fn_ok F hB gl fun g' gd' hg' => ?_
    obtain ⟨st', a', f', F', hm', hb', hB'⟩ := (fns gd' (List.mem_of_getElem? hg')).ok
    exact ⟨a', f', _, hm', F'.kp, .all hb', tb_ok gl fns k g' gd' hg' st' a' f' F' hm' (.all hb') hB'⟩
end
/-- the law's own reading of a script -/
def spLaw (K : PySem.W.Frag) (n : Nat) : Sp := fun vs H Q _ => ∃ (a : Addr) (ns : List Int), vs = [.ref a] ∧ SqS K H a (ns.map V.int) ∧ ns.length ≤ n ∧ ∀ H', Q (.bl true) H'
end Sh

/-! the end of a law -/
namespace Sh
open PySem PySem.Spec PyProof.Rows L2
theorem fnIn_mk {T : Tb} {K : PySem.W.Frag} {h : Heap} {mg : Str → Option Value} {fd : FD} {st : Stmt} {f : Addr} {od an : Option Addr} {sl : Array (Option Value)} {oc kV dc pm cd ct : Value} (X : K.In h) (G : h.Ns mainGlobals mg)
    (a : PySem.W.nsIn K mainGlobals fd.nm = some (some (.ref f))) (l : K.lookup f = some ⟨oc, od, .func (PySem.W.fnOf fd.nm fd.nm (defArgs st) (defBody st) (defScope st) .none kV dc pm an cd ct), sl⟩) (c : PySem.W.codeIn K cd fd.nm = true) (k : PySem.W.keepIn K (.ref f) = true)
    (b : ∀ (kV doc pm : Value) (an : Option Addr) (cdv ct : Value) (us : List Value), us.length = (fd.N.take fd.np).length → bindArgs (PySem.W.fnOf fd.nm fd.nm (defArgs st) (defBody st) (defScope st) .none kV doc pm an cdv ct) ⟨us, []⟩ = pure ((fd.N.take fd.np).zip us))
    (hB : fdB T fd st = true) : FnIn T K mg fd := by
  have F := fun_mk (st := st) l c k
  exact ⟨st, f, _, F, PySem.W.mg_of X G a, b kV dc pm an cd ct, hB⟩
theorem blt_mk {K : PySem.W.Frag} {h : Heap} {mg : Str → Option Value} (X : K.In h) (G : h.Ns mainGlobals mg)
    (z1 : PySem.W.nsIn K mainGlobals "len" = some none)
    (z2 : PySem.W.nsIn K mainGlobals "abs" = some none)
    (z3 : PySem.W.nsIn K mainGlobals "int" = some none)
    (z4 : PySem.W.nsIn K mainGlobals "tuple" = some none)
    (z5 : PySem.W.nsIn K mainGlobals "all" = some none)
    (z6 : PySem.W.nsIn K mainGlobals "any" = some none)
    (z7 : PySem.W.nsIn K mainGlobals "sum" = some none)
    (z8 : PySem.W.nsIn K mainGlobals "min" = some none)
    (z9 : PySem.W.nsIn K mainGlobals "max" = some none)
    (z10 : PySem.W.nsIn K mainGlobals "str" = some none)
    (z11 : PySem.W.nsIn K mainGlobals "bool" = some none)
    (z12 : PySem.W.nsIn K mainGlobals "list" = some none)
    (z13 : PySem.W.nsIn K mainGlobals "isinstance" = some none)
    (z14 : PySem.W.nsIn K mainGlobals "range" = some none)
    (z15 : PySem.W.nsIn K mainGlobals "enumerate" = some none)
    (z16 : PySem.W.nsIn K mainGlobals "zip" = some none)
    (z17 : PySem.W.nsIn K mainGlobals "sorted" = some none)
    (z18 : PySem.W.nsIn K mainGlobals "set" = some none)
    (z19 : PySem.W.nsIn K mainGlobals "dict" = some none)
    (z20 : PySem.W.nsIn K mainGlobals "repr" = some none) : ∀ x ∈ bltNames, mg x = none := by
  intro x hx
  simp only [bltNames, List.mem_cons, List.not_mem_nil, or_false] at hx
  rcases hx with rfl | rfl | rfl | rfl | rfl | rfl | rfl | rfl | rfl | rfl | rfl | rfl | rfl | rfl | rfl | rfl | rfl | rfl | rfl | rfl
  all_goals first
    | exact PySem.W.mg_none_of X G z1
    | exact PySem.W.mg_none_of X G z2
    | exact PySem.W.mg_none_of X G z3
    | exact PySem.W.mg_none_of X G z4
    | exact PySem.W.mg_none_of X G z5
    | exact PySem.W.mg_none_of X G z6
    | exact PySem.W.mg_none_of X G z7
    | exact PySem.W.mg_none_of X G z8
    | exact PySem.W.mg_none_of X G z9
    | exact PySem.W.mg_none_of X G z10
    | exact PySem.W.mg_none_of X G z11
    | exact PySem.W.mg_none_of X G z12
    | exact PySem.W.mg_none_of X G z13
    | exact PySem.W.mg_none_of X G z14
    | exact PySem.W.mg_none_of X G z15
    | exact PySem.W.mg_none_of X G z16
    | exact PySem.W.mg_none_of X G z17
    | exact PySem.W.mg_none_of X G z18
    | exact PySem.W.mg_none_of X G z19
    | exact PySem.W.mg_none_of X G z20
/-- the constants of the module: whole numbers -/
theorem con_int {K : PySem.W.Frag} {w : World} {h : Heap} {mg : Str → Option Value} {x : Str} {i : Int} {t : Tok} (X : K.In h) (G : h.Ns mainGlobals mg) (a : PySem.W.nsIn K mainGlobals x = some (some (.int i t))) : ∃ u v, mg x = some u ∧ RelV v u ∧ ∀ H, Rep (⟨K, w⟩ : KW) H (.int i) v :=
  ⟨_, .int i, PySem.W.mg_of X G a, ⟨_, rfl⟩, fun H => .int i⟩
/-- THE LAW: what its matched text computes -/
theorem law_end {l : PySem.W.OpenLaw} {w : World} {K : PySem.W.Frag} {mg : Str → Option Value} {fa : Addr} {T : Tb} {G : Nat → D} {k N n g : Nat} {gd : FD} (gl : Glob T G (⟨K, w⟩ : KW) mg) (fns : ∀ fd, some fd ∈ T.fds → FnIn T K mg fd) (hg : T.fds[g]? = some (some gd)) (hfa : mg gd.nm = some (.ref fa))
    (hp : gd.N.take gd.np = [("script" : Str)])
    (law : ∀ ns : List Int, ns.length ≤ n → ∃ f, phi T G N k g = .pure f ∧ f [.scr ns] = some (.bl true)) :
    ∃ fd : FuncData, (∀ (s : Shared) (v : Value), BindsTo s fd ⟨[v], []⟩ [(("script" : Str), v)]) ∧ ∀ base : Heap, K.In base → base.Ns mainGlobals mg → FnOk l.prog w K mg base CX0 k fa fd [("script" : Str)] (spLaw K n) := by
  obtain ⟨st, a, f, F, hm, hbd, hB⟩ := (fns gd (List.mem_of_getElem? hg)).ok
  obtain rfl : a = fa := by have := hm.symm.trans hfa; cases this; rfl
  refine ⟨f, fun s v => ?_, fun base _ _ => ?_⟩
  · have := hbd [v] (by rw [hp]; rfl)
    rw [hp] at this
    exact .of_eq this
  · have := tb_ok (P := l.prog) (K := (⟨K, w⟩ : KW)) (base := base) (N := N) gl fns k g gd hg st _ f F hm (.all hbd) hB
    rw [hp] at this
    refine this.imp fun vs H Q E q => ?_
    obtain ⟨b, ns, rfl, hs, hl, hq⟩ := q
    obtain ⟨f, e1, e2⟩ := law ns hl
    rw [e1]
    refine ⟨[.scr ns], .bl true, .cons (.scr hs) .nil, e2, fun H' v _ r => ?_⟩
    cases r
    exact hq H'
theorem sq_of {K : PySem.W.Frag} {H : Hp} {a : Addr} {xs : List V} (hO : Only H) (h : SqL K H a xs) : SqS K H a xs := by
  rcases h with (h | ⟨o, h⟩) | h
  · rcases hO a with z | ⟨o, ys, z⟩
    · rw [h] at z; cases z
    · rw [h] at z; cases z
  · exact .inl ⟨o, h⟩
  · exact .inr h
end Sh

/-! the evaluator's laws, in plain Lean -/
namespace Sh
open PySem PySem.Spec PyProof.Rows L2

theorem line_lit : line = 16777216 := rfl
theorem b_addI (i j : Int) : binD .add (.int i) (.int j) = some (.int (i + j)) := rfl
theorem b_subI (i j : Int) : binD .sub (.int i) (.int j) = some (.int (i - j)) := rfl
theorem b_mulI (i j : Int) : binD .mul (.int i) (.int j) = if b64 i || b64 j then some (.int (i * j)) else none := rfl
theorem b64_of {i : Int} (h : -(2 ^ 64) < i ∧ i < 2 ^ 64) : b64 i = true := b64_iff.mpr h
theorem b_mulL {i j : Int} (h : b64 i = true) : binD .mul (.int i) (.int j) = some (.int (i * j)) := by rw [b_mulI, h, Bool.true_or, if_pos rfl]
theorem b_mulR {i j : Int} (h : b64 j = true) : binD .mul (.int i) (.int j) = some (.int (i * j)) := by rw [b_mulI, h, Bool.or_true, if_pos rfl]
theorem b_fdiv {i j : Int} (h : 0 < j ∧ j < 1073741824) : binD .fdiv (.int i) (.int j) = some (.int (i / j)) := by
  show (if decide (0 < j) && hi63 j then some (D.int (i / j)) else none) = _
  rw [if_pos (by simp only [Bool.and_eq_true, decide_eq_true_eq, hi63_iff]; omega)]
theorem b_fdivW {i j : Int} (h : 0 < j ∧ j < 2 ^ 63) : binD .fdiv (.int i) (.int j) = some (.int (i / j)) := by
  show (if decide (0 < j) && hi63 j then some (D.int (i / j)) else none) = _
  rw [if_pos (by simp only [Bool.and_eq_true, decide_eq_true_eq, hi63_iff]; exact h)]
theorem b_mod {i j : Int} (h : 0 < j) : binD .mod (.int i) (.int j) = some (.int (i % j)) := by
  show (if 0 < j then some (D.int (i % j)) else none) = _
  rw [if_pos h]
theorem lt_int (i j : Int) : ltD (.int i) (.int j) = decide (i < j) := PySem.W.dataLt_int i j
theorem cmp_int (i j : Int) : cmpOk (.int i) (.int j) = true := by simp [cmpOk, alk, py, PySem.W.alike, shp, flat, dep]
theorem b_ltI (i j : Int) : binD .lt (.int i) (.int j) = some (.bl (decide (i < j))) := by
  show (if cmpOk (.int i) (.int j) then some (D.bl (ltD (.int i) (.int j))) else none) = _
  rw [if_pos (cmp_int i j), lt_int]
theorem b_gtI (i j : Int) : binD .gt (.int i) (.int j) = some (.bl (decide (i > j))) := by
  show (if cmpOk (.int i) (.int j) then some (D.bl (ltD (.int j) (.int i))) else none) = _
  rw [if_pos (cmp_int i j), lt_int]
theorem b_leI (i j : Int) : binD .le (.int i) (.int j) = some (.bl (decide (i ≤ j))) := by
  have e : (!decide (j < i)) = decide (i ≤ j) := by rw [← decide_not]; exact decide_eq_decide.mpr Int.not_lt
  show (if cmpOk (.int i) (.int j) then some (D.bl (!ltD (.int j) (.int i))) else none) = _
  rw [if_pos (cmp_int i j), lt_int, e]
theorem b_geI (i j : Int) : binD .ge (.int i) (.int j) = some (.bl (decide (i ≥ j))) := by
  have e : (!decide (i < j)) = decide (i ≥ j) := by rw [← decide_not]; exact decide_eq_decide.mpr Int.not_lt
  show (if cmpOk (.int i) (.int j) then some (D.bl (!ltD (.int i) (.int j))) else none) = _
  rw [if_pos (cmp_int i j), lt_int, e]
theorem b_eqI (i j : Int) : binD .eq (.int i) (.int j) = some (.bl (decide (i = j))) := rfl
theorem b_neI (i j : Int) : binD .ne (.int i) (.int j) = some (.bl (!decide (i = j))) := rfl
theorem b_eqS (x y : List Nat) : binD .eq (.str x) (.str y) = some (.bl (x == y)) := rfl
theorem b_neS (x y : List Nat) : binD .ne (.str x) (.str y) = some (.bl (!(x == y))) := rfl
theorem b_isN (x : D) : binD .is x .non = some (.bl (isNon x)) := by cases x <;> rfl
theorem b_isnotN (x : D) : binD .isnot x .non = some (.bl (!isNon x)) := by cases x <;> rfl
theorem b_isB (x y : Bool) : binD .is (.bl x) (.bl y) = some (.bl (decide (x = y))) := rfl
theorem b_addS {x y : List Nat} (h : x.length + y.length ≤ line) : binD .add (.str x) (.str y) = some (.str (x ++ y)) := by
  show (if x.length + y.length ≤ line then some (D.str (x ++ y)) else none) = _
  rw [if_pos h]
theorem b_addT {x y : List D} (h : x.length + y.length ≤ line) : binD .add (.tup x) (.tup y) = some (.tup (x ++ y)) := by
  show (if x.length + y.length ≤ line then some (D.tup (x ++ y)) else none) = _
  rw [if_pos h]
theorem b_addL {x y : List D} (h : x.length + y.length ≤ line) : binD .add (.lst x) (.lst y) = some (.lst (x ++ y)) := by
  show (if x.length + y.length ≤ line then some (D.lst (x ++ y)) else none) = _
  rw [if_pos h]
theorem b_pow {i j : Int} (h : 0 ≤ j ∧ j ≤ 1000000 ∧ i.natAbs < 2 ^ 64) : binD .pow (.int i) (.int j) = some (.int (i ^ j.toNat)) := by
  show (if decide (0 ≤ j) && hiP j && b64 i then some (D.int (i ^ j.toNat)) else none) = _
  rw [if_pos (by simp only [Bool.and_eq_true, decide_eq_true_eq, hiP_iff, b64_iff]; exact ⟨⟨h.1, h.2.1⟩, by have := h.2.2; omega⟩)]
theorem ixN_nat {n k : Nat} (h : k < n) : ixN n (k : Int) = some k := by
  unfold ixN
  rw [if_pos (Int.natCast_nonneg k), if_pos (by omega)]; rfl
theorem atI_nat {α : Type} {xs : List α} {k : Nat} {x : α} (h : xs[k]? = some x) : atI xs (k : Int) = some x := by
  have hl : k < xs.length := (List.getElem?_eq_some_iff.mp h).1
  unfold atI
  rw [ixN_nat hl]; exact h
/-! ### the roll -/
def bRoll (p q r s t u : Int) : Ss := (.cons (.ite (.bin .gt (.ix (.var 0) (.lit (.int 0))) (.lit (.int 0))) (.cons (.asg (.pat (.nm 2)) (.bin .mod (.bif .int1 (.cons (.ix (.var 0) (.lit (.int 0))) .nil)) (.var 1))) (.cons (.asg (.sub (.var 0) (.lit (.int 0))) (.bin .fdiv (.ix (.var 0) (.lit (.int 0))) (.var 1))) (.cons (.ret (.var 2)) .nil))) .nil) (.cons (.asg (.sub (.var 0) (.lit (.int 1))) (.bin .mod (.bif .int1 (.cons (.bin .add (.bin .mul (.ix (.var 0) (.lit (.int 1))) (.lit (.int p))) (.lit (.int q))) .nil)) (.lit (.int r)))) (.cons (.asg (.pat (.nm 3)) (.bin .mod (.bif .int1 (.cons (.bin .mul (.ix (.var 0) (.lit (.int 1))) (.bin .add (.ix (.var 0) (.lit (.int 1))) (.lit (.int s)))) .nil)) (.lit (.int t)))) (.cons (.ret (.bin .mod (.bif .int1 (.cons (.bin .fdiv (.var 3) (.lit (.int u))) .nil)) (.var 1))) .nil))))
/-- the cup's two numbers -/
def cupD (c : Int × Int) : List D := [.int c.1, .int c.2]
def rollN (p q r s t u : Int) (c : Int × Int) (m : Int) : Int × (Int × Int) :=
  if 0 < c.1 then (c.1 % m, (c.1 / m, c.2)) else
    let d := (c.2 * p + q) % r
    (((d * (d + s)) % t / u) % m, (c.1, d))
def cupOk (c : Int × Int) : Prop := 0 ≤ c.1 ∧ 0 ≤ c.2 ∧ c.2 < 2 ^ 63
theorem roll_ok {p q r s t u : Int} {nm : Str} (Φ : Nat → FSpec) (G : Nat → D) (N : Nat) {c : Int × Int} {m : Int} (hc : cupOk c) (hm : 0 < m ∧ m < 2 ^ 63) (hp : b64 p = true) (hr : 0 < r ∧ r < 2 ^ 63) (ht : 0 < t) (hu : 0 < u ∧ u < 1073741824) :
    runC Φ G N { nm := nm, np := 2, N := ["cup", "many", "found", "deep"], kd := 1, body := bRoll p q r s t u } [.ref 0, .d (.int m)] (cupD c) = some (.int (rollN p q r s t u c m).1, cupD (rollN p q r s t u c m).2) := by
  obtain ⟨c0, c1⟩ := c
  obtain ⟨h0, h1, h2⟩ := hc
  have m64 : b64 ((c1 * p + q) % r) = true := b64_of ⟨by have := Int.emod_nonneg (c1 * p + q) (Int.ne_of_gt hr.1); omega, by have := Int.emod_lt_of_pos (c1 * p + q) hr.1; omega⟩
  by_cases hg : 0 < c0
  · have e : rollN p q r s t u (c0, c1) m = (c0 % m, (c0 / m, c1)) := by unfold rollN; rw [if_pos hg]
    rw [e]
    have hd : decide (c0 > 0) = true := decide_eq_true hg
    simp [runC, bRoll, cupD, envAt, evSs, evS, evE, evEs, valsD, valD, bifD, ixW, atI, ixN, b_gtI, hd, b_mod hm.1, b_fdivW hm, storeW, outC, pureL]
  · have e : rollN p q r s t u (c0, c1) m = ((((c1 * p + q) % r * ((c1 * p + q) % r + s)) % t / u) % m, (c0, (c1 * p + q) % r)) := by unfold rollN; rw [if_neg hg]
    rw [e]
    have hd : decide (c0 > 0) = false := decide_eq_false hg
    simp [runC, bRoll, cupD, envAt, evSs, evS, evE, evEs, valsD, valD, bifD, ixW, atI, ixN, b_gtI, hd, b_mod hm.1, b_mod hr.1, b_mod ht, b_fdiv hu, b_mulR hp, b_mulL m64, b_addI, storeW, outC, pureL]
end Sh
namespace Sh
open PySem PySem.Spec PyProof.Rows L2
/-! ### the cup -/
def bCup (a b c d e : Int) : Ss := (.cons (.asg (.pat (.nm 1)) (.bif .abs (.cons (.ix (.bin .add (.mkl false (.ofl (.var 0))) (.mkl false (.disp (.cons (.lit (.int 0)) .nil)))) (.lit (.int 0))) .nil))) (.cons (.ret (.mkl true (.disp (.cons (.ite (.bin .ge (.var 1) (.bin .pow (.lit (.int 10)) (.lit (.int 18)))) (.bin .fdiv (.var 1) (.lit (.int a))) (.lit (.int 0))) (.cons (.bin .add (.bin .mod (.bif .int1 (.cons (.bin .add (.bin .mul (.var 1) (.lit (.int b))) (.lit (.int c))) .nil)) (.lit (.int d))) (.lit (.int e))) .nil))))) .nil))
def cellOf (ns : List Int) : Int := let x := ns.headD 0; if x < 0 then -x else x
def cupOf (a b c d e : Int) (ns : List Int) : Int × Int := (if cellOf ns ≥ 10 ^ 18 then cellOf ns / a else 0, (cellOf ns * b + c) % d + e)
theorem pureL_ds : ∀ ds : List D, pureL (ds.map W.d) = some ds
  | [] => rfl
  | d :: ds => by
    have := pureL_ds ds
    simp only [List.map_cons, pureL, this]; rfl
@[simp] theorem pureL_f {α : Type} (f : α → D) (l : List α) : pureL (l.map (W.d ∘ f)) = some (l.map f) := by rw [← List.map_map]; exact pureL_ds _
@[simp] theorem pureL_f' {α : Type} (f : α → D) (l : List α) : pureL (l.map fun x => W.d (f x)) = some (l.map f) := pureL_f f l
theorem atI_zero {α : Type} (x : α) (xs : List α) : atI (x :: xs) 0 = some x := atI_nat (k := 0) rfl
theorem f_int1 (i : Int) : bifD .int1 [.int i] = some (.int i) := rfl
theorem f_abs (i : Int) : bifD .abs [.int i] = some (.int i.natAbs) := by
  show some (D.int (if i < 0 then -i else i)) = _
  congr 2
  split <;> omega
theorem f_lenL (xs : List D) : bifD .len [.lst xs] = some (.int xs.length) := rfl
theorem f_lenT (xs : List D) : bifD .len [.tup xs] = some (.int xs.length) := rfl
theorem f_lenS {xs : List Nat} (h : xs.length ≤ line) : bifD .len [.str xs] = some (.int xs.length) := if_pos h
theorem f_tupL (xs : List D) : bifD .tuple [.lst xs] = some (.tup xs) := rfl
theorem f_tupT (xs : List D) : bifD .tuple [.tup xs] = some (.tup xs) := rfl
theorem f_str1 (xs : List Nat) : bifD .str1 [.str xs] = some (.str xs) := rfl
theorem f_gcd (i j : Int) : bifD .gcd [.int i, .int j] = some (.int ((Nat.gcd i.natAbs j.natAbs : Nat) : Int)) := rfl
theorem f_min (i j : Int) : bifD .min2 [.int i, .int j] = some (.int (if j < i then j else i)) := rfl
theorem f_max (i j : Int) : bifD .max2 [.int i, .int j] = some (.int (if j > i then j else i)) := rfl
theorem blsD_map : ∀ bs : List Bool, blsD (bs.map D.bl) = some bs
  | [] => rfl
  | b :: bs => by rw [List.map_cons, blsD, blsD_map bs]; rfl
theorem intsD_map : ∀ bs : List Int, intsD (bs.map D.int) = some bs
  | [] => rfl
  | b :: bs => by rw [List.map_cons, intsD, intsD_map bs]; rfl
theorem f_all (bs : List Bool) : bifD .all [.lst (bs.map D.bl)] = some (.bl (bs.all id)) := by
  show (blsD (bs.map D.bl)).map _ = _
  rw [blsD_map]; rfl
theorem f_any (bs : List Bool) : bifD .any [.lst (bs.map D.bl)] = some (.bl (bs.any id)) := by
  show (blsD (bs.map D.bl)).map _ = _
  rw [blsD_map]; rfl
theorem f_sum (bs : List Int) : bifD .sum [.lst (bs.map D.int)] = some (.int bs.sum) := by
  show (intsD (bs.map D.int)).map _ = _
  rw [intsD_map]; rfl
def b_pow_18 : Int := 10 ^ 18
theorem pow_18 : binD .pow (.int 10) (.int 18) = some (.int b_pow_18) := rfl
theorem cup_ok {a b c d e : Int} {nm : Str} (Φ : Nat → FSpec) (G : Nat → D) (N : Nat) {ns : List Int} (hl : ns.length ≤ 63) (ha : 0 < a ∧ a < 1073741824) (hb : b64 b = true) (hd : 0 < d ∧ d < 2 ^ 62) (he : 0 ≤ e ∧ e < 2 ^ 62) :
    runN Φ G N { nm := nm, np := 1, N := ["script", "cell"], kd := 2, body := bCup a b c d e } [.scr ns] = some (cupD (cupOf a b c d e ns)) ∧ cupOk (cupOf a b c d e ns) := by
  have hcell : 0 ≤ cellOf ns := by unfold cellOf; simp only []; split <;> omega
  constructor
  · have h1 : (ns.map D.int).length + [D.int 0].length ≤ line := by rw [List.length_map]; simp only [line, List.length_cons, List.length_nil]; omega
    have hx : atI (ns.map D.int ++ [D.int 0]) 0 = some (.int (ns.headD 0)) := by cases ns <;> exact atI_zero _ _
    have hab : bifD .abs [.int (ns.headD 0)] = some (.int (cellOf ns)) := rfl
    have hdf : cupOf a b c d e ns = (if cellOf ns ≥ 10 ^ 18 then cellOf ns / a else 0, (cellOf ns * b + c) % d + e) := rfl
    rw [hdf]
    generalize cellOf ns = y at *
    generalize ns.headD 0 = x at *
    have p18 : b_pow_18 = (10 : Int) ^ 18 := rfl
    by_cases hg : y ≥ b_pow_18
    · rw [if_pos (by rw [← p18]; exact hg)]
      have hd' : decide (y ≥ b_pow_18) = true := decide_eq_true hg
      simp [runN, bCup, envAt, evSs, evS, evE, evEs, evC, mkL, pureL, valsD, valD, f_int1, ixW, ixD, hx, hab, b_addL h1, pow_18, b_geI, hd', b_mod hd.1, b_fdiv ha, b_mulR hb, b_addI, line, cupD]
    · rw [if_neg (by rw [← p18]; exact hg)]
      have hd' : decide (y ≥ b_pow_18) = false := decide_eq_false hg
      simp [runN, bCup, envAt, evSs, evS, evE, evEs, evC, mkL, pureL, valsD, valD, f_int1, ixW, ixD, hx, hab, b_addL h1, pow_18, b_geI, hd', b_mod hd.1, b_fdiv ha, b_mulR hb, b_addI, line, cupD]
  · have h1 := Int.emod_nonneg (cellOf ns * b + c) (Int.ne_of_gt hd.1)
    have h2 := Int.emod_lt_of_pos (cellOf ns * b + c) hd.1
    refine ⟨?_, by simp only [cupOf]; omega, by simp only [cupOf]; omega⟩
    simp only [cupOf]
    split
    · exact Int.ediv_nonneg hcell (Int.le_of_lt ha.1)
    · exact Int.le_refl _
theorem rollN_ok {p q r s t u : Int} {c : Int × Int} {m : Int} (hc : cupOk c) (hm : 0 < m) (hr : 0 < r ∧ r < 2 ^ 63) : 0 ≤ (rollN p q r s t u c m).1 ∧ (rollN p q r s t u c m).1 < m ∧ cupOk (rollN p q r s t u c m).2 := by
  obtain ⟨c0, c1⟩ := c
  obtain ⟨h0, h1, h2⟩ := hc
  simp only [] at h0 h1 h2
  unfold rollN
  split
  · exact ⟨Int.emod_nonneg _ (Int.ne_of_gt hm), Int.emod_lt_of_pos _ hm, Int.ediv_nonneg h0 (Int.le_of_lt hm), h1, h2⟩
  · have := Int.emod_nonneg (c1 * p + q) (Int.ne_of_gt hr.1)
    have := Int.emod_lt_of_pos (c1 * p + q) hr.1
    exact ⟨Int.emod_nonneg _ (Int.ne_of_gt hm), Int.emod_lt_of_pos _ hm, h0, by assumption, by simp only []; omega⟩
/-! ### loops -/
theorem forD_fold {α β : Type} {turn : D → Env → DH → Option Out} (f : β → D) (E : α → Env) (Hh : α → DH) (step : α → β → α) (P : List β → α → Prop) : ∀ (bs : List β) (a : α), P bs a →
    (∀ a b r, P (b :: r) a → turn (f b) (E a) (Hh a) = some (.nx (E (step a b)) (Hh (step a b))) ∧ P r (step a b)) →
    forD turn (bs.map f) (E a) (Hh a) = some (.nx (E (bs.foldl step a)) (Hh (bs.foldl step a))) ∧ P [] (bs.foldl step a)
  | [], a, pa, _ => ⟨rfl, pa⟩
  | b :: bs, a, pa, h => by
    obtain ⟨e, p⟩ := h a b bs pa
    have ih := forD_fold f E Hh step P bs (step a b) p h
    refine ⟨?_, ih.2⟩
    simp only [List.map_cons, forD, e, Option.bind_eq_bind, Option.bind_some, List.foldl_cons]
    exact ih.1
theorem compD_flat {β : Type} {turn : D → DH → Option (List W × DH)} {h : DH} (f : β → D) (g : β → List W) : ∀ (bs : List β), (∀ b ∈ bs, turn (f b) h = some (g b, h)) → compD turn (bs.map f) h = some (bs.flatMap g, h)
  | [], _ => rfl
  | b :: bs, H => by
    have ih := compD_flat f g bs fun b hb => H b (List.mem_cons_of_mem _ hb)
    simp only [List.map_cons, compD, H b List.mem_cons_self, ih, Option.bind_eq_bind, Option.bind_some, List.flatMap_cons]
theorem flat_one {β γ : Type} (g : β → γ) : ∀ bs : List β, (bs.flatMap fun b => [g b]) = bs.map g
  | [] => rfl
  | b :: bs => by rw [List.flatMap_cons, flat_one g bs]; rfl
theorem compD_map {β : Type} {turn : D → DH → Option (List W × DH)} {h : DH} (f : β → D) (g : β → W) (bs : List β) (H : ∀ b ∈ bs, turn (f b) h = some ([g b], h)) : compD turn (bs.map f) h = some (bs.map g, h) := by
  rw [compD_flat f (fun b => [g b]) bs H]
  rw [flat_one]
theorem whileD_go {test : Env → DH → Option (Bool × DH)} {body : Env → DH → Option Out} {k : Nat} {env env1 : Env} {h h1 h2 : DH} (ht : test env h = some (true, h1)) (hb : body env h1 = some (.nx env1 h2)) : whileD test body (k + 1) env h = whileD test body k env1 h2 := by
  simp only [whileD, ht, hb, Option.bind_eq_bind, Option.bind_some, if_true]
theorem whileD_end {test : Env → DH → Option (Bool × DH)} {body : Env → DH → Option Out} {k : Nat} {env : Env} {h h1 : DH} (ht : test env h = some (false, h1)) : whileD test body (k + 1) env h = some (.nx env h1) := by
  simp only [whileD, ht, Option.bind_eq_bind, Option.bind_some, Bool.false_eq_true, if_false]
section
variable {Φ : Nat → FSpec} {G : Nat → D} {N : Nat}
theorem ss_nx {s : S} {r : Ss} {env e1 : Env} {h h1 : DH} (e : evS Φ G N s env h = some (.nx e1 h1)) : evSs Φ G N (.cons s r) env h = evSs Φ G N r e1 h1 := by
  simp only [evSs, e, Option.bind_eq_bind, Option.bind_some]
theorem ss_rt {s : S} {r : Ss} {env : Env} {w : W} {h h1 : DH} (e : evS Φ G N s env h = some (.rt w h1)) : evSs Φ G N (.cons s r) env h = some (.rt w h1) := by
  simp only [evSs, e, Option.bind_eq_bind, Option.bind_some]
theorem ev_var {i : Nat} {env : Env} {h : DH} : evE Φ G (.var i) env h = (match env[i]? with
    | some (some w) => some (w, h)
    | _ => .none) := by rw [evE] <;> rfl
theorem ev_lit {d : D} {env : Env} {h : DH} : evE Φ G (.lit d) env h = some (.d d, h) := by rw [evE]
theorem ev_con {g : Nat} {env : Env} {h : DH} : evE Φ G (.con g) env h = some (.d (G g), h) := by rw [evE]
theorem ev_bin {o : Bop} {a b : E} {env : Env} {h : DH} : evE Φ G (.bin o a b) env h = (evE Φ G a env h).bind fun p => (evE Φ G b env p.2).bind fun q => (valD q.2 p.1).bind fun dx => (valD q.2 q.1).bind fun dy => (binD o dx dy).bind fun r => some (.d r, q.2) := by rw [evE] <;> rfl
theorem ev_not {a : E} {env : Env} {h : DH} : evE Φ G (.not a) env h = (evE Φ G a env h).bind fun p => (match p.1 with
    | .d (.bl b) => some (.d (.bl (!b)), p.2)
    | _ => .none) := by rw [evE] <;> rfl
theorem ev_or {a b : E} {env : Env} {h : DH} : evE Φ G (.or a b) env h = (evE Φ G a env h).bind fun p => (match p.1 with
    | .d (.bl false) => evE Φ G b env p.2
    | .d (.bl true) => some (.d (.bl true), p.2)
    | _ => .none) := by rw [evE] <;> rfl
theorem ev_and {a b : E} {env : Env} {h : DH} : evE Φ G (.and a b) env h = (evE Φ G a env h).bind fun p => (match p.1 with
    | .d (.bl true) => evE Φ G b env p.2
    | .d (.bl false) => some (.d (.bl false), p.2)
    | _ => .none) := by rw [evE] <;> rfl
theorem ev_ite {c a b : E} {env : Env} {h : DH} : evE Φ G (.ite c a b) env h = (evE Φ G c env h).bind fun p => (match p.1 with
    | .d (.bl true) => evE Φ G a env p.2
    | .d (.bl false) => evE Φ G b env p.2
    | _ => .none) := by rw [evE] <;> rfl
theorem ev_tup {es : Es} {env : Env} {h : DH} : evE Φ G (.tup es) env h = (evEs Φ G es env h).bind fun p => (pureL p.1).bind fun ds => if ds.length ≤ line then some (.d (.tup ds), p.2) else .none := by rw [evE] <;> rfl
theorem ev_ix {a b : E} {env : Env} {h : DH} : evE Φ G (.ix a b) env h = (evE Φ G a env h).bind fun p => (evE Φ G b env p.2).bind fun q => (ixW q.2 p.1 q.1).bind fun w => some (w, q.2) := by rw [evE] <;> rfl
theorem ev_bif {b : Bif} {es : Es} {env : Env} {h : DH} : evE Φ G (.bif b es) env h = (evEs Φ G es env h).bind fun p => (valsD p.2 p.1).bind fun ds => (bifD b ds).bind fun r => some (.d r, p.2) := by rw [evE] <;> rfl
theorem ev_disp {m : Bool} {es : Es} {env : Env} {h : DH} : evE Φ G (.mkl m (.disp es)) env h = (evEs Φ G es env h).bind fun p => if p.1.length ≤ line then mkL m p.1 p.2 else .none := by
  rw [evE, evC]
  cases h1 : evEs Φ G es env h with
  | none => rfl
  | some p => by_cases hl : p.1.length ≤ line <;> simp [hl]
theorem call_p {f : Nat} {es : Es} {env : Env} {h h1 : DH} {ws : List W} {ds : List D} {g : List D → Option D} {r : D} (he : evEs Φ G es env h = some (ws, h1)) (hf : Φ f = .pure g) (hp : pureL ws = some ds) (hg : g ds = some r) : evE Φ G (.call f es) env h = some (.d r, h1) := by
  simp only [evE, he, hf, hp, hg, Option.bind_eq_bind, Option.bind_some]
theorem ite_t {c : E} {a b : Ss} {env : Env} {h h1 : DH} (e : evE Φ G c env h = some (.d (.bl true), h1)) : evS Φ G N (.ite c a b) env h = evSs Φ G N a env h1 := by
  simp only [evS, e, Option.bind_eq_bind, Option.bind_some]
theorem ite_f {c : E} {a b : Ss} {env : Env} {h h1 : DH} (e : evE Φ G c env h = some (.d (.bl false), h1)) : evS Φ G N (.ite c a b) env h = evSs Φ G N b env h1 := by
  simp only [evS, e, Option.bind_eq_bind, Option.bind_some]
theorem s_ret {e : E} {env : Env} {h h1 : DH} {w : W} (q : evE Φ G e env h = some (w, h1)) : evS Φ G N (.ret e) env h = some (.rt w h1) := by
  simp only [evS, q, Option.bind_eq_bind, Option.bind_some]
theorem s_nm {i : Nat} {e : E} {env : Env} {h h1 : DH} {w : W} (q : evE Φ G e env h = some (w, h1)) : evS Φ G N (.asg (.pat (.nm i)) e) env h = some (.nx (env.set i (some w)) h1) := by
  simp only [evS, q, Option.bind_eq_bind, Option.bind_some]
theorem bif1 {b : Bif} {e : E} {env : Env} {h h1 : DH} {w : W} {d r : D} (q : evE Φ G e env h = some (w, h1)) (hv : valD h1 w = some d) (hr : bifD b [d] = some r) : evE Φ G (.bif b (.cons e .nil)) env h = some (.d r, h1) := by
  simp only [evE, evEs, q, Option.bind_eq_bind, Option.bind_some, valsD, hv, hr]
theorem run_rt {fd : FD} {ds : List D} {d : D} {hh : DH} (hl : ds.length = fd.np) (e : evSs Φ G N fd.body (envAt fd.N.length (ds.map W.d)) [] = some (.rt (.d d) hh)) : runP Φ G N fd ds = some d := by
  unfold runP
  rw [if_pos hl, e]
theorem run_nx {fd : FD} {ds : List D} {env : Env} {hh : DH} (hl : ds.length = fd.np) (e : evSs Φ G N fd.body (envAt fd.N.length (ds.map W.d)) [] = some (.nx env hh)) : runP Φ G N fd ds = some .non := by
  unfold runP
  rw [if_pos hl, e]
theorem run_c {fd : FD} {ws : List W} {c c' : List D} {d : D} {hh : DH} (hl : ws.length = fd.np) (e : evSs Φ G N fd.body (envAt fd.N.length ws) [.lst (c.map W.d)] = some (.rt (.d d) (.lst (c'.map W.d) :: hh))) : runC Φ G N fd ws c = some (d, c') := by
  unfold runC
  rw [if_pos hl, e]
  simp only [outC, List.getElem?_cons_zero, pureL_ds, Option.map_some]
/-- a for whose turns do not leave it -/
theorem for_fold {α β : Type} {p : Pat} {it : E} {body : Ss} {env : Env} {h : DH} {x : D} (f : β → D) (E : α → Env) (Hh : α → DH) (step : α → β → α) (P : List β → α → Prop) (bs : List β) (a : α) (hit : evE Φ G it env h = some (.d x, Hh a)) (hx : itemsD x = some (bs.map f)) (he : env = E a) (pa : P bs a)
    (ht : ∀ a b r, P (b :: r) a → ∃ env1, p.bind (f b) (E a) = some env1 ∧ evSs Φ G N body env1 (Hh a) = some (.nx (E (step a b)) (Hh (step a b))) ∧ P r (step a b)) :
    evS Φ G N (.for p it body) env h = some (.nx (E (bs.foldl step a)) (Hh (bs.foldl step a))) ∧ P [] (bs.foldl step a) := by
  have hf := forD_fold (turn := fun x env h => do let env1 ← p.bind x env; evSs Φ G N body env1 h) f E Hh step P bs a pa fun a b r hp => by
    obtain ⟨env1, h1, h2, h3⟩ := ht a b r hp
    exact ⟨by rw [h1]; exact h2, h3⟩
  refine ⟨?_, hf.2⟩
  simp only [evS, hit, Option.bind_eq_bind, Option.bind_some, hx]
  subst he
  exact hf.1
theorem pureL_flat {β : Type} (g : β → List D) (bs : List β) : pureL (bs.flatMap fun b => (g b).map W.d) = some (bs.flatMap g) := by
  rw [← List.map_flatMap]; exact pureL_ds _
/-- list comprehensions of data, one clause -/
theorem comp_flat {β : Type} {own : List Nat} {p : Pat} {it elt : E} {c : Es} {env : Env} {h h0 : DH} {x : D} (f : β → D) (bs : List β) (g : β → List D) (hit : evE Φ G it env h0 = some (.d x, h)) (hx : itemsD x = some (bs.map f))
    (ht : ∀ b ∈ bs, ∃ env1, p.bind (f b) (wipeE env own) = some env1 ∧ ((∃ v, evIf Φ G c env1 h = some (true, h) ∧ evE Φ G elt env1 h = some (.d v, h) ∧ g b = [v]) ∨ (evIf Φ G c env1 h = some (false, h) ∧ g b = []))) (hl : (bs.flatMap g).length ≤ line) :
    evE Φ G (.mkl false (.comp own p it c elt)) env h0 = some (.d (.lst (bs.flatMap g)), h) := by
  have hf := compD_flat (turn := fun x h => do
      let env1 ← p.bind x (wipeE env own)
      let (b, h1) ← evIf Φ G c env1 h
      if b = true then do
        let (w, h2) ← evE Φ G elt env1 h1
        some ([w], h2)
      else some ([], h1)) (h := h) f (fun b => (g b).map W.d) bs fun b hb => by
    obtain ⟨env1, h1, ⟨v, h2, h3, h4⟩ | ⟨h2, h4⟩⟩ := ht b hb
    · simp only [h1, h2, h3, h4, Option.bind_eq_bind, Option.bind_some, if_true, List.map_cons, List.map_nil]
    · simp only [h1, h2, h4, Option.bind_eq_bind, Option.bind_some, Bool.false_eq_true, if_false, List.map_nil]
  have hlen : (bs.flatMap fun b => (g b).map W.d).length ≤ line := by rw [← List.map_flatMap, List.length_map]; exact hl
  simp only [evE, evC, hit, Option.bind_eq_bind, Option.bind_some, compW, hx]
  simp only [Option.bind_eq_bind] at hf
  rw [hf]
  simp only [Option.bind_some, if_pos hlen, mkL, Bool.false_eq_true, if_false, pureL_flat, Option.map_some]
theorem comp_map {β : Type} {own : List Nat} {p : Pat} {it elt : E} {env : Env} {h h0 : DH} {x : D} (f : β → D) (bs : List β) (v : β → D) (hit : evE Φ G it env h0 = some (.d x, h)) (hx : itemsD x = some (bs.map f))
    (ht : ∀ b ∈ bs, ∃ env1, p.bind (f b) (wipeE env own) = some env1 ∧ evE Φ G elt env1 h = some (.d (v b), h)) (hl : bs.length ≤ line) :
    evE Φ G (.mkl false (.comp own p it .nil elt)) env h0 = some (.d (.lst (bs.map v)), h) := by
  have := comp_flat (c := .nil) f bs (fun b => [v b]) hit hx (fun b hb => by
    obtain ⟨env1, h1, h2⟩ := ht b hb
    exact ⟨env1, h1, .inl ⟨_, rfl, h2, rfl⟩⟩) (by rw [flat_one, List.length_map]; exact hl)
  rw [flat_one] at this
  exact this
theorem flat_filter {β γ : Type} (q : β → Bool) (v : β → γ) : ∀ bs : List β, (bs.flatMap fun b => if q b = true then [v b] else []) = (bs.filter q).map v
  | [] => rfl
  | b :: bs => by
    rw [List.flatMap_cons, flat_filter q v bs, List.filter_cons]
    cases h : q b <;> rfl
theorem comp_filter {β : Type} {own : List Nat} {p : Pat} {it elt c : E} {env : Env} {h h0 : DH} {x : D} (f : β → D) (bs : List β) (q : β → Bool) (v : β → D) (hit : evE Φ G it env h0 = some (.d x, h)) (hx : itemsD x = some (bs.map f))
    (ht : ∀ b ∈ bs, ∃ env1, p.bind (f b) (wipeE env own) = some env1 ∧ evE Φ G c env1 h = some (.d (.bl (q b)), h) ∧ (q b = true → evE Φ G elt env1 h = some (.d (v b), h))) (hl : bs.length ≤ line) :
    evE Φ G (.mkl false (.comp own p it (.cons c .nil) elt)) env h0 = some (.d (.lst ((bs.filter q).map v)), h) := by
  have := comp_flat (c := .cons c .nil) f bs (fun b => if q b = true then [v b] else []) hit hx (fun b hb => by
    obtain ⟨env1, h1, h2, h3⟩ := ht b hb
    refine ⟨env1, h1, ?_⟩
    cases hq : q b with
    | true => exact .inl ⟨_, by simp only [evIf, h2, hq, Option.bind_eq_bind, Option.bind_some], h3 hq, by rw [if_pos rfl]⟩
    | false => exact .inr ⟨by simp only [evIf, h2, hq, Option.bind_eq_bind, Option.bind_some], by rw [if_neg Bool.false_ne_true]⟩) (by
      rw [flat_filter, List.length_map]
      exact Nat.le_trans (List.length_filter_le _ _) hl)
  rw [flat_filter] at this
  exact this
/-- two clauses -/
theorem comp2_map {β γ : Type} {own vs1 : List Nat} {p p1 : Pat} {it it1 elt : E} {env : Env} {h h0 : DH} {x : D} (f : β → D) (bs : List β) (f1 : γ → D) (cs : β → List γ) (v : β → γ → D) (hit : evE Φ G it env h0 = some (.d x, h)) (hx : itemsD x = some (bs.map f))
    (ht : ∀ b ∈ bs, ∃ env1 y, p.bind (f b) (wipeE env own) = some env1 ∧ evE Φ G it1 env1 h = some (.d y, h) ∧ itemsD y = some ((cs b).map f1) ∧ ∀ c ∈ cs b, ∃ env2, p1.bind (f1 c) (wipeE env1 vs1) = some env2 ∧ evE Φ G elt env2 h = some (.d (v b c), h))
    (hl : (bs.flatMap fun b => (cs b).map (v b)).length ≤ line) :
    evE Φ G (.mkl false (.comp2 own vs1 p it .nil p1 it1 .nil elt)) env h0 = some (.d (.lst (bs.flatMap fun b => (cs b).map (v b))), h) := by
  have hf := compD_flat (turn := fun x h => do
      let env1 ← p.bind x (wipeE env own)
      let (b, h1) ← evIf Φ G .nil env1 h
      if b = true then do
        let (y, h2) ← evE Φ G it1 env1 h1
        compW (fun y h => do
          let env2 ← p1.bind y (wipeE env1 vs1)
          let (b, h1) ← evIf Φ G .nil env2 h
          if b = true then do
            let (w, h2) ← evE Φ G elt env2 h1
            some ([w], h2)
          else some ([], h1)) y h2
      else some ([], h1)) (h := h) f (fun b => ((cs b).map (v b)).map W.d) bs fun b hb => by
    obtain ⟨env1, y, h1, h2, h3, h4⟩ := ht b hb
    have hg := compD_map (turn := fun y h => do
          let env2 ← p1.bind y (wipeE env1 vs1)
          let (b, h1) ← evIf Φ G .nil env2 h
          if b = true then do
            let (w, h2) ← evE Φ G elt env2 h1
            some ([w], h2)
          else some ([], h1)) (h := h) f1 (fun c => W.d (v b c)) (cs b) fun c hc => by
      obtain ⟨env2, g1, g2⟩ := h4 c hc
      simp only [g1, g2, evIf, Option.bind_eq_bind, Option.bind_some, if_true]
    simp only [h1, evIf, h2, Option.bind_eq_bind, Option.bind_some, if_true, compW, h3]
    simp only [evIf, Option.bind_eq_bind, Option.bind_some, if_true] at hg
    rw [hg, List.map_map]
    rfl
  have hlen : (bs.flatMap fun b => ((cs b).map (v b)).map W.d).length ≤ line := by rw [← List.map_flatMap, List.length_map]; exact hl
  simp only [evE, evC, hit, Option.bind_eq_bind, Option.bind_some, compW, hx]
  simp only [Option.bind_eq_bind, compW] at hf
  rw [hf]
  simp only [Option.bind_some, if_pos hlen, mkL, Bool.false_eq_true, if_false, pureL_flat, Option.map_some]
theorem rng_1 {i : Int} {n : Nat} {a : E} {env : Env} {h h1 : DH} (e : evE Φ G a env h = some (.d (.int i), h1)) (hi : i = n) (hn : n ≤ 16777216) : evE Φ G (.rng (.cons a .nil)) env h = some (.d (.lst ((List.range n).map fun (k : Nat) => D.int k)), h1) := by
  subst hi
  simp only [evE, evEs, e, Option.bind_eq_bind, Option.bind_some, pureL, Option.map_some, rngD]
  rw [if_pos (by simp only [Bool.and_eq_true, lo62_iff, hi24_iff]; omega)]
  simp only [Option.bind_some, Int.toNat_natCast]
end
section
variable (N : Nat)
theorem while_to {test : Env → DH → Option (Bool × DH)} {body : Env → DH → Option Out} (E : Nat → Env) (h : DH) (n : Nat) (ht : ∀ j, j < n → test (E j) h = some (true, h)) (hb : ∀ j, j < n → body (E j) h = some (.nx (E (j + 1)) h)) (he : test (E n) h = some (false, h)) :
    ∀ d j k, j + d = n → d < k → whileD test body k (E j) h = some (.nx (E n) h)
  | 0, j, k, e, hk => by
    obtain ⟨k, rfl⟩ : ∃ i, k = i + 1 := ⟨k - 1, by omega⟩
    have : j = n := by omega
    subst this
    exact whileD_end he
  | d + 1, j, k, e, hk => by
    obtain ⟨k, rfl⟩ : ∃ i, k = i + 1 := ⟨k - 1, by omega⟩
    rw [whileD_go (ht j (by omega)) (hb j (by omega))]
    exact while_to E h n ht hb he d (j + 1) k (by omega) (by omega)
theorem while_s {Φ : Nat → FSpec} {G : Nat → D} {c : E} {body : Ss} (E : Nat → Env) (h : DH) (n : Nat) (q : Nat → Bool) (ht : ∀ j, j ≤ n → evE Φ G c (E j) h = some (.d (.bl (q j)), h)) (hq : ∀ j, j < n → q j = true) (hn : q n = false) (hb : ∀ j, j < n → evSs Φ G N body (E j) h = some (.nx (E (j + 1)) h)) (hN : n < N) :
    evS Φ G N (.while c body) (E 0) h = some (.nx (E n) h) := by
  simp only [evS]
  refine while_to E h n (fun j hj => ?_) hb ?_ n 0 N (by omega) hN
  · simp only [ht j (Nat.le_of_lt hj), hq j hj, Option.bind_eq_bind, Option.bind_some]
  · simp only [ht n (Nat.le_refl _), hn, Option.bind_eq_bind, Option.bind_some]
end
/-! ### turns that are counted only -/
def it {α : Type} (f : α → α) : Nat → α → α
  | 0, a => a
  | n + 1, a => it f n (f a)
theorem fold_it {α β : Type} (f : α → α) : ∀ (l : List β) (a : α), l.foldl (fun a _ => f a) a = it f l.length a
  | [], a => rfl
  | _ :: l, a => fold_it f l (f a)
theorem it_succ {α : Type} (f : α → α) : ∀ (n : Nat) (a : α), it f (n + 1) a = f (it f n a)
  | 0, a => rfl
  | n + 1, a => it_succ f n (f a)
theorem itemsS {cs : List Nat} (h : cs.length ≤ line) : itemsD (.str cs) = some (cs.map fun c => D.str [c]) := if_pos h
end Sh

/-! more laws of the evaluator, for plain proofs -/
namespace Sh
open PySem PySem.Spec PyProof.Rows L2

/-! ### while, by its state -/
def runW {σ : Type} (q : σ → Bool) (step : σ → σ) : Nat → σ → σ
  | 0, a => a
  | k + 1, a => if q a = true then runW q step k (step a) else a
theorem runW_k {σ : Type} {q : σ → Bool} {step : σ → σ} (μ : σ → Nat) (P : σ → Prop) (hp : ∀ a, P a → q a = true → P (step a) ∧ μ (step a) < μ a) : ∀ (k l : Nat) (a : σ), P a → μ a < k → μ a < l → runW q step k a = runW q step l a
  | 0, _, _, _, h, _ => by omega
  | _, 0, _, _, _, h => by omega
  | k + 1, l + 1, a, pa, h1, h2 => by
    unfold runW
    cases hq : q a with
    | false => rfl
    | true =>
      obtain ⟨h3, h4⟩ := hp a pa hq
      simp only [if_true]
      exact runW_k μ P hp k l (step a) h3 (by omega) (by omega)
section
variable {Φ : Nat → FSpec} {G : Nat → D} {N : Nat}
theorem whileW {σ : Type} {c : E} {body : Ss} (E : σ → Env) (Hh : σ → DH) (q : σ → Bool) (step : σ → σ) (P : σ → Prop) (μ : σ → Nat)
    (ht : ∀ a, P a → evE Φ G c (E a) (Hh a) = some (.d (.bl (q a)), Hh a)) (hb : ∀ a, P a → q a = true → evSs Φ G N body (E a) (Hh a) = some (.nx (E (step a)) (Hh (step a))) ∧ P (step a) ∧ μ (step a) < μ a) :
    ∀ (k : Nat) (a : σ), P a → μ a < k → whileD (fun env h => do
      let (x, h1) ← evE Φ G c env h
      match x with
      | .d (.bl b) => some (b, h1)
      | _ => .none) (evSs Φ G N body) k (E a) (Hh a) = some (.nx (E (runW q step k a)) (Hh (runW q step k a))) ∧ P (runW q step k a) ∧ q (runW q step k a) = false
  | 0, a, _, h => by omega
  | k + 1, a, pa, hk => by
    cases hq : q a with
    | false =>
      have e : runW q step (k + 1) a = a := by unfold runW; rw [if_neg (by rw [hq]; exact Bool.false_ne_true)]
      rw [e]
      exact ⟨whileD_end (by simp only [ht a pa, hq, Option.bind_eq_bind, Option.bind_some]), pa, hq⟩
    | true =>
      obtain ⟨h1, h2, h3⟩ := hb a pa hq
      have e : runW q step (k + 1) a = runW q step k (step a) := by
        show (if q a = true then _ else _) = _
        rw [if_pos hq]
      rw [e]
      have ih := whileW E Hh q step P μ ht hb k (step a) h2 (by omega)
      refine ⟨?_, ih.2⟩
      rw [whileD_go (h1 := Hh a) (by simp only [ht a pa, hq, Option.bind_eq_bind, Option.bind_some]) h1]
      exact ih.1
theorem while_st {σ : Type} {c : E} {body : Ss} (E : σ → Env) (Hh : σ → DH) (q : σ → Bool) (step : σ → σ) (P : σ → Prop) (μ : σ → Nat)
    (ht : ∀ a, P a → evE Φ G c (E a) (Hh a) = some (.d (.bl (q a)), Hh a)) (hb : ∀ a, P a → q a = true → evSs Φ G N body (E a) (Hh a) = some (.nx (E (step a)) (Hh (step a))) ∧ P (step a) ∧ μ (step a) < μ a) (a : σ) (pa : P a) (hN : μ a < N) :
    evS Φ G N (.while c body) (E a) (Hh a) = some (.nx (E (runW q step N a)) (Hh (runW q step N a))) ∧ P (runW q step N a) ∧ q (runW q step N a) = false := by
  have := whileW E Hh q step P μ ht hb N a pa hN
  refine ⟨?_, this.2⟩
  simp only [evS]
  exact this.1
/-! ### statements, goal by goal -/
theorem g_nm {i : Nat} {e : E} {r : Ss} {env : Env} {h h1 : DH} {w : W} {o : Option Out} (q : evE Φ G e env h = some (w, h1)) (g : evSs Φ G N r (env.set i (some w)) h1 = o) : evSs Φ G N (.cons (.asg (.pat (.nm i)) e) r) env h = o := by
  rw [ss_nx (s_nm q)]; exact g
theorem s_expr' {e : E} {env : Env} {h h1 : DH} {w : W} (q : evE Φ G e env h = some (w, h1)) : evS Φ G N (.expr e) env h = some (.nx env h1) := by
  simp only [evS, q, Option.bind_eq_bind, Option.bind_some]
theorem g_expr {e : E} {r : Ss} {env : Env} {h h1 : DH} {w : W} {o : Option Out} (q : evE Φ G e env h = some (w, h1)) (g : evSs Φ G N r env h1 = o) : evSs Φ G N (.cons (.expr e) r) env h = o := by
  rw [ss_nx (s_expr' q)]; exact g
theorem g_ret {e : E} {r : Ss} {env : Env} {h h1 : DH} {w : W} (q : evE Φ G e env h = some (w, h1)) : evSs Φ G N (.cons (.ret e) r) env h = some (.rt w h1) := ss_rt (s_ret q)
theorem g_s {s : S} {r : Ss} {env e1 : Env} {h h1 : DH} {o : Option Out} (q : evS Φ G N s env h = some (.nx e1 h1)) (g : evSs Φ G N r e1 h1 = o) : evSs Φ G N (.cons s r) env h = o := by
  rw [ss_nx q]; exact g
theorem g_par {is : List Nat} {es : Es} {r : Ss} {env e1 : Env} {h h1 : DH} {ws : List W} {o : Option Out} (q : evEs Φ G es env h = some (ws, h1)) (q2 : setsE is ws env = some e1) (g : evSs Φ G N r e1 h1 = o) : evSs Φ G N (.cons (.par is es) r) env h = o := by
  rw [ss_nx (e1 := e1) (h1 := h1) (by simp only [evS, q, q2, Option.bind_eq_bind, Option.bind_some])]; exact g
/-- if, the test false, no else -/
theorem g_no {c : E} {a r : Ss} {env : Env} {h h1 : DH} {o : Option Out} (q : evE Φ G c env h = some (.d (.bl false), h1)) (g : evSs Φ G N r env h1 = o) : evSs Φ G N (.cons (.ite c a .nil) r) env h = o := by
  rw [ss_nx (e1 := env) (h1 := h1) (by rw [ite_f q]; rfl)]; exact g
/-- if, the test true, and the function is left -/
theorem g_yes {c : E} {a b r : Ss} {env : Env} {h h1 h2 : DH} {w : W} (q : evE Φ G c env h = some (.d (.bl true), h1)) (g : evSs Φ G N a env h1 = some (.rt w h2)) : evSs Φ G N (.cons (.ite c a b) r) env h = some (.rt w h2) :=
  ss_rt (by rw [ite_t q]; exact g)
/-- a call of plain data -/
theorem call_q {f : Nat} {es : Es} {env : Env} {h h1 : DH} {ds : List D} {g : List D → Option D} {r : D} (he : evEs Φ G es env h = some (ds.map W.d, h1)) (hf : Φ f = .pure g) (hg : g ds = some r) : evE Φ G (.call f es) env h = some (.d r, h1) :=
  call_p he hf (pureL_ds ds) hg
end
/-- a function of the table, at a depth -/
theorem phi_s {T : Tb} {G : Nat → D} {N k i : Nat} {fd : FD} (h : T.fds[i]? = some (some fd)) : phi T G N (k + 1) i = specOf (phi T G N k) G N fd := by
  show (match T.fds[i]? with | some (some fd) => specOf (phi T G N k) G N fd | _ => .none) = _
  rw [h]
theorem phi_p {T : Tb} {G : Nat → D} {N k i : Nat} {fd : FD} (h : T.fds[i]? = some (some fd)) (hk : fd.kd = 0) : phi T G N (k + 1) i = .pure (runP (phi T G N k) G N fd) := by
  rw [phi_s h]; unfold specOf; rw [hk] <;> rfl
theorem phi_c {T : Tb} {G : Nat → D} {N k i : Nat} {fd : FD} (h : T.fds[i]? = some (some fd)) (hk : fd.kd = 1) : phi T G N (k + 1) i = .cell (runC (phi T G N k) G N fd) := by
  rw [phi_s h]; unfold specOf; rw [hk] <;> rfl
theorem phi_n {T : Tb} {G : Nat → D} {N k i : Nat} {fd : FD} (h : T.fds[i]? = some (some fd)) (hk : fd.kd = 2) : phi T G N (k + 1) i = .new (runN (phi T G N k) G N fd) := by
  rw [phi_s h]; unfold specOf; rw [hk] <;> rfl
/-! ### operations -/
theorem b_ltN (i j : Nat) : binD .lt (.int i) (.int j) = some (.bl (decide (i < j))) := by rw [b_ltI]; congr 2; exact decide_eq_decide.mpr Int.ofNat_lt
theorem b_eq {x y : D} (h : (shp x && shp y) = true) : binD .eq x y = some (.bl (eqD x y)) := by
  have : binD .eq x y = if shp x && shp y then some (.bl (eqD x y)) else none := by cases x <;> rfl
  rw [this, if_pos h]
theorem b_ne {x y : D} (h : (shp x && shp y) = true) : binD .ne x y = some (.bl (!eqD x y)) := by
  have : binD .ne x y = if shp x && shp y then some (.bl (!eqD x y)) else none := by cases x <;> rfl
  rw [this, if_pos h]
theorem flatL_ints : ∀ ns : List Int, flatL (ns.map D.int) = true
  | [] => rfl
  | n :: ns => by simp [flatL, flat, flatL_ints ns]
theorem depL_ints : ∀ ns : List Int, depL (ns.map D.int) = 0
  | [] => rfl
  | n :: ns => by simp [depL, dep, depL_ints ns]
theorem shp_ints (ns : List Int) : shp (.lst (ns.map D.int)) = true := by simp [shp, flat, flatL_ints, dep, depL_ints]
theorem shp_intsT (ns : List Int) : shp (.tup (ns.map D.int)) = true := by simp [shp, flat, flatL_ints, dep, depL_ints]
theorem eqDL_ints : ∀ xs ys : List Int, eqDL (xs.map D.int) (ys.map D.int) = decide (xs = ys)
  | [], [] => rfl
  | [], _ :: _ => rfl
  | _ :: _, [] => rfl
  | x :: xs, y :: ys => by
    simp only [List.map_cons, eqDL, eqD, eqDL_ints xs ys, List.cons.injEq]
    by_cases h : x = y <;> simp [h]
theorem eq_ints (xs ys : List Int) : eqD (.lst (xs.map D.int)) (.lst (ys.map D.int)) = decide (xs = ys) := by simp only [eqD, eqDL_ints]
/-! ### sorted of whole numbers -/
def insI (x : Int) : List Int → List Int
  | [] => [x]
  | y :: ys => if y < x then y :: insI x ys else x :: y :: ys
def sortI : List Int → List Int
  | [] => []
  | x :: r => insI x (sortI r)
theorem insD_ints (x : Int) : ∀ ys : List Int, insD (.int x) (ys.map D.int) = (insI x ys).map D.int
  | [] => rfl
  | y :: ys => by
    simp only [List.map_cons, insD, insI, lt_int, decide_eq_true_eq]
    split
    · rw [insD_ints x ys]; rfl
    · rfl
theorem isortD_ints : ∀ xs : List Int, isortD (xs.map D.int) = (sortI xs).map D.int
  | [] => rfl
  | x :: xs => by simp only [List.map_cons, isortD, sortI, isortD_ints xs, insD_ints]
theorem insI_perm (x : Int) : ∀ ys, (insI x ys).Perm (x :: ys)
  | [] => .refl _
  | y :: ys => by
    unfold insI
    split
    · exact ((insI_perm x ys).cons y).trans (.swap x y ys)
    · exact .refl _
theorem sortI_perm : ∀ xs, (sortI xs).Perm xs
  | [] => .refl _
  | x :: xs => (insI_perm x _).trans ((sortI_perm xs).cons x)
theorem insI_len (x : Int) (ys : List Int) : (insI x ys).length = ys.length + 1 := by rw [(insI_perm x ys).length_eq]; rfl
def SrtI (l : List Int) : Prop := l.Pairwise (· ≤ ·)
theorem insI_srt (x : Int) : ∀ {ys}, SrtI ys → SrtI (insI x ys)
  | [], _ => List.pairwise_singleton _ _
  | y :: ys, h => by
    have h := List.pairwise_cons.mp h
    unfold insI
    split
    · rename_i hy
      refine List.pairwise_cons.mpr ⟨fun z hz => ?_, insI_srt x h.2⟩
      rcases List.mem_cons.mp ((insI_perm x ys).mem_iff.mp hz) with rfl | hz
      · omega
      · exact h.1 z hz
    · rename_i hy
      refine List.pairwise_cons.mpr ⟨fun z hz => ?_, List.pairwise_cons.mpr h⟩
      rcases List.mem_cons.mp hz with rfl | hz
      · omega
      · have := h.1 z hz; omega
theorem sortI_srt : ∀ xs, SrtI (sortI xs)
  | [] => List.Pairwise.nil
  | x :: xs => insI_srt x (sortI_srt xs)
theorem srt_uniq : ∀ {xs ys : List Int}, SrtI xs → SrtI ys → xs.Perm ys → xs = ys
  | [], ys, _, _, p => (List.nil_perm.mp p).symm
  | x :: xs, [], _, _, p => absurd (List.perm_nil.mp p) (by simp)
  | x :: xs, y :: ys, hx, hy, p => by
    have h1 := List.pairwise_cons.mp hx
    have h2 := List.pairwise_cons.mp hy
    have e : x = y := by
      have a : x ∈ y :: ys := p.mem_iff.mp List.mem_cons_self
      have b : y ∈ x :: xs := p.mem_iff.mpr List.mem_cons_self
      rcases List.mem_cons.mp a with a | a
      · exact a
      · rcases List.mem_cons.mp b with b | b
        · exact b.symm
        · have := h1.1 y b
          have := h2.1 x a
          omega
    subst e
    rw [srt_uniq h1.2 h2.2 (List.perm_cons x |>.mp p)]
theorem srtOk_ints {xs : List Int} (h : xs.length ≤ line) : srtOk (xs.map D.int) = true := by
  unfold srtOk
  simp only [Bool.and_eq_true, Bool.or_eq_true, decide_eq_true_eq, List.length_map]
  refine ⟨⟨⟨?_, ?_⟩, .inr ?_⟩, h⟩
  · unfold alkAll
    simp [List.all_map, alk, py, PySem.W.alike]
  · simp [List.all_map, shp, flat, dep]
  · simp [List.all_map, notTN]
theorem f_sortL {xs : List Int} (h : xs.length ≤ line) : bifD .sorted [.lst (xs.map D.int)] = some (.lst ((sortI xs).map D.int)) := by
  show (if srtOk (xs.map D.int) then some (D.lst (isortD (xs.map D.int))) else none) = _
  rw [if_pos (srtOk_ints h), isortD_ints]
theorem dedK_int : ∀ (xs acc : List Int), (acc ++ xs).Nodup → dedK (acc.map D.int) (xs.map D.int) = (acc ++ xs).map D.int
  | [], acc, _ => by simp [dedK]
  | x :: xs, acc, h => by
    have hx : (acc.any (· == x)) = false := by
      cases hb : acc.any (· == x) with
      | false => rfl
      | true =>
        obtain ⟨y, hy, e⟩ := List.any_eq_true.mp hb
        have e : y = x := eq_of_beq e
        subst e
        exact absurd rfl ((List.nodup_append.mp h).2.2 y hy y (by simp))
    have h2 : (acc ++ [x] ++ xs).Nodup := by rw [List.append_assoc]; exact h
    have ih := dedK_int xs (acc ++ [x]) h2
    rw [List.map_cons, dedK, memK_ints, hx, if_neg Bool.false_ne_true]
    rw [List.map_append, List.map_cons, List.map_nil] at ih
    rw [ih, List.append_assoc]; rfl
theorem f_allM {α : Type} (g : α → Bool) (l : List α) : bifD .all [.lst (l.map fun x => D.bl (g x))] = some (.bl (l.all g)) := by
  have := f_all (l.map g)
  rw [List.map_map, List.all_map] at this
  exact this
theorem f_sumM {α : Type} (g : α → Int) (l : List α) : bifD .sum [.lst (l.map fun x => D.int (g x))] = some (.int (l.map g).sum) := by
  have := f_sum (l.map g)
  rw [List.map_map] at this
  exact this
theorem intsD_M {α : Type} (g : α → Int) (l : List α) : intsD (l.map fun x => D.int (g x)) = some (l.map g) := by
  have := intsD_map (l.map g)
  rw [List.map_map] at this
  exact this
theorem dedK_M {α : Type} (g : α → Int) (l : List α) (h : (l.map g).Nodup) : dedK [] (l.map fun x => D.int (g x)) = l.map fun x => D.int (g x) := by
  have := dedK_int (l.map g) [] h
  rw [List.nil_append, List.map_map] at this
  exact this
/-- the place of the first -/
theorem fndD_cons (d y : D) (r : List D) (i : Nat) : fndD d (y :: r) i = if eqD y d = true then some i else fndD d r (i + 1) := rfl
theorem eqD_ii (i j : Int) : eqD (.int i) (.int j) = (i == j) := rfl
theorem fnd_ints (n : Int) : ∀ (l : List Int) (i : Nat), n ∈ l → fndD (.int n) (l.map D.int) i = some (i + l.idxOf n)
  | [], i, h => by simp at h
  | x :: l, i, h => by
    rw [List.map_cons, fndD_cons]
    by_cases e : x = n
    · subst e
      rw [if_pos (by rw [eqD_ii]; exact beq_self_eq_true x), List.idxOf_cons_self]; rfl
    · have hb : eqD (.int x) (.int n) = false := by rw [eqD_ii]; simpa using e
      have hm : n ∈ l := by
        rcases List.mem_cons.mp h with z | z
        · exact absurd z.symm e
        · exact z
      rw [if_neg (by rw [hb]; exact Bool.false_ne_true), fnd_ints n l (i + 1) hm]
      have hx : (x :: l).idxOf n = l.idxOf n + 1 := by
        rw [List.idxOf_cons]
        have : (x == n) = false := by simpa using e
        simp [this]
      rw [hx]
      congr 1; omega
theorem two_len {α β : Type} (a b : α → β) : ∀ l : List α, (l.flatMap fun p => [a p, b p]).length = 2 * l.length
  | [] => rfl
  | p :: l => by rw [List.flatMap_cons, List.length_append, two_len a b l, List.length_cons, List.length_cons, List.length_cons, List.length_nil]; omega
theorem two_all {α : Type} : ∀ l : List α, (l.flatMap fun _ => [D.bl true, D.bl true]) = (List.replicate (2 * l.length) true).map D.bl
  | [] => rfl
  | p :: l => by rw [List.flatMap_cons, two_all l, List.length_cons, Nat.mul_succ, List.replicate_succ, List.replicate_succ]; rfl
/-! ### natural numbers as data -/
abbrev nats (l : List Nat) : List D := l.map fun (i : Nat) => D.int i
theorem nats_ints (l : List Nat) : nats l = (l.map fun (i : Nat) => (i : Int)).map D.int := by simp only [nats, List.map_map]; rfl
theorem flatL_nats (l : List Nat) : flatL (nats l) = true := by rw [nats_ints]; exact flatL_ints _
theorem depL_nats (l : List Nat) : depL (nats l) = 0 := by rw [nats_ints]; exact depL_ints _
theorem shp_nats (l : List Nat) : shp (.lst (nats l)) = true := by simp [shp, flat, dep, flatL_nats, depL_nats]
theorem shp_natsT (l : List Nat) : shp (.tup (nats l)) = true := by simp [shp, flat, dep, flatL_nats, depL_nats]
theorem shp_int (i : Int) : shp (.int i) = true := rfl
theorem nat_beq (a b : Nat) : ((a : Int) == (b : Int)) = (a == b) := by
  by_cases h : a = b
  · subst h; simp
  · have : ¬ ((a : Int) = b) := by omega
    rw [beq_eq_false_iff_ne.mpr h, beq_eq_false_iff_ne.mpr this]
theorem memK_nats (n : Nat) : ∀ l : List Nat, memK (.int n) (nats l) = l.contains n
  | [] => rfl
  | m :: l => by
    show (eqD (.int m) (.int n) || memK (.int n) (nats l)) = _
    rw [memK_nats n l, eqD_ii, nat_beq, List.contains_cons, Bool.beq_comm]
theorem fnd_nats (n : Nat) : ∀ (l : List Nat) (i : Nat), n ∈ l → fndD (.int n) (nats l) i = some (i + l.idxOf n)
  | [], i, h => by simp at h
  | x :: l, i, h => by
    show fndD (.int n) (.int x :: nats l) i = _
    rw [fndD_cons, eqD_ii, nat_beq]
    by_cases e : x = n
    · subst e
      rw [if_pos (beq_self_eq_true x), List.idxOf_cons_self]; rfl
    · have hb : (x == n) = false := by simpa using e
      have hm : n ∈ l := by
        rcases List.mem_cons.mp h with z | z
        · exact absurd z.symm e
        · exact z
      rw [if_neg (by rw [hb]; exact Bool.false_ne_true), fnd_nats n l (i + 1) hm]
      have hx : (x :: l).idxOf n = l.idxOf n + 1 := by rw [List.idxOf_cons]; simp [hb]
      rw [hx]
      congr 1; omega
theorem eqDL_nats : ∀ xs ys : List Nat, eqDL (nats xs) (nats ys) = decide (xs = ys)
  | [], [] => rfl
  | [], _ :: _ => rfl
  | _ :: _, [] => rfl
  | x :: xs, y :: ys => by
    show (eqD (.int x) (.int y) && eqDL (nats xs) (nats ys)) = _
    rw [eqDL_nats xs ys, eqD_ii, nat_beq]
    by_cases h : x = y <;> simp [h]
theorem ix_nats {l : List Nat} {i : Nat} (h : i < l.length) : ixD (.lst (nats l)) (.int i) = some (.int (l.getD i 0 : Nat)) := by
  show atI _ _ = _
  refine atI_nat ?_
  rw [List.getElem?_map, List.getElem?_eq_getElem h, List.getD_eq_getElem?_getD, List.getElem?_eq_getElem h]; rfl
theorem ix_natsT {l : List Nat} {i : Nat} (h : i < l.length) : ixD (.tup (nats l)) (.int i) = some (.int (l.getD i 0 : Nat)) := ix_nats h
theorem putD_new {ks vs : List D} {x y : D} (h : memK x ks = false) : putD ks vs x y = (ks ++ [x], vs ++ [y]) := by
  unfold putD; rw [if_neg (by rw [h]; exact Bool.false_ne_true)]
theorem b_nmemD {c : Bool} {ks vs : List D} {x : D} (h : kcB c x = true) : binD .nmem x (.dct c ks vs) = some (.bl (!memK x ks)) := by
  have : binD .nmem x (.dct c ks vs) = if kcB c x then some (.bl (!memK x ks)) else none := by cases x <;> rfl
  rw [this, if_pos h]
theorem b_memD {c : Bool} {ks vs : List D} {x : D} (h : kcB c x = true) : binD .mem x (.dct c ks vs) = some (.bl (memK x ks)) := by
  have : binD .mem x (.dct c ks vs) = if kcB c x then some (.bl (memK x ks)) else none := by cases x <;> rfl
  rw [this, if_pos h]
end Sh

/-! laws that many modules share: the same, the roll, the turning -/
namespace Sh
open PySem PySem.Spec PyProof.Rows L2
mutual
def sm : D → Bool
  | .tup xs => smL xs && decide (xs.length ≤ line)
  | .int _ => true
  | .str _ => true
  | .non => true
  | .bl _ => true
  | _ => false
def smL : List D → Bool
  | [] => true
  | x :: r => sm x && smL r
end
theorem smL_mem : ∀ {xs : List D}, smL xs = true → ∀ x ∈ xs, sm x = true
  | [], _, x, h => by cases h
  | y :: ys, h, x, hx => by
    simp only [smL, Bool.and_eq_true] at h
    rcases List.mem_cons.mp hx with rfl | hx
    · exact h.1
    · exact smL_mem h.2 x hx
theorem depL_mem : ∀ {xs : List D}, ∀ x ∈ xs, dep x ≤ depL xs
  | y :: ys, x, hx => by
    simp only [depL]
    rcases List.mem_cons.mp hx with rfl | hx
    · exact Nat.le_max_left _ _
    · exact Nat.le_trans (depL_mem x hx) (Nat.le_max_right _ _)
theorem all_true {β : Type} : ∀ (l : List β), (l.map fun _ => true).all id = true
  | [] => rfl
  | _ :: l => by rw [List.map_cons, List.all_cons, all_true l]; rfl
/-! ### for, with an early return -/
section
variable {Φ : Nat → FSpec} {G : Nat → D} {N : Nat}
theorem forD_q {α β : Type} {turn : D → Env → DH → Option Out} (f : β → D) (E : α → Env) (Hh : α → DH) (step : α → β → α) (good : β → Bool) (w : W) (P : List β → α → Prop) : ∀ (bs : List β) (a : α), P bs a →
    (∀ a b r, P (b :: r) a → (good b = true → turn (f b) (E a) (Hh a) = some (.nx (E (step a b)) (Hh (step a b))) ∧ P r (step a b)) ∧ (good b = false → ∃ hh, turn (f b) (E a) (Hh a) = some (.rt w hh))) →
    (bs.all good = true → forD turn (bs.map f) (E a) (Hh a) = some (.nx (E (bs.foldl step a)) (Hh (bs.foldl step a))) ∧ P [] (bs.foldl step a)) ∧ (bs.all good = false → ∃ hh, forD turn (bs.map f) (E a) (Hh a) = some (.rt w hh))
  | [], a, pa, _ => ⟨fun _ => ⟨rfl, pa⟩, fun h => by cases h⟩
  | b :: bs, a, pa, h => by
    obtain ⟨h1, h2⟩ := h a b bs pa
    cases hg : good b with
    | false =>
      obtain ⟨hh, e⟩ := h2 hg
      refine ⟨fun h => by simp [hg] at h, fun _ => ⟨hh, ?_⟩⟩
      simp only [List.map_cons, forD, e, Option.bind_eq_bind, Option.bind_some]
    | true =>
      obtain ⟨e, p⟩ := h1 hg
      obtain ⟨i1, i2⟩ := forD_q f E Hh step good w P bs (step a b) p h
      rw [List.all_cons, hg, Bool.true_and]
      refine ⟨fun q => ?_, fun q => ?_⟩
      · obtain ⟨e3, p3⟩ := i1 q
        refine ⟨?_, p3⟩
        simp only [List.map_cons, forD, e, Option.bind_eq_bind, Option.bind_some, List.foldl_cons]
        exact e3
      · obtain ⟨hh, e3⟩ := i2 q
        refine ⟨hh, ?_⟩
        simp only [List.map_cons, forD, e, Option.bind_eq_bind, Option.bind_some]
        exact e3
theorem for_q {α β : Type} {p : Pat} {it : E} {body : Ss} {env : Env} {h : DH} {x : D} (f : β → D) (E : α → Env) (Hh : α → DH) (step : α → β → α) (good : β → Bool) (w : W) (P : List β → α → Prop) (bs : List β) (a : α) (hit : evE Φ G it env h = some (.d x, Hh a)) (hx : itemsD x = some (bs.map f)) (he : env = E a) (pa : P bs a)
    (ht : ∀ a b r, P (b :: r) a → ∃ env1, p.bind (f b) (E a) = some env1 ∧ (good b = true → evSs Φ G N body env1 (Hh a) = some (.nx (E (step a b)) (Hh (step a b))) ∧ P r (step a b)) ∧ (good b = false → ∃ hh, evSs Φ G N body env1 (Hh a) = some (.rt w hh))) :
    (bs.all good = true → evS Φ G N (.for p it body) env h = some (.nx (E (bs.foldl step a)) (Hh (bs.foldl step a))) ∧ P [] (bs.foldl step a)) ∧ (bs.all good = false → ∃ hh, evS Φ G N (.for p it body) env h = some (.rt w hh)) := by
  have hf := forD_q (turn := fun x env h => do let env1 ← p.bind x env; evSs Φ G N body env1 h) f E Hh step good w P bs a pa fun a b r hp => by
    obtain ⟨env1, h1, h2, h3⟩ := ht a b r hp
    refine ⟨fun q => ?_, fun q => ?_⟩
    · exact ⟨by rw [h1]; exact (h2 q).1, (h2 q).2⟩
    · obtain ⟨hh, e⟩ := h3 q
      exact ⟨hh, by rw [h1]; exact e⟩
  subst he
  refine ⟨fun q => ⟨?_, (hf.1 q).2⟩, fun q => ?_⟩
  · simp only [evS, hit, Option.bind_eq_bind, Option.bind_some, hx]
    exact (hf.1 q).1
  · obtain ⟨hh, e⟩ := hf.2 q
    refine ⟨hh, ?_⟩
    simp only [evS, hit, Option.bind_eq_bind, Option.bind_some, hx]
    exact e
/-- a for by an invariant -/
theorem for_inv {β : Type} {p : Pat} {it : E} {body : Ss} {env : Sh.Env} {h h1 : DH} {x : D} (f : β → D) (I : List β → Sh.Env → DH → Prop) (bs : List β) (hit : evE Φ G it env h = some (.d x, h1)) (hx : itemsD x = some (bs.map f)) (h0 : I bs env h1)
    (ht : ∀ b r env h, b ∈ bs → I (b :: r) env h → ∃ env1 env2 h2, p.bind (f b) env = some env1 ∧ evSs Φ G N body env1 h = some (.nx env2 h2) ∧ I r env2 h2) : ∃ env' h', evS Φ G N (.for p it body) env h = some (.nx env' h') ∧ I [] env' h' := by
  have key : ∀ (cs : List β) (env : Sh.Env) (h : DH), (∀ b ∈ cs, b ∈ bs) → I cs env h → ∃ env' h', forD (fun x env h => do let env1 ← p.bind x env; evSs Φ G N body env1 h) (cs.map f) env h = some (.nx env' h') ∧ I [] env' h' := by
    intro cs
    induction cs with
    | nil => intro env h _ i; exact ⟨env, h, rfl, i⟩
    | cons b cs ih =>
      intro env h hm i
      obtain ⟨env1, env2, h2, e1, e2, i2⟩ := ht b cs env h (hm b List.mem_cons_self) i
      obtain ⟨env', h', e3, i3⟩ := ih env2 h2 (fun c hc => hm c (List.mem_cons_of_mem _ hc)) i2
      refine ⟨env', h', ?_, i3⟩
      simp only [Option.bind_eq_bind] at e3 ⊢
      simp only [List.map_cons, forD, e1, e2, Option.bind_eq_bind, Option.bind_some]
      exact e3
  obtain ⟨env', h', e, i⟩ := key bs env h1 (fun b hb => hb) h0
  refine ⟨env', h', ?_, i⟩
  simp only [evS, hit, Option.bind_eq_bind, Option.bind_some, hx]
  exact e
theorem g_rt {s : S} {r : Ss} {env : Env} {h hh : DH} {w : W} (q : evS Φ G N s env h = some (.rt w hh)) : evSs Φ G N (.cons s r) env h = some (.rt w hh) := ss_rt q
/-! ### cells -/
def hcup (c : Int × Int) (r : DH) : DH := .lst ((cupD c).map W.d) :: r
theorem call_c {f : Nat} {es : Es} {env : Sh.Env} {h r : DH} {ws : List W} {c c' : Int × Int} {g : List W → List D → Option (D × List D)} {d : D} (he : evEs Φ G es env h = some (ws, hcup c r)) (hf : Φ f = .cell g) (hn : cellArg ws = some 0) (hg : g (ws.map zeroW) (cupD c) = some (d, cupD c')) :
    evE Φ G (.call f es) env h = some (.d d, hcup c' r) := by
  simp only [evE, he, hf, hn, Option.bind_eq_bind, Option.bind_some, hcup, List.getElem?_cons_zero, pureL_ds, hg, List.set_cons_zero]
theorem run_cup {fd : FD} {ws : List W} {c c' : Int × Int} {d : D} {r : DH} (hl : ws.length = fd.np) (e : evSs Φ G N fd.body (envAt fd.N.length ws) (hcup c []) = some (.rt (.d d) (hcup c' r))) : runC Φ G N fd ws (cupD c) = some (d, cupD c') := run_c hl e
theorem call_new {f : Nat} {es : Es} {env : Sh.Env} {h : DH} {ws : List W} {ds r : List D} {g : List D → Option (List D)} (he : evEs Φ G es env h = some (ws, [])) (hf : Φ f = .new g) (hp : pureL ws = some ds) (hg : g ds = some r) :
    evE Φ G (.call f es) env h = some (.ref 0, [.lst (r.map W.d)]) := by
  simp only [evE, he, hf, hp, hg, Option.bind_eq_bind, Option.bind_some, List.length_nil, List.nil_append]
end
theorem rng_n {n : Nat} (h : n ≤ 16777215) : rngD [.int n] = some (nats (List.range n)) := by
  have := rng_1 (Φ := fun _ => .none) (G := fun _ => .non) (i := n) (n := n) (a := .lit (.int n)) (env := []) (h := []) (h1 := []) (by rw [evE]) rfl (by omega)
  simp only [evE, evEs, Option.bind_eq_bind, Option.bind_some, Option.map_some, pureL] at this
  cases hr : rngD [.int n] with
  | none => rw [hr] at this; cases this
  | some v =>
    rw [hr] at this
    simp only [Option.bind_some, Option.some.injEq, Prod.mk.injEq, W.d.injEq, D.lst.injEq, and_true] at this
    rw [this]
section
variable {Φ : Nat → FSpec} {G : Nat → D}
theorem zip_e {a b : E} {env : Env} {h h1 h2 : DH} {x y : D} {xs ys : List D} (e1 : evE Φ G a env h = some (.d x, h1)) (e2 : evE Φ G b env h1 = some (.d y, h2)) (hx : seqD x = some xs) (hy : seqD y = some ys) : evE Φ G (.zip a b) env h = some (.d (.lst (zipL xs ys)), h2) := by
  rw [evE, e1]
  simp only [Option.bind_eq_bind, Option.bind_some]
  rw [e2]
  simp only [Option.bind_some, hx, hy]
theorem ofl_e {a : E} {env : Env} {h h1 : DH} {xs : List D} (e : evE Φ G a env h = some (.d (.lst xs), h1)) : evE Φ G (.mkl false (.ofl a)) env h = some (.d (.lst xs), h1) := by
  rw [evE, evC, e]
  simp only [Option.bind_eq_bind, Option.bind_some, valD, mkL, pureL_ds, Option.map_some, Bool.false_eq_true, if_false]
theorem evs_c {a : E} {r : Es} {env : Env} {h h1 h2 : DH} {w : W} {ws : List W} (e : evE Φ G a env h = some (w, h1)) (er : evEs Φ G r env h1 = some (ws, h2)) : evEs Φ G (.cons a r) env h = some (w :: ws, h2) := by
  rw [evEs, e]
  simp only [Option.bind_eq_bind, Option.bind_some]
  rw [er]
  simp only [Option.bind_some, Option.map_some]
theorem evs_n {env : Env} {h : DH} : evEs Φ G .nil env h = some ([], h) := by rw [evEs]
theorem bin_e {o : Bop} {a b : E} {env : Env} {h h1 h2 : DH} {x y r : D} (e1 : evE Φ G a env h = some (.d x, h1)) (e2 : evE Φ G b env h1 = some (.d y, h2)) (hr : binD o x y = some r) : evE Φ G (.bin o a b) env h = some (.d r, h2) := by
  rw [evE, e1]
  simp only [Option.bind_eq_bind, Option.bind_some]
  rw [e2]
  simp only [Option.bind_some, valD, hr]
theorem disp_e {es : Es} {env : Env} {h h1 : DH} {ws : List W} {ds : List D} (e : evEs Φ G es env h = some (ws, h1)) (hw : pureL ws = some ds) (hl : ws.length ≤ line) : evE Φ G (.mkl false (.disp es)) env h = some (.d (.lst ds), h1) := by
  rw [ev_disp, e]
  simp only [Option.bind_some, if_pos hl, mkL, hw, Option.map_some, Bool.false_eq_true, if_false]
end
/-- plain numbers, in another order -/
theorem perm_nats {ys : List D} {m : List Nat} (h : ys.Perm (nats m)) : ∃ l, ys = nats l ∧ l.Perm m := by
  let toN : D → Nat := fun d => match d with | .int i => i.toNat | _ => 0
  refine ⟨ys.map toN, ?_, ?_⟩
  · have : ∀ zs : List D, (∀ z ∈ zs, z ∈ nats m) → zs = nats (zs.map toN) := by
      intro zs
      induction zs with
      | nil => intro _; rfl
      | cons z zs ih =>
        intro hz
        obtain ⟨i, _, hi⟩ := List.mem_map.mp (hz z List.mem_cons_self)
        have := ih fun x hx => hz x (List.mem_cons_of_mem _ hx)
        rw [List.map_cons, nats, List.map_cons, ← nats, ← this, ← hi]
        show _ = D.int ((Int.toNat (i : Int) : Nat) : Int) :: zs
        rw [Int.toNat_natCast]
    exact this ys fun z hz => h.mem_iff.mp hz
  · have h2 := h.map toN
    have e : (nats m).map toN = m := by
      rw [nats, List.map_map]
      exact (List.map_congr_left fun a _ => Int.toNat_natCast a).trans (List.map_id m)
    rw [e] at h2
    exact h2
/-- a roll at a place of the table -/
def RollAt (Φ : Nat → FSpec) (i : Nat) : Prop := ∃ g, Φ i = .cell g ∧ ∀ (c : Int × Int) (m : Nat), cupOk c → 0 < m → m < 4611686018427387904 → ∃ (x : Nat) (c' : Int × Int), x < m ∧ cupOk c' ∧ g [.ref 0, .d (.int m)] (cupD c) = some (.int x, cupD c')
theorem roll_at {T : Tb} {G : Nat → D} {N : Nat} {i : Nat} {p q r s t u : Int} {nm : Str} (h : T.fds[i]? = some (some { nm := nm, np := 2, N := ["cup", "many", "found", "deep"], kd := 1, body := bRoll p q r s t u })) (hp : b64 p = true) (hr : 0 < r ∧ r < 2 ^ 63) (ht : 0 < t) (hu : 0 < u ∧ u < 1073741824) (k : Nat) : RollAt (phi T G N (k + 1)) i := by
  refine ⟨_, phi_c h rfl, fun c m hc h0 h1 => ?_⟩
  have hh := rollN_ok (p := p) (q := q) (r := r) (s := s) (t := t) (u := u) (m := m) hc (by omega) hr
  have e := roll_ok (nm := nm) (phi T G N k) G N (p := p) (q := q) (r := r) (s := s) (t := t) (u := u) (m := m) hc (by omega) hp hr ht hu
  obtain ⟨h1, h2, h3⟩ := hh
  generalize rollN p q r s t u c m = v at *
  refine ⟨v.1.toNat, v.2, by omega, h3, ?_⟩
  rw [Int.toNat_of_nonneg h1]
  exact e
theorem call_roll {Φ : Nat → FSpec} {G : Nat → D} {i : Nat} (hR : RollAt Φ i) {es : Es} {env : Sh.Env} {h r : DH} {c : Int × Int} {m : Nat} (he : evEs Φ G es env h = some ([.ref 0, .d (.int m)], hcup c r)) (hc : cupOk c) (h0 : 0 < m) (h1 : m < 4611686018427387904) :
    ∃ (x : Nat) (c' : Int × Int), x < m ∧ cupOk c' ∧ evE Φ G (.call i es) env h = some (.d (.int x), hcup c' r) := by
  obtain ⟨g, hg, H⟩ := hR
  obtain ⟨x, c', hx, hc', e⟩ := H c m hc h0 h1
  exact ⟨x, c', hx, hc', call_c he hg rfl e⟩
/-! ### the same -/
def cSame : E := .mkl false (.comp [2] (.nm 2) (.rng (.cons (.bif .len (.cons (.var 1) .nil)) .nil)) .nil (.call 1 (.cons (.ix (.var 0) (.var 2)) (.cons (.ix (.var 1) (.var 2)) .nil))))
def bSame : Ss := (.cons (.ite (.isi (.var 1) .tuple) (.cons (.ite (.or (.not (.isi (.var 0) .tuple)) (.bin .ne (.bif .len (.cons (.var 0) .nil)) (.bif .len (.cons (.var 1) .nil)))) (.cons (.ret (.lit (.bl false))) .nil) .nil) (.cons (.ret (.bif .all (.cons cSame .nil))) .nil)) .nil) (.cons (.ite (.bin .is (.var 1) (.lit .non)) (.cons (.ret (.bin .is (.var 0) (.lit .non))) .nil) .nil) (.cons (.ite (.isi (.var 1) .bool) (.cons (.ret (.ite (.var 1) (.bin .is (.var 0) (.lit (.bl true))) (.bin .is (.var 0) (.lit (.bl false))))) .nil) .nil) (.cons (.ite (.isi (.var 1) .int) (.cons (.ret (.and (.isi (.var 0) .int) (.and (.not (.isi (.var 0) .bool)) (.bin .eq (.bif .int1 (.cons (.var 0) .nil)) (.var 1))))) .nil) .nil) (.cons (.ret (.and (.isi (.var 0) .str) (.bin .eq (.bif .str1 (.cons (.var 0) .nil)) (.var 1)))) .nil)))))
def fSame : FD := { nm := "_law_same", np := 2, N := ["told", "due", "at"], kd := 0, body := bSame }
theorem same_ok {T : Tb} {G : Nat → D} {N : Nat} (h1 : T.fds[1]? = some (some fSame)) : ∀ (n : Nat) (d : D), sm d = true → dep d ≤ n → ∀ k, runP (phi T G N (k + n)) G N fSame [d, d] = some (.bl true)
  | n, .non, _, _, k => by
    refine run_rt (hh := []) rfl ?_
    simp only [fSame, bSame, envAt, evSs, evS, evE, evEs, evIf, evPart, evC, mkL, valsD, valD, pureL, ixW, ixD, setsE, unsetE, Pat.bind, Sh.bindL, dTy, isD, isNon, List.map_cons, List.map_nil, List.length_cons, List.length_nil, List.getElem?_cons_zero, List.getElem?_cons_succ, List.set_cons_zero, List.set_cons_succ, List.replicate, List.cons_append, List.nil_append, Option.bind_eq_bind, Option.bind_some, Option.map_some, Bool.not_true, Bool.not_false, if_true, if_false, reduceIte, Bool.false_eq_true, reduceCtorEq, Nat.reduceAdd, Nat.reduceSub, Nat.reduceLeDiff, zeroW, cellArg, Option.isSome_some, line_lit, Bool.and_self, Bool.true_and, Bool.and_true, Bool.false_and, Bool.and_false, Bool.or_true, Bool.true_or, Bool.or_false, Bool.false_or, Int.natAbs_natCast, Int.cast_ofNat_Int, Int.reduceLE, Int.reduceLT, Int.reduceEq, decide_true, decide_false, Nat.reduceLT, Nat.reduceEqDiff, List.length_nil, wipeE, eq_self, b_isN]
  | n, .bl b, _, _, k => by
    refine run_rt (hh := []) rfl ?_
    cases b <;> simp only [fSame, bSame, envAt, evSs, evS, evE, evEs, evIf, evPart, evC, mkL, valsD, valD, pureL, ixW, ixD, setsE, unsetE, Pat.bind, Sh.bindL, dTy, isD, isNon, List.map_cons, List.map_nil, List.length_cons, List.length_nil, List.getElem?_cons_zero, List.getElem?_cons_succ, List.set_cons_zero, List.set_cons_succ, List.replicate, List.cons_append, List.nil_append, Option.bind_eq_bind, Option.bind_some, Option.map_some, Bool.not_true, Bool.not_false, if_true, if_false, reduceIte, Bool.false_eq_true, reduceCtorEq, Nat.reduceAdd, Nat.reduceSub, Nat.reduceLeDiff, zeroW, cellArg, Option.isSome_some, line_lit, Bool.and_self, Bool.true_and, Bool.and_true, Bool.false_and, Bool.and_false, Bool.or_true, Bool.true_or, Bool.or_false, Bool.false_or, Int.natAbs_natCast, Int.cast_ofNat_Int, Int.reduceLE, Int.reduceLT, Int.reduceEq, decide_true, decide_false, Nat.reduceLT, Nat.reduceEqDiff, List.length_nil, wipeE, eq_self, b_isN, b_isB]
  | n, .int i, _, _, k => by
    refine run_rt (hh := []) rfl ?_
    simp only [fSame, bSame, envAt, evSs, evS, evE, evEs, evIf, evPart, evC, mkL, valsD, valD, pureL, ixW, ixD, setsE, unsetE, Pat.bind, Sh.bindL, dTy, isD, isNon, List.map_cons, List.map_nil, List.length_cons, List.length_nil, List.getElem?_cons_zero, List.getElem?_cons_succ, List.set_cons_zero, List.set_cons_succ, List.replicate, List.cons_append, List.nil_append, Option.bind_eq_bind, Option.bind_some, Option.map_some, Bool.not_true, Bool.not_false, if_true, if_false, reduceIte, Bool.false_eq_true, reduceCtorEq, Nat.reduceAdd, Nat.reduceSub, Nat.reduceLeDiff, zeroW, cellArg, Option.isSome_some, line_lit, Bool.and_self, Bool.true_and, Bool.and_true, Bool.false_and, Bool.and_false, Bool.or_true, Bool.true_or, Bool.or_false, Bool.false_or, Int.natAbs_natCast, Int.cast_ofNat_Int, Int.reduceLE, Int.reduceLT, Int.reduceEq, decide_true, decide_false, Nat.reduceLT, Nat.reduceEqDiff, List.length_nil, wipeE, eq_self, b_isN, f_int1, b_eqI]
  | n, .str s, _, _, k => by
    refine run_rt (hh := []) rfl ?_
    simp only [fSame, bSame, envAt, evSs, evS, evE, evEs, evIf, evPart, evC, mkL, valsD, valD, pureL, ixW, ixD, setsE, unsetE, Pat.bind, Sh.bindL, dTy, isD, isNon, List.map_cons, List.map_nil, List.length_cons, List.length_nil, List.getElem?_cons_zero, List.getElem?_cons_succ, List.set_cons_zero, List.set_cons_succ, List.replicate, List.cons_append, List.nil_append, Option.bind_eq_bind, Option.bind_some, Option.map_some, Bool.not_true, Bool.not_false, if_true, if_false, reduceIte, Bool.false_eq_true, reduceCtorEq, Nat.reduceAdd, Nat.reduceSub, Nat.reduceLeDiff, zeroW, cellArg, Option.isSome_some, line_lit, Bool.and_self, Bool.true_and, Bool.and_true, Bool.false_and, Bool.and_false, Bool.or_true, Bool.true_or, Bool.or_false, Bool.false_or, Int.natAbs_natCast, Int.cast_ofNat_Int, Int.reduceLE, Int.reduceLT, Int.reduceEq, decide_true, decide_false, Nat.reduceLT, Nat.reduceEqDiff, List.length_nil, wipeE, eq_self, b_isN, f_str1, b_eqS, beq_self_eq_true]
  | 0, .tup xs, _, h, _ => by simp only [dep] at h; omega
  | n + 1, .tup xs, h, hd, k => by
    simp only [sm, Bool.and_eq_true, decide_eq_true_eq] at h
    simp only [dep] at hd
    refine run_rt (hh := []) rfl ?_
    have hc : evE (phi T G N (k + (n + 1))) G cSame [some (.d (.tup xs)), some (.d (.tup xs)), none] [] = some (.d (.lst ((List.range xs.length).map fun _ => D.bl true)), []) := comp_map (fun c : Nat => D.int c) (List.range xs.length) (fun _ => D.bl true) (rng_1 (n := xs.length) (by simp only [envAt, evSs, evS, evE, evEs, evIf, evPart, evC, mkL, valsD, valD, pureL, ixW, ixD, setsE, unsetE, Pat.bind, Sh.bindL, dTy, isD, isNon, List.map_cons, List.map_nil, List.length_cons, List.length_nil, List.getElem?_cons_zero, List.getElem?_cons_succ, List.set_cons_zero, List.set_cons_succ, List.replicate, List.cons_append, List.nil_append, Option.bind_eq_bind, Option.bind_some, Option.map_some, Bool.not_true, Bool.not_false, if_true, if_false, reduceIte, Bool.false_eq_true, reduceCtorEq, Nat.reduceAdd, Nat.reduceSub, Nat.reduceLeDiff, zeroW, cellArg, Option.isSome_some, line_lit, Bool.and_self, Bool.true_and, Bool.and_true, Bool.false_and, Bool.and_false, Bool.or_true, Bool.true_or, Bool.or_false, Bool.false_or, Int.natAbs_natCast, Int.cast_ofNat_Int, Int.reduceLE, Int.reduceLT, Int.reduceEq, decide_true, decide_false, Nat.reduceLT, Nat.reduceEqDiff, List.length_nil, wipeE, eq_self, f_lenT]) rfl (by have := h.2; rw [line_lit] at this; exact this)) rfl
      (fun c hc => ⟨_, rfl, by
        have hl := List.mem_range.mp hc
        have hx : atI xs (c : Int) = some xs[c] := Sh.atI_nat (List.getElem?_eq_getElem hl)
        have hm : xs[c] ∈ xs := List.getElem_mem hl
        have ih := same_ok (G := G) (N := N) h1 n xs[c] (smL_mem h.1 _ hm) (by have := depL_mem _ hm; omega) k
        have p1 : phi T G N (k + (n + 1)) 1 = .pure (runP (phi T G N (k + n)) G N fSame) := phi_p h1 rfl
        simp only [envAt, evSs, evS, evE, evEs, evIf, evPart, evC, mkL, valsD, valD, pureL, ixW, ixD, setsE, unsetE, Pat.bind, Sh.bindL, dTy, isD, isNon, List.map_cons, List.map_nil, List.length_cons, List.length_nil, List.getElem?_cons_zero, List.getElem?_cons_succ, List.set_cons_zero, List.set_cons_succ, List.replicate, List.cons_append, List.nil_append, Option.bind_eq_bind, Option.bind_some, Option.map_some, Bool.not_true, Bool.not_false, if_true, if_false, reduceIte, Bool.false_eq_true, reduceCtorEq, Nat.reduceAdd, Nat.reduceSub, Nat.reduceLeDiff, zeroW, cellArg, Option.isSome_some, line_lit, Bool.and_self, Bool.true_and, Bool.and_true, Bool.false_and, Bool.and_false, Bool.or_true, Bool.true_or, Bool.or_false, Bool.false_or, Int.natAbs_natCast, Int.cast_ofNat_Int, Int.reduceLE, Int.reduceLT, Int.reduceEq, decide_true, decide_false, Nat.reduceLT, Nat.reduceEqDiff, List.length_nil, wipeE, eq_self, hx, p1, ih]⟩) (by rw [List.length_range]; exact h.2)
    have ha : bifD .all [.lst ((List.range xs.length).map fun _ => D.bl true)] = some (.bl true) := by
      have := f_all ((List.range xs.length).map fun _ => true)
      rw [List.map_map, all_true] at this
      exact this
    show evSs _ G N bSame [some (.d (.tup xs)), some (.d (.tup xs)), none] [] = _
    unfold bSame
    refine ss_rt ?_
    rw [ite_t (h1 := []) (by simp only [envAt, evSs, evS, evE, evEs, evIf, evPart, evC, mkL, valsD, valD, pureL, ixW, ixD, setsE, unsetE, Pat.bind, Sh.bindL, dTy, isD, isNon, List.map_cons, List.map_nil, List.length_cons, List.length_nil, List.getElem?_cons_zero, List.getElem?_cons_succ, List.set_cons_zero, List.set_cons_succ, List.replicate, List.cons_append, List.nil_append, Option.bind_eq_bind, Option.bind_some, Option.map_some, Bool.not_true, Bool.not_false, if_true, if_false, reduceIte, Bool.false_eq_true, reduceCtorEq, Nat.reduceAdd, Nat.reduceSub, Nat.reduceLeDiff, zeroW, cellArg, Option.isSome_some, line_lit, Bool.and_self, Bool.true_and, Bool.and_true, Bool.false_and, Bool.and_false, Bool.or_true, Bool.true_or, Bool.or_false, Bool.false_or, Int.natAbs_natCast, Int.cast_ofNat_Int, Int.reduceLE, Int.reduceLT, Int.reduceEq, decide_true, decide_false, Nat.reduceLT, Nat.reduceEqDiff, List.length_nil, wipeE, eq_self])]
    exact g_no (h1 := []) (by simp only [envAt, evSs, evS, evE, evEs, evIf, evPart, evC, mkL, valsD, valD, pureL, ixW, ixD, setsE, unsetE, Pat.bind, Sh.bindL, dTy, isD, isNon, List.map_cons, List.map_nil, List.length_cons, List.length_nil, List.getElem?_cons_zero, List.getElem?_cons_succ, List.set_cons_zero, List.set_cons_succ, List.replicate, List.cons_append, List.nil_append, Option.bind_eq_bind, Option.bind_some, Option.map_some, Bool.not_true, Bool.not_false, if_true, if_false, reduceIte, Bool.false_eq_true, reduceCtorEq, Nat.reduceAdd, Nat.reduceSub, Nat.reduceLeDiff, zeroW, cellArg, Option.isSome_some, line_lit, Bool.and_self, Bool.true_and, Bool.and_true, Bool.false_and, Bool.and_false, Bool.or_true, Bool.true_or, Bool.or_false, Bool.false_or, Int.natAbs_natCast, Int.cast_ofNat_Int, Int.reduceLE, Int.reduceLT, Int.reduceEq, decide_true, decide_false, Nat.reduceLT, Nat.reduceEqDiff, List.length_nil, wipeE, eq_self, f_lenT, b_neI]) (g_ret (bif1 hc rfl ha))
  | _, .lst _, h, _, _ => by simp [sm] at h
  | _, .dct _ _ _, h, _, _ => by simp [sm] at h
  | _, .scr _, h, _, _ => by simp [sm] at h
/-- the tests of unlike booleans -/
theorem same_bl {T : Tb} {G : Nat → D} {N : Nat} (Φ : Nat → FSpec) (a b : Bool) : runP Φ G N fSame [.bl a, .bl b] = some (.bl (a == b)) := by
  refine run_rt (hh := []) rfl ?_
  cases a <;> cases b <;> simp only [fSame, bSame, envAt, evSs, evS, evE, evEs, evIf, evPart, evC, mkL, valsD, valD, pureL, ixW, ixD, setsE, unsetE, Pat.bind, Sh.bindL, dTy, isD, isNon, List.map_cons, List.map_nil, List.length_cons, List.length_nil, List.getElem?_cons_zero, List.getElem?_cons_succ, List.set_cons_zero, List.set_cons_succ, List.replicate, List.cons_append, List.nil_append, Option.bind_eq_bind, Option.bind_some, Option.map_some, Bool.not_true, Bool.not_false, if_true, if_false, reduceIte, Bool.false_eq_true, reduceCtorEq, Nat.reduceAdd, Nat.reduceSub, Nat.reduceLeDiff, zeroW, cellArg, Option.isSome_some, line_lit, Bool.and_self, Bool.true_and, Bool.and_true, Bool.false_and, Bool.and_false, Bool.or_true, Bool.true_or, Bool.or_false, Bool.false_or, Int.natAbs_natCast, Int.cast_ofNat_Int, Int.reduceLE, Int.reduceLT, Int.reduceEq, decide_true, decide_false, Nat.reduceLT, Nat.reduceEqDiff, List.length_nil, wipeE, eq_self, b_isN, b_isB] <;> rfl
/-! ### things, turned -/
def bTurned : Ss := (.cons (.par [2, 3] (.cons (.mkl true (.ofl (.var 1))) (.cons (.mkl true (.disp .nil)) .nil))) (.cons (.for (.nm 4) (.rng (.cons (.bif .len (.cons (.var 2) .nil)) .nil)) (.cons (.app 3 (.pop 2 (.cons (.call 2 (.cons (.var 0) (.cons (.bif .len (.cons (.var 2) .nil)) .nil))) .nil))) (.cons (.fgt [4]) .nil))) (.cons (.ret (.bif .tuple (.cons (.var 3) .nil))) .nil)))
def fTurned : FD := { nm := "_law_turned", np := 2, N := ["cup", "things", "left", "found", "turn"], kd := 1, body := bTurned }
theorem ers_map {α β : Type} (f : α → β) : ∀ (l : List α) (i : Nat), (l.map f).eraseIdx i = (l.eraseIdx i).map f
  | [], _ => rfl
  | _ :: _, 0 => rfl
  | x :: l, i + 1 => by simp only [List.map_cons, List.eraseIdx_cons_succ, ers_map f l i]
theorem valsD_cons {h : DH} {w : W} {r : List W} : valsD h (w :: r) = (valD h w).bind fun x => (valsD h r).bind fun xs => some (x :: xs) := rfl
theorem turned_ok {Φ : Nat → FSpec} {G : Nat → D} {N : Nat} (hR : RollAt Φ 2) {c : Int × Int} (hc : cupOk c) {xs : List D} (hl : xs.length ≤ 16777216) :
    ∃ ys c', ys.Perm xs ∧ cupOk c' ∧ runC Φ G N fTurned [.ref 0, .d (.lst xs)] (cupD c) = some (.tup ys, cupD c') := by
  have hlb : (List.range xs.length).length = xs.length := List.length_range
  obtain ⟨env', h', e, l, acc, c', he, hh, hp, hn, hc'⟩ := for_inv (Φ := Φ) (G := G) (N := N) (p := .nm 4) (it := .rng (.cons (.bif .len (.cons (.var 2) .nil)) .nil))
    (body := (.cons (.app 3 (.pop 2 (.cons (.call 2 (.cons (.var 0) (.cons (.bif .len (.cons (.var 2) .nil)) .nil))) .nil))) (.cons (.fgt [4]) .nil)))
    (env := [some (.ref 0), some (.d (.lst xs)), some (.ref 1), some (.ref 2), none]) (h := hcup c [.lst (xs.map W.d), .lst []]) (h1 := hcup c [.lst (xs.map W.d), .lst []])
    (fun (i : Nat) => D.int i) (fun rest env h => ∃ (l acc : List D) (c' : Int × Int), env = [some (.ref 0), some (.d (.lst xs)), some (.ref 1), some (.ref 2), none] ∧ h = hcup c' [.lst (l.map W.d), .lst (acc.map W.d)] ∧ (l ++ acc).Perm xs ∧ l.length = rest.length ∧ cupOk c')
    (List.range xs.length) (rng_1 (i := xs.length) (n := xs.length) (by simp only [envAt, evSs, evS, evE, evEs, evIf, evPart, evC, mkL, valsD, valD, pureL, ixW, ixD, setsE, unsetE, Pat.bind, Sh.bindL, dTy, isD, isNon, List.map_cons, List.map_nil, List.length_cons, List.length_nil, List.getElem?_cons_zero, List.getElem?_cons_succ, List.set_cons_zero, List.set_cons_succ, List.replicate, List.cons_append, List.nil_append, Option.bind_eq_bind, Option.bind_some, Option.map_some, Bool.not_true, Bool.not_false, if_true, if_false, reduceIte, Bool.false_eq_true, reduceCtorEq, Nat.reduceAdd, Nat.reduceSub, Nat.reduceLeDiff, zeroW, cellArg, Option.isSome_some, line_lit, Bool.and_self, Bool.true_and, Bool.and_true, Bool.false_and, Bool.and_false, Bool.or_true, Bool.true_or, Bool.or_false, Bool.false_or, Int.natAbs_natCast, Int.cast_ofNat_Int, Int.reduceLE, Int.reduceLT, Int.reduceEq, decide_true, decide_false, Nat.reduceLT, Nat.reduceEqDiff, List.length_nil, wipeE, eq_self, hcup, pureL_ds, f_lenL]) rfl hl) rfl
    ⟨xs, [], c, rfl, rfl, by rw [List.append_nil], hlb.symm, hc⟩
    (fun b r env h _ ⟨l, acc, c1, he, hh, hp, hn, hc1⟩ => by
      subst he; subst hh
      have hll : l.length ≤ xs.length := by have := hp.length_eq; rw [List.length_append] at this; omega
      have hal : acc.length < 16777216 := by have := hp.length_eq; rw [List.length_append] at this; rw [List.length_cons] at hn; omega
      have hlp : 0 < l.length := by rw [hn, List.length_cons]; omega
      obtain ⟨x, c2, hx, hc2, e2⟩ := call_roll hR (G := G) (es := .cons (.var 0) (.cons (.bif .len (.cons (.var 2) .nil)) .nil)) (env := [some (.ref 0), some (.d (.lst xs)), some (.ref 1), some (.ref 2), some (.d (.int b))]) (h := hcup c1 [.lst (l.map W.d), .lst (acc.map W.d)]) (r := [.lst (l.map W.d), .lst (acc.map W.d)]) (c := c1) (m := l.length)
        (by simp only [envAt, evSs, evS, evE, evEs, evIf, evPart, evC, mkL, valsD, valD, pureL, ixW, ixD, setsE, unsetE, Pat.bind, Sh.bindL, dTy, isD, isNon, List.map_cons, List.map_nil, List.length_cons, List.length_nil, List.getElem?_cons_zero, List.getElem?_cons_succ, List.set_cons_zero, List.set_cons_succ, List.replicate, List.cons_append, List.nil_append, Option.bind_eq_bind, Option.bind_some, Option.map_some, Bool.not_true, Bool.not_false, if_true, if_false, reduceIte, Bool.false_eq_true, reduceCtorEq, Nat.reduceAdd, Nat.reduceSub, Nat.reduceLeDiff, zeroW, cellArg, Option.isSome_some, line_lit, Bool.and_self, Bool.true_and, Bool.and_true, Bool.false_and, Bool.and_false, Bool.or_true, Bool.true_or, Bool.or_false, Bool.false_or, Int.natAbs_natCast, Int.cast_ofNat_Int, Int.reduceLE, Int.reduceLT, Int.reduceEq, decide_true, decide_false, Nat.reduceLT, Nat.reduceEqDiff, List.length_nil, wipeE, eq_self, hcup, pureL_ds, f_lenL]) hc1 hlp (by omega)
      have hg1 : (lo63 (x : Int) && hi63 (x : Int)) = true := by rw [Bool.and_eq_true, lo63_iff, hi63_iff]; omega
      have hg2 : ixN (l.map W.d).length (x : Int) = some x := ixN_nat (by rw [List.length_map]; exact hx)
      have hg3 : (l.map W.d)[x]? = some (.d l[x]) := by rw [List.getElem?_map, List.getElem?_eq_getElem hx]; rfl
      have hg4 : (l.map W.d).eraseIdx x = (l.eraseIdx x).map W.d := ers_map W.d l x
      have hg5 : ((acc.map W.d)).length < 16777216 := by rw [List.length_map]; exact hal
      refine ⟨[some (.ref 0), some (.d (.lst xs)), some (.ref 1), some (.ref 2), some (.d (.int b))], [some (.ref 0), some (.d (.lst xs)), some (.ref 1), some (.ref 2), none], hcup c2 [.lst ((l.eraseIdx x).map W.d), .lst ((acc ++ [l[x]]).map W.d)], rfl, ?_, l.eraseIdx x, acc ++ [l[x]], c2, rfl, rfl, ?_, ?_, hc2⟩
      · simp only [evE] at e2
        have e3 : evE Φ G (.pop 2 (.cons (.call 2 (.cons (.var 0) (.cons (.bif .len (.cons (.var 2) .nil)) .nil))) .nil)) [some (.ref 0), some (.d (.lst xs)), some (.ref 1), some (.ref 2), some (.d (.int b))] (hcup c1 [.lst (l.map W.d), .lst (acc.map W.d)]) = some (.d l[x], hcup c2 [.lst ((l.eraseIdx x).map W.d), .lst (acc.map W.d)]) := by
          rw [evE]
          simp only [hcup, List.getElem?_cons_succ, List.getElem?_cons_zero, Option.bind_eq_bind, Option.bind_some]
          rw [evEs, evE]
          simp only [Option.bind_eq_bind] at e2
          simp only [hcup, Option.bind_eq_bind] at e2 ⊢
          rw [e2]
          simp only [Option.bind_some, evEs, List.getElem?_cons_succ, List.getElem?_cons_zero, hg1, hg2, hg3, hg4, if_true, List.set_cons_succ, List.set_cons_zero]
        refine g_s (e1 := [some (.ref 0), some (.d (.lst xs)), some (.ref 1), some (.ref 2), some (.d (.int b))]) (h1 := hcup c2 [.lst ((l.eraseIdx x).map W.d), .lst ((acc ++ [l[x]]).map W.d)]) ?_ rfl
        rw [evS]
        simp only [hcup, List.getElem?_cons_succ, List.getElem?_cons_zero, Option.bind_eq_bind, Option.bind_some]
        simp only [hcup] at e3
        rw [e3]
        simp only [Option.bind_some, List.getElem?_cons_succ, List.getElem?_cons_zero, line_lit, hg5, if_true, List.set_cons_succ, List.set_cons_zero, List.map_append, List.map_cons, List.map_nil]
      · have h1 : (l.eraseIdx x ++ (acc ++ [l[x]])).Perm (l ++ acc) := by
          have h2 : l = l.take x ++ l[x] :: l.drop (x + 1) := by rw [← List.drop_eq_getElem_cons, List.take_append_drop]
          have h3 : l.eraseIdx x = l.take x ++ l.drop (x + 1) := List.eraseIdx_eq_take_drop_succ l x
          rw [h3]
          have h4 : (l.take x ++ l.drop (x + 1) ++ (acc ++ [l[x]])).Perm (l[x] :: (l.take x ++ l.drop (x + 1) ++ acc)) := by
            rw [← List.append_assoc]
            exact List.perm_append_singleton _ _
          have h5 : (l ++ acc).Perm (l[x] :: (l.take x ++ l.drop (x + 1) ++ acc)) := by
            have h6 : (l.take x ++ l[x] :: l.drop (x + 1)).Perm (l[x] :: (l.take x ++ l.drop (x + 1))) := List.perm_middle
            rw [← h2] at h6
            exact h6.append_right acc
          exact h4.trans h5.symm
        exact h1.trans hp
      · rw [List.length_eraseIdx_of_lt hx, hn, List.length_cons]; rfl)
  subst he; subst hh
  have hl0 : l = [] := List.eq_nil_of_length_eq_zero hn
  subst hl0
  rw [List.nil_append] at hp
  refine ⟨acc, c', hp, hc', run_cup (r := [.lst ([].map W.d), .lst (acc.map W.d)]) rfl ?_⟩
  show evSs _ G N bTurned [some (.ref 0), some (.d (.lst xs)), none, none, none] (hcup c []) = _
  unfold bTurned
  have hl2 : (xs.map W.d).length ≤ 16777216 := by rw [List.length_map]; exact hl
  refine g_par (e1 := [some (.ref 0), some (.d (.lst xs)), some (.ref 1), some (.ref 2), none]) (h1 := hcup c [.lst (xs.map W.d), .lst []]) (ws := [.ref 1, .ref 2]) (by simp only [envAt, evSs, evS, evE, evEs, evIf, evPart, evC, mkL, valsD, valD, pureL, ixW, ixD, setsE, unsetE, Pat.bind, Sh.bindL, dTy, isD, isNon, List.map_cons, List.map_nil, List.length_cons, List.length_nil, List.getElem?_cons_zero, List.getElem?_cons_succ, List.set_cons_zero, List.set_cons_succ, List.replicate, List.cons_append, List.nil_append, Option.bind_eq_bind, Option.bind_some, Option.map_some, Bool.not_true, Bool.not_false, if_true, if_false, reduceIte, Bool.false_eq_true, reduceCtorEq, Nat.reduceAdd, Nat.reduceSub, Nat.reduceLeDiff, zeroW, cellArg, Option.isSome_some, line_lit, Bool.and_self, Bool.true_and, Bool.and_true, Bool.false_and, Bool.and_false, Bool.or_true, Bool.true_or, Bool.or_false, Bool.false_or, Int.natAbs_natCast, Int.cast_ofNat_Int, Int.reduceLE, Int.reduceLT, Int.reduceEq, decide_true, decide_false, Nat.reduceLT, Nat.reduceEqDiff, List.length_nil, wipeE, eq_self, hcup]) rfl ?_
  refine g_s e ?_
  exact g_ret (by simp only [envAt, evSs, evS, evE, evEs, evIf, evPart, evC, mkL, valsD, valD, pureL, ixW, ixD, setsE, unsetE, Pat.bind, Sh.bindL, dTy, isD, isNon, List.map_cons, List.map_nil, List.length_cons, List.length_nil, List.getElem?_cons_zero, List.getElem?_cons_succ, List.set_cons_zero, List.set_cons_succ, List.replicate, List.cons_append, List.nil_append, Option.bind_eq_bind, Option.bind_some, Option.map_some, Bool.not_true, Bool.not_false, if_true, if_false, reduceIte, Bool.false_eq_true, reduceCtorEq, Nat.reduceAdd, Nat.reduceSub, Nat.reduceLeDiff, zeroW, cellArg, Option.isSome_some, line_lit, Bool.and_self, Bool.true_and, Bool.and_true, Bool.false_and, Bool.and_false, Bool.or_true, Bool.true_or, Bool.or_false, Bool.false_or, Int.natAbs_natCast, Int.cast_ofNat_Int, Int.reduceLE, Int.reduceLT, Int.reduceEq, decide_true, decide_false, Nat.reduceLT, Nat.reduceEqDiff, List.length_nil, wipeE, eq_self, hcup, pureL_ds, f_tupL])
end Sh

/-! the functions of Shoes, as terms -/
namespace Shoe
open PySem PySem.Spec PyProof.Rows L2 Sh
/-- 1: _law_same(told, due); 0=told 1=due 2=at -/
def c_law_same_0 : E := .mkl false (.comp [2] (.nm 2) (.rng (.cons (.bif .len (.cons (.var 1) .nil)) .nil)) .nil (.call 1 (.cons (.ix (.var 0) (.var 2)) (.cons (.ix (.var 1) (.var 2)) .nil))))
def b_law_same : Ss := (.cons (.ite (.isi (.var 1) .tuple) (.cons (.ite (.or (.not (.isi (.var 0) .tuple)) (.bin .ne (.bif .len (.cons (.var 0) .nil)) (.bif .len (.cons (.var 1) .nil)))) (.cons (.ret (.lit (.bl false))) .nil) .nil) (.cons (.ret (.bif .all (.cons c_law_same_0 .nil))) .nil)) .nil) (.cons (.ite (.bin .is (.var 1) (.lit .non)) (.cons (.ret (.bin .is (.var 0) (.lit .non))) .nil) .nil) (.cons (.ite (.isi (.var 1) .bool) (.cons (.ret (.ite (.var 1) (.bin .is (.var 0) (.lit (.bl true))) (.bin .is (.var 0) (.lit (.bl false))))) .nil) .nil) (.cons (.ite (.isi (.var 1) .int) (.cons (.ret (.and (.isi (.var 0) .int) (.and (.not (.isi (.var 0) .bool)) (.bin .eq (.bif .int1 (.cons (.var 0) .nil)) (.var 1))))) .nil) .nil) (.cons (.ret (.and (.isi (.var 0) .str) (.bin .eq (.bif .str1 (.cons (.var 0) .nil)) (.var 1)))) .nil)))))
def f_law_same : FD := { nm := "_law_same", np := 2, N := ["told", "due", "at"], kd := 0, body := b_law_same }
/-- 3: _law_turned(cup, things); 0=cup 1=things 2=left 3=found 4=turn -/
def b_law_turned_l0 : Ss := (.cons (.app 3 (.pop 2 (.cons (.call 2 (.cons (.var 0) (.cons (.bif .len (.cons (.var 2) .nil)) .nil))) .nil))) (.cons (.fgt [4]) .nil))
def l_law_turned_0 : S := .for (.nm 4) (.rng (.cons (.bif .len (.cons (.var 2) .nil)) .nil)) b_law_turned_l0
def b_law_turned : Ss := (.cons (.par [2, 3] (.cons (.mkl true (.ofl (.var 1))) (.cons (.mkl true (.disp .nil)) .nil))) (.cons l_law_turned_0 (.cons (.ret (.bif .tuple (.cons (.var 3) .nil))) .nil)))
def f_law_turned : FD := { nm := "_law_turned", np := 2, N := ["cup", "things", "left", "found", "turn"], kd := 1, body := b_law_turned }
/-- 4: _law_rack(cup, pegs); 0=cup 1=pegs 2=many -/
def b_law_rack : Ss := (.cons (.asg (.pat (.nm 2)) (.bin .add (.lit (.int 1)) (.call 2 (.cons (.var 0) (.cons (.var 1) .nil))))) (.cons (.ret (.bif .tuple (.cons (.mkl false (.ofl (.zip (.call 3 (.cons (.var 0) (.cons (.mkl false (.ofl (.rng (.cons (.var 2) .nil)))) .nil))) (.call 3 (.cons (.var 0) (.cons (.mkl false (.ofl (.rng (.cons (.var 2) .nil)))) .nil)))))) .nil))) .nil))
def f_law_rack : FD := { nm := "_law_rack", np := 2, N := ["cup", "pegs", "many"], kd := 1, body := b_law_rack }
/-- 5: is_tuple_of(value, low, high); 0=value 1=low 2=high -/
def b_is_tuple_of : Ss := (.cons (.ret (.and (.isi (.var 0) .tuple) (.chain .le .le (.var 1) (.bif .len (.cons (.var 0) .nil)) (.var 2)))) .nil)
def f_is_tuple_of : FD := { nm := "is_tuple_of", np := 3, N := ["value", "low", "high"], kd := 0, body := b_is_tuple_of }
/-- 6: is_whole(value, low, high); 0=value 1=low 2=high -/
def b_is_whole : Ss := (.cons (.ret (.and (.isi (.var 0) .int) (.and (.not (.isi (.var 0) .bool)) (.chain .le .le (.var 1) (.var 0) (.var 2))))) .nil)
def f_is_whole : FD := { nm := "is_whole", np := 3, N := ["value", "low", "high"], kd := 0, body := b_is_whole }
/-- 7: fits_rack(value); 0=value 1=many 2=peg 3=one 4=side -/
def c_fits_rack_0 : E := .mkl false (.comp [2] (.nm 2) (.var 0) .nil (.call 5 (.cons (.var 2) (.cons (.lit (.int 2)) (.cons (.lit (.int 2)) .nil)))))
def c_fits_rack_1 : E := .mkl false (.comp2 [2, 3] [3] (.nm 2) (.var 0) .nil (.nm 3) (.var 2) .nil (.call 6 (.cons (.var 3) (.cons (.lit (.int 0)) (.cons (.bin .sub (.var 1) (.lit (.int 1))) .nil)))))
def c_fits_rack_2 : E := .mkl false (.comp [2] (.nm 2) (.var 0) .nil (.ix (.var 2) (.var 4)))
def c_fits_rack_3 : E := .mkl false (.comp [4] (.nm 4) (.tup (.cons (.lit (.int 0)) (.cons (.lit (.int 1)) .nil))) .nil (.bin .eq (.lset c_fits_rack_2) (.var 1)))
def b_fits_rack : Ss := (.cons (.ite (.or (.not (.call 5 (.cons (.var 0) (.cons (.lit (.int 1)) (.cons (.con 0) .nil))))) (.not (.bif .all (.cons c_fits_rack_0 .nil)))) (.cons (.ret (.lit (.bl false))) .nil) .nil) (.cons (.asg (.pat (.nm 1)) (.bif .len (.cons (.var 0) .nil))) (.cons (.ite (.not (.bif .all (.cons c_fits_rack_1 .nil))) (.cons (.ret (.lit (.bl false))) .nil) .nil) (.cons (.ret (.bif .all (.cons c_fits_rack_3 .nil))) .nil))))
def f_fits_rack : FD := { nm := "fits_rack", np := 1, N := ["value", "many", "peg", "one", "side"], kd := 0, body := b_fits_rack }
/-- 8: need_rack(rack); 0=rack -/
def b_need_rack : Ss := (.cons (.ite (.not (.call 7 (.cons (.var 0) .nil))) (.cons .nev .nil) .nil) .nil)
def f_need_rack : FD := { nm := "need_rack", np := 1, N := ["rack"], kd := 0, body := b_need_rack }
/-- 9: goes_to(rack); 0=rack 1=lefts 2=peg -/
def c_goes_to_0 : E := .mkl false (.comp [2] (.nm 2) (.var 0) .nil (.ix (.var 2) (.lit (.int 0))))
def c_goes_to_1 : E := .mkl false (.comp [2] (.nm 2) (.var 0) .nil (.idx (.var 1) (.ix (.var 2) (.lit (.int 1)))))
def b_goes_to : Ss := (.cons (.asg (.pat (.nm 1)) c_goes_to_0) (.cons (.ret c_goes_to_1) .nil))
def f_goes_to : FD := { nm := "goes_to", np := 1, N := ["rack", "lefts", "peg"], kd := 0, body := b_goes_to }
/-- 10: rounds_in(rack); 0=rack 1=there 2=found 3=known 4=begin 5=row 6=here -/
def b_rounds_in_l0 : Ss := (.cons (.asg (.sub (.var 3) (.var 6)) (.lit (.bl true))) (.cons (.par [5, 6] (.cons (.bin .add (.var 5) (.tup (.cons (.var 6) .nil))) (.cons (.ix (.var 1) (.var 6)) .nil))) .nil))
def l_rounds_in_0 : S := .while (.bin .nmem (.var 6) (.var 3)) b_rounds_in_l0
def b_rounds_in_l1 : Ss := (.cons (.par [5, 6] (.cons (.tup .nil) (.cons (.var 4) .nil))) (.cons l_rounds_in_0 (.cons (.ext 2 (.ite (.bin .ne (.var 5) (.tup .nil)) (.mkl false (.disp (.cons (.var 5) .nil))) (.mkl false (.disp .nil)))) (.cons (.fgt [4, 5, 6]) .nil))))
def l_rounds_in_1 : S := .for (.nm 4) (.rng (.cons (.bif .len (.cons (.var 0) .nil)) .nil)) b_rounds_in_l1
def b_rounds_in : Ss := (.cons (.par [1, 2, 3] (.cons (.call 9 (.cons (.var 0) .nil)) (.cons (.mkl true (.disp .nil)) (.cons (.mkd true false (.disp .nil .nil)) .nil)))) (.cons l_rounds_in_1 (.cons (.frz 2) (.cons (.ret (.var 2)) .nil))))
def f_rounds_in : FD := { nm := "rounds_in", np := 1, N := ["rack", "there", "found", "known", "begin", "row", "here"], kd := 0, body := b_rounds_in }
/-- 11: fewest(rack); 0=rack -/
def b_fewest : Ss := (.cons (.expr (.call 8 (.cons (.var 0) .nil))) (.cons (.ret (.bin .sub (.bif .len (.cons (.var 0) .nil)) (.bif .len (.cons (.call 10 (.cons (.var 0) .nil)) .nil)))) .nil))
def f_fewest : FD := { nm := "fewest", np := 1, N := ["rack"], kd := 0, body := b_fewest }
/-- 12: round_paper(rack, many); 0=rack 1=many 2=found -/
def b_round_paper : Ss := (.cons (.expr (.call 8 (.cons (.var 0) .nil))) (.cons (.ite (.not (.call 6 (.cons (.var 1) (.cons (.lit (.int 0)) (.cons (.con 1) .nil))))) (.cons .nev .nil) .nil) (.cons (.asg (.pat (.nm 2)) (.call 10 (.cons (.var 0) .nil))) (.cons (.ret (.ite (.bin .ge (.bin .sub (.bif .len (.cons (.var 0) .nil)) (.bif .len (.cons (.var 2) .nil))) (.var 1)) (.bif .tuple (.cons (.var 2) .nil)) (.lit .non))) .nil))))
def f_round_paper : FD := { nm := "round_paper", np := 2, N := ["rack", "many", "found"], kd := 0, body := b_round_paper }
/-- 13: rounds(rack); 0=rack -/
def b_rounds : Ss := (.cons (.expr (.call 8 (.cons (.var 0) .nil))) (.cons (.ret (.bif .tuple (.cons (.call 10 (.cons (.var 0) .nil)) .nil))) .nil))
def f_rounds : FD := { nm := "rounds", np := 1, N := ["rack"], kd := 0, body := b_rounds }
/-- 14: is_round_paper(rack, many, value); 0=rack 1=many 2=value 3=pegs 4=there 5=steps 6=row 7=peg 8=one 9=other -/
def c_is_round_paper_0 : E := .mkl false (.comp [6] (.nm 6) (.var 2) .nil (.call 5 (.cons (.var 6) (.cons (.lit (.int 1)) (.cons (.bif .len (.cons (.var 0) .nil)) .nil)))))
def c_is_round_paper_1 : E := .mkl false (.comp2 [6, 7] [7] (.nm 6) (.var 2) .nil (.nm 7) (.var 6) .nil (.var 7))
def c_is_round_paper_2 : E := .mkl false (.comp [7] (.nm 7) (.var 3) .nil (.call 6 (.cons (.var 7) (.cons (.lit (.int 0)) (.cons (.bin .sub (.bif .len (.cons (.var 0) .nil)) (.lit (.int 1))) .nil)))))
def c_is_round_paper_3 : E := .mkl false (.comp2 [6, 8, 9] [8, 9] (.nm 6) (.var 2) .nil (.tup [8, 9]) (.zip (.var 6) (.bin .add (.sl (.var 6) (.cons (.lit (.int 1)) .nil) .nil) (.sl (.var 6) .nil (.cons (.lit (.int 1)) .nil)))) .nil (.bin .eq (.ix (.var 4) (.var 8)) (.var 9)))
def b_is_round_paper : Ss := (.cons (.expr (.call 8 (.cons (.var 0) .nil))) (.cons (.ite (.not (.call 6 (.cons (.var 1) (.cons (.lit (.int 0)) (.cons (.con 1) .nil))))) (.cons .nev .nil) .nil) (.cons (.ite (.or (.not (.isi (.var 2) .tuple)) (.not (.bif .all (.cons c_is_round_paper_0 .nil)))) (.cons (.ret (.lit (.bl false))) .nil) .nil) (.cons (.asg (.pat (.nm 3)) c_is_round_paper_1) (.cons (.ite (.or (.not (.bif .all (.cons c_is_round_paper_2 .nil))) (.bin .ne (.bif .sorted (.cons (.var 3) .nil)) (.mkl false (.ofl (.rng (.cons (.bif .len (.cons (.var 0) .nil)) .nil)))))) (.cons (.ret (.lit (.bl false))) .nil) .nil) (.cons (.asg (.pat (.nm 4)) (.call 9 (.cons (.var 0) .nil))) (.cons (.asg (.pat (.nm 5)) c_is_round_paper_3) (.cons (.ret (.and (.bif .all (.cons (.var 5) .nil)) (.bin .ge (.bin .sub (.bif .len (.cons (.var 0) .nil)) (.bif .len (.cons (.var 2) .nil))) (.var 1)))) .nil))))))))
def f_is_round_paper : FD := { nm := "is_round_paper", np := 3, N := ["rack", "many", "value", "pegs", "there", "steps", "row", "peg", "one", "other"], kd := 0, body := b_is_round_paper }
/-- 17: is_rack(value); 0=value -/
def b_is_rack : Ss := (.cons (.ret (.call 7 (.cons (.var 0) .nil))) .nil)
def f_is_rack : FD := { nm := "is_rack", np := 1, N := ["value"], kd := 0, body := b_is_rack }
/-- 18: fits_plan(rack, value); 0=rack 1=value 2=one 3=other -/
def c_fits_plan_0 : E := .mkl false (.comp [2] (.nm 2) (.var 1) .nil (.call 5 (.cons (.var 2) (.cons (.lit (.int 2)) (.cons (.lit (.int 2)) .nil)))))
def c_fits_plan_1 : E := .mkl false (.comp [2, 3] (.tup [2, 3]) (.var 1) .nil (.and (.call 6 (.cons (.var 2) (.cons (.lit (.int 0)) (.cons (.bin .sub (.bif .len (.cons (.var 0) .nil)) (.lit (.int 1))) .nil)))) (.call 6 (.cons (.var 3) (.cons (.bin .add (.var 2) (.lit (.int 1))) (.cons (.bin .sub (.bif .len (.cons (.var 0) .nil)) (.lit (.int 1))) .nil))))))
def b_fits_plan : Ss := (.cons (.ite (.or (.not (.call 5 (.cons (.var 1) (.cons (.lit (.int 0)) (.cons (.con 1) .nil))))) (.not (.bif .all (.cons c_fits_plan_0 .nil)))) (.cons (.ret (.lit (.bl false))) .nil) .nil) (.cons (.ret (.bif .all (.cons c_fits_plan_1 .nil))) .nil))
def f_fits_plan : FD := { nm := "fits_plan", np := 2, N := ["rack", "value", "one", "other"], kd := 0, body := b_fits_plan }
/-- 19: is_plan(rack, value); 0=rack 1=value -/
def b_is_plan : Ss := (.cons (.expr (.call 8 (.cons (.var 0) .nil))) (.cons (.ret (.call 18 (.cons (.var 0) (.cons (.var 1) .nil)))) .nil))
def f_is_plan : FD := { nm := "is_plan", np := 2, N := ["rack", "value"], kd := 0, body := b_is_plan }
/-- 20: need_plan(rack, plan); 0=rack 1=plan -/
def b_need_plan : Ss := (.cons (.expr (.call 8 (.cons (.var 0) .nil))) (.cons (.ite (.not (.call 18 (.cons (.var 0) (.cons (.var 1) .nil)))) (.cons .nev .nil) .nil) .nil))
def f_need_plan : FD := { nm := "need_plan", np := 2, N := ["rack", "plan"], kd := 0, body := b_need_plan }
/-- 21: exchanged(rack, one, other); 0=rack 1=one 2=other 3=pegs -/
def b_exchanged : Ss := (.cons (.asg (.pat (.nm 3)) (.mkl true (.ofl (.var 0)))) (.cons (.asg (.two (.var 3) (.var 1) (.var 3) (.var 2)) (.tup (.cons (.tup (.cons (.ix (.ix (.var 3) (.var 1)) (.lit (.int 0))) (.cons (.ix (.ix (.var 3) (.var 2)) (.lit (.int 1))) .nil))) (.cons (.tup (.cons (.ix (.ix (.var 3) (.var 2)) (.lit (.int 0))) (.cons (.ix (.ix (.var 3) (.var 1)) (.lit (.int 1))) .nil))) .nil)))) (.cons (.ret (.bif .tuple (.cons (.var 3) .nil))) .nil)))
def f_exchanged : FD := { nm := "exchanged", np := 3, N := ["rack", "one", "other", "pegs"], kd := 0, body := b_exchanged }
/-- 22: played(rack, plan); 0=rack 1=plan 2=one 3=other -/
def b_played_l0 : Ss := (.cons (.asg (.pat (.nm 0)) (.call 21 (.cons (.var 0) (.cons (.var 2) (.cons (.var 3) .nil))))) (.cons (.fgt [2, 3]) .nil))
def l_played_0 : S := .for (.tup [2, 3]) (.var 1) b_played_l0
def b_played : Ss := (.cons l_played_0 (.cons (.ret (.var 0)) .nil))
def f_played : FD := { nm := "played", np := 2, N := ["rack", "plan", "one", "other"], kd := 0, body := b_played }
/-- 23: after(rack, plan); 0=rack 1=plan -/
def b_after : Ss := (.cons (.expr (.call 20 (.cons (.var 0) (.cons (.var 1) .nil)))) (.cons (.ret (.call 22 (.cons (.var 0) (.cons (.var 1) .nil)))) .nil))
def f_after : FD := { nm := "after", np := 2, N := ["rack", "plan"], kd := 0, body := b_after }
/-- 24: is_paired_in(rack); 0=rack 1=left 2=right -/
def c_is_paired_in_0 : E := .mkl false (.comp [1, 2] (.tup [1, 2]) (.var 0) .nil (.bin .eq (.var 1) (.var 2)))
def b_is_paired_in : Ss := (.cons (.ret (.bif .all (.cons c_is_paired_in_0 .nil))) .nil)
def f_is_paired_in : FD := { nm := "is_paired_in", np := 1, N := ["rack", "left", "right"], kd := 0, body := b_is_paired_in }
/-- 25: pairs_all(rack, plan); 0=rack 1=plan -/
def b_pairs_all : Ss := (.cons (.expr (.call 20 (.cons (.var 0) (.cons (.var 1) .nil)))) (.cons (.ret (.call 24 (.cons (.call 22 (.cons (.var 0) (.cons (.var 1) .nil))) .nil))) .nil))
def f_pairs_all : FD := { nm := "pairs_all", np := 2, N := ["rack", "plan"], kd := 0, body := b_pairs_all }
/-- 26: _law_change(rack, one, other); 0=rack 1=one 2=other 3=found 4=peg -/
def c_law_change_0 : E := .mkl true (.comp [4] (.nm 4) (.var 0) .nil (.mkl true (.ofl (.var 4))))
def c_law_change_1 : E := .mkl false (.comp [4] (.nm 4) (.var 3) .nil (.bif .tuple (.cons (.var 4) .nil)))
def b_law_change : Ss := (.cons (.asg (.pat (.nm 3)) c_law_change_0) (.cons (.asg (.two (.ix (.var 3) (.var 1)) (.lit (.int 1)) (.ix (.var 3) (.var 2)) (.lit (.int 1))) (.tup (.cons (.ix (.ix (.var 3) (.var 2)) (.lit (.int 1))) (.cons (.ix (.ix (.var 3) (.var 1)) (.lit (.int 1))) .nil)))) (.cons (.frzi 3) (.cons (.frz 3) (.cons (.ret (.bif .tuple (.cons c_law_change_1 .nil))) .nil)))))
def f_law_change : FD := { nm := "_law_change", np := 3, N := ["rack", "one", "other", "found", "peg"], kd := 0, body := b_law_change }
/-- 27: moved_on(rack, times); 0=rack 1=times 2=found 3=row 4=size 5=at 6=peg -/
def b_moved_on_l0 : Ss := (.cons (.asg (.sub (.var 2) (.ix (.var 3) (.bin .mod (.bin .add (.var 5) (.var 1)) (.var 4)))) (.tup (.cons (.ix (.ix (.var 2) (.ix (.var 3) (.bin .mod (.bin .add (.var 5) (.var 1)) (.var 4)))) (.lit (.int 0))) (.cons (.ix (.ix (.var 0) (.var 6)) (.lit (.int 1))) .nil)))) (.cons (.fgt [5, 6]) .nil))
def l_moved_on_0 : S := .for (.tup [5, 6]) (.enum (.var 3)) b_moved_on_l0
def b_moved_on_l1 : Ss := (.cons (.asg (.pat (.nm 4)) (.bif .len (.cons (.var 3) .nil))) (.cons l_moved_on_0 (.cons (.fgt [3, 4, 5, 6]) .nil)))
def l_moved_on_1 : S := .for (.nm 3) (.call 10 (.cons (.var 0) .nil)) b_moved_on_l1
def b_moved_on : Ss := (.cons (.expr (.call 8 (.cons (.var 0) .nil))) (.cons (.ite (.not (.call 6 (.cons (.var 1) (.cons (.lit (.int 0)) (.cons (.con 2) .nil))))) (.cons .nev .nil) .nil) (.cons (.asg (.pat (.nm 2)) (.mkl true (.ofl (.var 0)))) (.cons l_moved_on_1 (.cons (.ret (.bif .tuple (.cons (.var 2) .nil))) .nil)))))
def f_moved_on : FD := { nm := "moved_on", np := 2, N := ["rack", "times", "found", "row", "size", "at", "peg"], kd := 0, body := b_moved_on }
/-- 28: _law_paired(rack); 0=rack 1=peg -/
def c_law_paired_0 : E := .mkl false (.comp [1] (.nm 1) (.var 0) (.cons (.bin .ne (.ix (.var 1) (.lit (.int 0))) (.ix (.var 1) (.lit (.int 1)))) .nil) (.var 1))
def b_law_paired : Ss := (.cons (.ret (.bin .eq c_law_paired_0 (.mkl false (.disp .nil)))) .nil)
def f_law_paired : FD := { nm := "_law_paired", np := 1, N := ["rack", "peg"], kd := 0, body := b_law_paired }
/-- 29: is_even(rack); 0=rack -/
def b_is_even : Ss := (.cons (.expr (.call 8 (.cons (.var 0) .nil))) (.cons (.ret (.bin .eq (.bin .mod (.bin .sub (.bif .len (.cons (.var 0) .nil)) (.bif .len (.cons (.call 10 (.cons (.var 0) .nil)) .nil))) (.lit (.int 2))) (.lit (.int 0)))) .nil))
def f_is_even : FD := { nm := "is_even", np := 1, N := ["rack"], kd := 0, body := b_is_even }
/-- 30: times_home(rack); 0=rack 1=found 2=row 3=times -/
def b_times_home_l0 : Ss := (.cons (.asg (.pat (.nm 3)) (.bin .add (.var 3) (.var 1))) .nil)
def l_times_home_0 : S := .while (.bin .ne (.bin .mod (.var 3) (.bif .len (.cons (.var 2) .nil))) (.lit (.int 0))) b_times_home_l0
def b_times_home_l1 : Ss := (.cons (.asg (.pat (.nm 3)) (.var 1)) (.cons l_times_home_0 (.cons (.asg (.pat (.nm 1)) (.var 3)) (.cons (.fgt [2, 3]) .nil))))
def l_times_home_1 : S := .for (.nm 2) (.call 10 (.cons (.var 0) .nil)) b_times_home_l1
def b_times_home : Ss := (.cons (.expr (.call 8 (.cons (.var 0) .nil))) (.cons (.asg (.pat (.nm 1)) (.lit (.int 1))) (.cons l_times_home_1 (.cons (.ret (.var 1)) .nil))))
def f_times_home : FD := { nm := "times_home", np := 1, N := ["rack", "found", "row", "times"], kd := 0, body := b_times_home }
/-- 32: choose(many, some); 0=many 1=some 2=found 3=at -/
def b_choose_l0 : Ss := (.cons (.asg (.pat (.nm 2)) (.bin .fdiv (.bin .mul (.var 2) (.bin .sub (.var 0) (.var 3))) (.bin .add (.var 3) (.lit (.int 1))))) (.cons (.fgt [3]) .nil))
def l_choose_0 : S := .for (.nm 3) (.rng (.cons (.var 1) .nil)) b_choose_l0
def b_choose : Ss := (.cons (.asg (.pat (.nm 2)) (.lit (.int 1))) (.cons l_choose_0 (.cons (.ret (.var 2)) .nil)))
def f_choose : FD := { nm := "choose", np := 2, N := ["many", "some", "found", "at"], kd := 0, body := b_choose }
/-- 33: power(number, many); 0=number 1=many 2=found 3=turn -/
def b_power_l0 : Ss := (.cons (.asg (.pat (.nm 2)) (.bin .mul (.var 2) (.var 0))) (.cons (.fgt [3]) .nil))
def l_power_0 : S := .for (.nm 3) (.rng (.cons (.var 1) .nil)) b_power_l0
def b_power : Ss := (.cons (.asg (.pat (.nm 2)) (.lit (.int 1))) (.cons l_power_0 (.cons (.ret (.var 2)) .nil)))
def f_power : FD := { nm := "power", np := 2, N := ["number", "many", "found", "turn"], kd := 0, body := b_power }
/-- 34: count_fewest(rack); 0=rack 1=found 2=done 3=row 4=size -/
def b_count_fewest_l0 : Ss := (.cons (.asg (.pat (.nm 4)) (.bif .len (.cons (.var 3) .nil))) (.cons (.asg (.pat (.nm 2)) (.bin .sub (.bin .add (.var 2) (.var 4)) (.lit (.int 1)))) (.cons (.asg (.pat (.nm 1)) (.bin .mul (.bin .mul (.var 1) (.call 32 (.cons (.var 2) (.cons (.bin .sub (.var 4) (.lit (.int 1))) .nil)))) (.ite (.bin .gt (.var 4) (.lit (.int 1))) (.call 33 (.cons (.var 4) (.cons (.bin .sub (.var 4) (.lit (.int 2))) .nil))) (.lit (.int 1))))) (.cons (.fgt [3, 4]) .nil))))
def l_count_fewest_0 : S := .for (.nm 3) (.call 10 (.cons (.var 0) .nil)) b_count_fewest_l0
def b_count_fewest : Ss := (.cons (.expr (.call 8 (.cons (.var 0) .nil))) (.cons (.par [1, 2] (.cons (.lit (.int 1)) (.cons (.lit (.int 0)) .nil))) (.cons l_count_fewest_0 (.cons (.ret (.var 1)) .nil))))
def f_count_fewest : FD := { nm := "count_fewest", np := 1, N := ["rack", "found", "done", "row", "size"], kd := 0, body := b_count_fewest }
/-- 35: falls_in(rack); 0=rack 1=there 2=many 3=one 4=other -/
def c_falls_in_0 : E := .mkl false (.comp2 [3, 4] [4] (.nm 3) (.rng (.cons (.var 2) .nil)) .nil (.nm 4) (.rng (.cons (.bin .add (.var 3) (.lit (.int 1))) (.cons (.var 2) .nil))) (.cons (.bin .gt (.ix (.var 1) (.var 3)) (.ix (.var 1) (.var 4))) .nil) (.tup (.cons (.var 3) (.cons (.var 4) .nil))))
def b_falls_in : Ss := (.cons (.asg (.pat (.nm 1)) (.call 9 (.cons (.var 0) .nil))) (.cons (.asg (.pat (.nm 2)) (.bif .len (.cons (.var 0) .nil))) (.cons (.ret c_falls_in_0) .nil)))
def f_falls_in : FD := { nm := "falls_in", np := 1, N := ["rack", "there", "many", "one", "other"], kd := 0, body := b_falls_in }
/-- 36: fewest_beside(rack); 0=rack -/
def b_fewest_beside : Ss := (.cons (.expr (.call 8 (.cons (.var 0) .nil))) (.cons (.ret (.bif .len (.cons (.call 35 (.cons (.var 0) .nil)) .nil))) .nil))
def f_fewest_beside : FD := { nm := "fewest_beside", np := 1, N := ["rack"], kd := 0, body := b_fewest_beside }
/-- 37: told_plan(rack); 0=rack 1=found 2=peg 3=by 4=at 5=own -/
def c_told_plan_0 : E := .mkl false (.comp [4, 5] (.tup [4, 5]) (.enum (.var 0)) (.cons (.bin .eq (.ix (.var 5) (.lit (.int 1))) (.ix (.ix (.var 0) (.var 2)) (.lit (.int 0)))) .nil) (.var 4))
def b_told_plan_l0 : Ss := (.cons (.asg (.pat (.nm 3)) (.ix c_told_plan_0 (.lit (.int 0)))) (.cons (.ite (.bin .ne (.var 3) (.var 2)) (.cons (.par [1, 0] (.cons (.bin .add (.var 1) (.tup (.cons (.tup (.cons (.var 2) (.cons (.var 3) .nil))) .nil))) (.cons (.call 21 (.cons (.var 0) (.cons (.var 2) (.cons (.var 3) .nil)))) .nil))) .nil) .nil) (.cons (.fgt [2, 3]) .nil)))
def l_told_plan_0 : S := .for (.nm 2) (.rng (.cons (.bif .len (.cons (.var 0) .nil)) .nil)) b_told_plan_l0
def b_told_plan : Ss := (.cons (.expr (.call 8 (.cons (.var 0) .nil))) (.cons (.asg (.pat (.nm 1)) (.tup .nil)) (.cons l_told_plan_0 (.cons (.ret (.var 1)) .nil))))
def f_told_plan : FD := { nm := "told_plan", np := 1, N := ["rack", "found", "peg", "by", "at", "own"], kd := 0, body := b_told_plan }
/-- 38: told_beside(rack); 0=rack 1=found 2=there 3=wrong 4=peg -/
def c_told_beside_0 : E := .mkl false (.comp [4] (.nm 4) (.rng (.cons (.bin .sub (.bif .len (.cons (.var 0) .nil)) (.lit (.int 1))) .nil)) (.cons (.bin .gt (.ix (.var 2) (.var 4)) (.ix (.var 2) (.bin .add (.var 4) (.lit (.int 1))))) .nil) (.var 4))
def b_told_beside_l0 : Ss := (.cons (.asg (.pat (.nm 2)) (.call 9 (.cons (.var 0) .nil))) (.cons (.asg (.pat (.nm 3)) c_told_beside_0) (.cons (.ite (.bin .eq (.var 3) (.mkl false (.disp .nil))) (.cons (.ret (.var 1)) .nil) .nil) (.cons (.par [1, 0] (.cons (.bin .add (.var 1) (.tup (.cons (.tup (.cons (.ix (.var 3) (.lit (.int 0))) (.cons (.bin .add (.ix (.var 3) (.lit (.int 0))) (.lit (.int 1))) .nil))) .nil))) (.cons (.call 21 (.cons (.var 0) (.cons (.ix (.var 3) (.lit (.int 0))) (.cons (.bin .add (.ix (.var 3) (.lit (.int 0))) (.lit (.int 1))) .nil)))) .nil))) (.cons (.fgt [2, 3]) .nil)))))
def l_told_beside_0 : S := .while (.lit (.bl true)) b_told_beside_l0
def b_told_beside : Ss := (.cons (.expr (.call 8 (.cons (.var 0) .nil))) (.cons (.asg (.pat (.nm 1)) (.tup .nil)) (.cons l_told_beside_0 .nil)))
def f_told_beside : FD := { nm := "told_beside", np := 1, N := ["rack", "found", "there", "wrong", "peg"], kd := 0, body := b_told_beside }
/-- 0=PEGS 1=MOVES 2=FAR -/
def G : Nat → D := fun g => match g with | 0 => .int 7 | 1 => .int 30 | 2 => .int 1000000000000000000 | _ => .non
abbrev Has_law_same (T : Tb) : Prop := T.fds[1]? = some (some f_law_same)
abbrev Has_law_turned (T : Tb) : Prop := T.fds[3]? = some (some f_law_turned)
abbrev Has_law_rack (T : Tb) : Prop := T.fds[4]? = some (some f_law_rack)
abbrev Has_is_tuple_of (T : Tb) : Prop := T.fds[5]? = some (some f_is_tuple_of)
abbrev Has_is_whole (T : Tb) : Prop := T.fds[6]? = some (some f_is_whole)
abbrev Has_fits_rack (T : Tb) : Prop := T.fds[7]? = some (some f_fits_rack)
abbrev Has_need_rack (T : Tb) : Prop := T.fds[8]? = some (some f_need_rack)
abbrev Has_goes_to (T : Tb) : Prop := T.fds[9]? = some (some f_goes_to)
abbrev Has_rounds_in (T : Tb) : Prop := T.fds[10]? = some (some f_rounds_in)
abbrev Has_fewest (T : Tb) : Prop := T.fds[11]? = some (some f_fewest)
abbrev Has_round_paper (T : Tb) : Prop := T.fds[12]? = some (some f_round_paper)
abbrev Has_rounds (T : Tb) : Prop := T.fds[13]? = some (some f_rounds)
abbrev Has_is_round_paper (T : Tb) : Prop := T.fds[14]? = some (some f_is_round_paper)
abbrev Has_is_rack (T : Tb) : Prop := T.fds[17]? = some (some f_is_rack)
abbrev Has_fits_plan (T : Tb) : Prop := T.fds[18]? = some (some f_fits_plan)
abbrev Has_is_plan (T : Tb) : Prop := T.fds[19]? = some (some f_is_plan)
abbrev Has_need_plan (T : Tb) : Prop := T.fds[20]? = some (some f_need_plan)
abbrev Has_exchanged (T : Tb) : Prop := T.fds[21]? = some (some f_exchanged)
abbrev Has_played (T : Tb) : Prop := T.fds[22]? = some (some f_played)
abbrev Has_after (T : Tb) : Prop := T.fds[23]? = some (some f_after)
abbrev Has_is_paired_in (T : Tb) : Prop := T.fds[24]? = some (some f_is_paired_in)
abbrev Has_pairs_all (T : Tb) : Prop := T.fds[25]? = some (some f_pairs_all)
abbrev Has_law_change (T : Tb) : Prop := T.fds[26]? = some (some f_law_change)
abbrev Has_moved_on (T : Tb) : Prop := T.fds[27]? = some (some f_moved_on)
abbrev Has_law_paired (T : Tb) : Prop := T.fds[28]? = some (some f_law_paired)
abbrev Has_is_even (T : Tb) : Prop := T.fds[29]? = some (some f_is_even)
abbrev Has_times_home (T : Tb) : Prop := T.fds[30]? = some (some f_times_home)
abbrev Has_choose (T : Tb) : Prop := T.fds[32]? = some (some f_choose)
abbrev Has_power (T : Tb) : Prop := T.fds[33]? = some (some f_power)
abbrev Has_count_fewest (T : Tb) : Prop := T.fds[34]? = some (some f_count_fewest)
abbrev Has_falls_in (T : Tb) : Prop := T.fds[35]? = some (some f_falls_in)
abbrev Has_fewest_beside (T : Tb) : Prop := T.fds[36]? = some (some f_fewest_beside)
abbrev Has_told_plan (T : Tb) : Prop := T.fds[37]? = some (some f_told_plan)
abbrev Has_told_beside (T : Tb) : Prop := T.fds[38]? = some (some f_told_beside)
end Shoe

/-! plain: the rounds of a permutation -/
namespace Shoe
open Sh

theorem nd_sub : ∀ {l m : List Nat}, l.Nodup → (∀ x ∈ l, x ∈ m) → l.length ≤ m.length
  | [], _, _, _ => Nat.zero_le _
  | x :: l, m, h, s => by
    have h := List.nodup_cons.mp h
    have hm := s x List.mem_cons_self
    have ih := nd_sub (m := m.erase x) h.2 fun y hy => (List.mem_erase_of_ne (fun e => by subst e; exact h.1 hy)).mpr (s y (List.mem_cons_of_mem _ hy))
    have hl := List.length_erase_of_mem hm
    have hp := List.length_pos_of_mem hm
    simp only [List.length_cons]; omega
theorem nd_all {l m : List Nat} (h : l.Nodup) (s : ∀ x ∈ l, x ∈ m) (hl : m.length ≤ l.length) : ∀ y ∈ m, y ∈ l := fun y hy => by
  by_cases c : y ∈ l
  · exact c
  · have := nd_sub (l := y :: l) (m := m) (List.nodup_cons.mpr ⟨c, h⟩) fun z hz => by
      rcases List.mem_cons.mp hz with rfl | hz
      · exact hy
      · exact s z hz
    simp only [List.length_cons] at this; omega
theorem nd_map {f : Nat → Nat} : ∀ {l : List Nat}, l.Nodup → (∀ x ∈ l, ∀ y ∈ l, f x = f y → x = y) → (l.map f).Nodup
  | [], _, _ => List.nodup_nil
  | x :: l, h, i => by
    have h := List.nodup_cons.mp h
    refine List.nodup_cons.mpr ⟨fun z => ?_, nd_map h.2 fun a ha b hb => i a (List.mem_cons_of_mem _ ha) b (List.mem_cons_of_mem _ hb)⟩
    obtain ⟨y, hy, e⟩ := List.mem_map.mp z
    exact h.1 (i x List.mem_cons_self y (List.mem_cons_of_mem _ hy) e.symm ▸ hy)
theorem perm_of_mem {l m : List Nat} (h : l.Nodup) (h2 : m.Nodup) (e : ∀ x, x ∈ l ↔ x ∈ m) : l.Perm m := by
  induction l generalizing m with
  | nil =>
    cases m with
    | nil => exact .refl _
    | cons y m => exact absurd ((e y).mpr List.mem_cons_self) (by simp)
  | cons x l ih =>
    have h := List.nodup_cons.mp h
    have hx : x ∈ m := (e x).mp List.mem_cons_self
    refine ((ih h.2 (h2.erase x) fun y => ?_).cons x).trans (List.perm_cons_erase hx).symm
    constructor
    · intro hy
      exact (List.mem_erase_of_ne (fun z => by subst z; exact h.1 hy)).mpr ((e y).mp (List.mem_cons_of_mem _ hy))
    · intro hy
      have hne : y ≠ x := fun z => by subst z; exact (List.Nodup.not_mem_erase h2) hy
      have := (e y).mpr (List.mem_of_mem_erase hy)
      rcases List.mem_cons.mp this with z | z
      · exact absurd z hne
      · exact z
/-- a permutation of 0 .. n - 1 -/
structure Pm (n : Nat) (f : Nat → Nat) : Prop where
  lt : ∀ i, i < n → f i < n
  inj : ∀ i j, i < n → j < n → f i = f j → i = j
theorem Pm.it_lt {n : Nat} {f : Nat → Nat} (p : Pm n f) : ∀ (k x : Nat), x < n → it f k x < n
  | 0, _, h => h
  | k + 1, x, h => p.it_lt k (f x) (p.lt x h)
theorem it_add {α : Type} (f : α → α) : ∀ (a b : Nat) (x : α), it f (a + b) x = it f b (it f a x)
  | 0, b, x => by rw [Nat.zero_add]; rfl
  | a + 1, b, x => by rw [Nat.add_right_comm]; exact it_add f a b (f x)
/-- x, f x, .., m of them -/
def run (f : Nat → Nat) (m x : Nat) : List Nat := (List.range m).map fun k => it f k x
theorem run_len (f : Nat → Nat) (m x : Nat) : (run f m x).length = m := by simp [run]
theorem run_succ (f : Nat → Nat) (m x : Nat) : run f (m + 1) x = run f m x ++ [it f m x] := by simp [run, List.range_succ]
theorem run_cons (f : Nat → Nat) (m x : Nat) : run f (m + 1) x = x :: run f m (f x) := by
  simp only [run, List.range_succ_eq_map, List.map_cons, List.map_map]; rfl
theorem mem_run {f : Nat → Nat} {m x y : Nat} : y ∈ run f m x ↔ ∃ k, k < m ∧ it f k x = y := by simp [run]
/-- a round -/
def Cyc (f : Nat → Nat) (r : List Nat) : Prop := ∃ x, r ≠ [] ∧ r = run f r.length x ∧ it f r.length x = x
/-- each leads to the next one, the last to the first -/
def closedB (f : Nat → Nat) (r : List Nat) : Bool := (r.zip (r.drop 1 ++ r.take 1)).all fun p => decide (f p.1 = p.2)
theorem zip_run (f : Nat → Nat) (e : Nat) : ∀ (l : List Nat) (y : Nat), (((y :: l).zip (l ++ [e])).all fun p => decide (f p.1 = p.2)) = true ↔ (y :: l = run f (l.length + 1) y ∧ it f (l.length + 1) y = e)
  | [], y => by simp [run, it]
  | z :: l, y => by
    have ih := zip_run f e l z
    rw [List.cons_append, List.zip_cons_cons, List.all_cons, Bool.and_eq_true, ih, decide_eq_true_eq, List.length_cons, run_cons f (l.length + 1) y]
    constructor
    · rintro ⟨h1, h2, h3⟩
      have h1 : f y = z := h1
      rw [h1]
      exact ⟨by rw [h2], by show it f (l.length + 1) (f y) = e; rw [h1]; exact h3⟩
    · rintro ⟨h1, h2⟩
      have h1 := (List.cons.inj h1).2
      have hz : z = f y := by rw [run_cons] at h1; exact (List.cons.inj h1).1
      subst hz
      exact ⟨rfl, h1, h2⟩
theorem closed_iff {f : Nat → Nat} {r : List Nat} (h : r ≠ []) : closedB f r = true ↔ Cyc f r := by
  cases r with
  | nil => exact absurd rfl h
  | cons y l =>
    unfold closedB
    have e : (y :: l).drop 1 ++ (y :: l).take 1 = l ++ [y] := rfl
    rw [e, zip_run]
    constructor
    · rintro ⟨h1, h2⟩
      exact ⟨y, by simp, h1, h2⟩
    · rintro ⟨x, _, h1, h2⟩
      have hx : y = x := by
        rw [List.length_cons, run_cons] at h1
        exact (List.cons.inj h1).1
      subst hx
      exact ⟨h1, h2⟩
theorem Cyc.step {f : Nat → Nat} {r : List Nat} (c : Cyc f r) {x : Nat} (h : x ∈ r) : f x ∈ r := by
  obtain ⟨y, hn, e, hl⟩ := c
  rw [e] at h ⊢
  obtain ⟨k, hk, rfl⟩ := mem_run.mp h
  by_cases hk2 : k + 1 < r.length
  · exact mem_run.mpr ⟨k + 1, hk2, it_succ f k y⟩
  · have hk3 : k + 1 = r.length := by omega
    refine mem_run.mpr ⟨0, by omega, ?_⟩
    have := it_succ f k y
    rw [hk3, hl] at this
    exact this
theorem Cyc.its {f : Nat → Nat} {r : List Nat} (c : Cyc f r) : ∀ (k : Nat) {x : Nat}, x ∈ r → it f k x ∈ r
  | 0, _, h => h
  | k + 1, _, h => c.its k (c.step h)
theorem Cyc.reach {f : Nat → Nat} {r : List Nat} (c : Cyc f r) {x y : Nat} (hx : x ∈ r) (hy : y ∈ r) : ∃ k, it f k x = y := by
  obtain ⟨z, hn, e, hl⟩ := c
  rw [e] at hx hy
  obtain ⟨i, hi, rfl⟩ := mem_run.mp hx
  obtain ⟨j, hj, rfl⟩ := mem_run.mp hy
  refine ⟨(r.length - i) + j, ?_⟩
  rw [it_add, ← it_add f i, show i + (r.length - i) = r.length by omega, hl]
/-- rows that are a paper: rounds, all pegs once -/
structure Pap (n : Nat) (f : Nat → Nat) (P : List (List Nat)) : Prop where
  cyc : ∀ r ∈ P, Cyc f r
  all : P.flatten.Perm (List.range n)
theorem disj_of {P : List (List Nat)} (h : P.flatten.Nodup) : P.Pairwise fun a b => ∀ x ∈ a, x ∉ b := by
  induction P with
  | nil => exact .nil
  | cons a P ih =>
    rw [List.flatten_cons, List.nodup_append] at h
    refine List.pairwise_cons.mpr ⟨fun b hb x hx hxb => h.2.2 x hx x (List.mem_flatten.mpr ⟨b, hb, hxb⟩) rfl, ih h.2.1⟩
theorem Pap.le {n : Nat} {f : Nat → Nat} {P Q : List (List Nat)} (p : Pap n f P) (q : Pap n f Q) : P.length ≤ Q.length := by
  let g : List Nat → Nat := fun r => Q.findIdx fun r' => r'.contains (r.headD 0)
  have hhead : ∀ r ∈ P, r.headD 0 ∈ r := fun r hr => by
    obtain ⟨x, hn, _⟩ := p.cyc r hr
    cases r with
    | nil => exact absurd rfl hn
    | cons a l => exact List.mem_cons_self
  have hg : ∀ r ∈ P, ∃ h : g r < Q.length, r.headD 0 ∈ Q[g r] := fun r hr => by
    have h1 : r.headD 0 ∈ P.flatten := List.mem_flatten.mpr ⟨r, hr, hhead r hr⟩
    have h2 : r.headD 0 ∈ Q.flatten := q.all.mem_iff.mpr (p.all.mem_iff.mp h1)
    obtain ⟨r', hr', hm⟩ := List.mem_flatten.mp h2
    have hlt : g r < Q.length := List.findIdx_lt_length_of_exists ⟨r', hr', by simpa using hm⟩
    refine ⟨hlt, ?_⟩
    have h9 := List.findIdx_getElem (w := hlt)
    have h9 : (Q[g r]).contains (r.headD 0) = true := h9
    rwa [List.contains_eq_mem, decide_eq_true_eq] at h9
  have hd := disj_of (p.all.nodup_iff.mpr List.nodup_range)
  have nd : (P.map g).Nodup := by
    have key : ∀ P' : List (List Nat), (∀ r ∈ P', r ∈ P) → P'.Pairwise (fun a b => ∀ x ∈ a, x ∉ b) → (P'.map g).Nodup := by
      intro P'
      induction P' with
      | nil => intro _ _; exact List.nodup_nil
      | cons a P' ih =>
        intro hs hp
        have hp := List.pairwise_cons.mp hp
        refine List.nodup_cons.mpr ⟨fun z => ?_, ih (fun r hr => hs r (List.mem_cons_of_mem _ hr)) hp.2⟩
        obtain ⟨b, hb, e⟩ := List.mem_map.mp z
        have ha' := hs a List.mem_cons_self
        have hb' := hs b (List.mem_cons_of_mem _ hb)
        obtain ⟨l1, m1⟩ := hg a ha'
        obtain ⟨l2, m2⟩ := hg b hb'
        have m3 : b.headD 0 ∈ Q[g a] := by
          have : Q[g b] = Q[g a] := by congr 1
          rw [← this]; exact m2
        obtain ⟨k, hk⟩ := (q.cyc _ (List.getElem_mem l1)).reach m1 m3
        have := (p.cyc a ha').its k (hhead a ha')
        rw [hk] at this
        exact hp.1 b hb _ this (hhead b hb')
    exact key P (fun _ h => h) hd
  have := nd_sub (m := List.range Q.length) nd fun x hx => by
    obtain ⟨r, hr, rfl⟩ := List.mem_map.mp hx
    obtain ⟨h, _⟩ := hg r hr
    exact List.mem_range.mpr h
  simpa using this
theorem Pap.len {n : Nat} {f : Nat → Nat} {P Q : List (List Nat)} (p : Pap n f P) (q : Pap n f Q) : P.length = Q.length := Nat.le_antisymm (p.le q) (q.le p)
/-! ### how they are found -/
abbrev Wk := List Nat × List Nat × Nat
def wkQ (s : Wk) : Bool := !(s.1.contains s.2.2)
def wkS (f : Nat → Nat) (s : Wk) : Wk := (s.1 ++ [s.2.2], s.2.1 ++ [s.2.2], f s.2.2)
/-- the walk from b -/
structure WkOk' (n : Nat) (f : Nat → Nat) (k0 : List Nat) (b : Nat) (s : Wk) : Prop where
  known : s.1 = k0 ++ s.2.1
  nd : s.1.Nodup
  lt : ∀ x ∈ s.1, x < n
  row : s.2.1 = run f s.2.1.length b
  here : s.2.2 = it f s.2.1.length b
  hlt : s.2.2 < n
theorem wk_step {n : Nat} {f : Nat → Nat} (p : Pm n f) {k0 : List Nat} {b : Nat} {s : Wk} (o : WkOk' n f k0 b s) (hq : wkQ s = true) : WkOk' n f k0 b (wkS f s) ∧ n - (wkS f s).1.length < n - s.1.length := by
  obtain ⟨k, r, h⟩ := s
  obtain ⟨h1, h2, h3, h4, h5, h6⟩ := o
  simp only [wkQ, Bool.not_eq_true', List.contains_eq_mem, decide_eq_false_iff_not] at hq
  simp only at h1 h2 h3 h4 h5 h6
  have hlen : k.length < n := by
    have := nd_sub (l := h :: k) (m := List.range n) (List.nodup_cons.mpr ⟨hq, h2⟩) fun x hx => by
      rcases List.mem_cons.mp hx with rfl | hx
      · exact List.mem_range.mpr h6
      · exact List.mem_range.mpr (h3 x hx)
    simp only [List.length_cons, List.length_range] at this; omega
  refine ⟨⟨?_, ?_, fun x hx => ?_, ?_, ?_, p.lt h h6⟩, by simp only [wkS, List.length_append, List.length_cons, List.length_nil]; omega⟩
  · simp only [wkS, h1, List.append_assoc]
  · simp only [wkS]
    exact List.nodup_append.mpr ⟨h2, by simp, fun x hx y hy e => by simp at hy; subst hy e; exact hq hx⟩
  · simp only [wkS, List.mem_append, List.mem_cons, List.not_mem_nil, or_false] at hx
    rcases hx with hx | rfl
    · exact h3 x hx
    · exact h6
  · simp only [wkS, List.length_append, List.length_cons, List.length_nil]
    rw [run_succ, ← h4, ← h5]
  · simp only [wkS, List.length_append, List.length_cons, List.length_nil]
    rw [it_succ, ← h5]
/-- known and found, behind each peg -/
structure RdOk (n : Nat) (f : Nat → Nat) (s : List Nat × List (List Nat)) : Prop where
  known : s.1 = s.2.flatten
  nd : s.1.Nodup
  lt : ∀ x ∈ s.1, x < n
  cyc : ∀ r ∈ s.2, Cyc f r
def rdS (f : Nat → Nat) (n : Nat) (s : List Nat × List (List Nat)) (b : Nat) : List Nat × List (List Nat) :=
  let w := runW wkQ (wkS f) (n + 1) (s.1, [], b)
  (w.1, if w.2.1 = [] then s.2 else s.2 ++ [w.2.1])
theorem runW_ok {σ : Type} {q : σ → Bool} {step : σ → σ} (μ : σ → Nat) (P : σ → Prop) (hp : ∀ a, P a → q a = true → P (step a) ∧ μ (step a) < μ a) : ∀ (k : Nat) (a : σ), P a → μ a < k → P (runW q step k a) ∧ q (runW q step k a) = false
  | 0, _, _, h => by omega
  | k + 1, a, pa, h => by
    unfold runW
    cases hq : q a with
    | false => simp only [Bool.false_eq_true, if_false]; exact ⟨pa, hq⟩
    | true =>
      obtain ⟨h1, h2⟩ := hp a pa hq
      simp only [if_true]
      exact runW_ok μ P hp k (step a) h1 (by omega)
theorem wk_start {n : Nat} {f : Nat → Nat} {s : List Nat × List (List Nat)} (o : RdOk n f s) {b : Nat} (hb : b < n) : WkOk' n f s.1 b (s.1, [], b) := ⟨by simp, o.nd, o.lt, rfl, rfl, hb⟩
theorem rd_step {n : Nat} {f : Nat → Nat} (p : Pm n f) {s : List Nat × List (List Nat)} (o : RdOk n f s) {b : Nat} (hb : b < n) : RdOk n f (rdS f n s b) ∧ b ∈ (rdS f n s b).1 ∧ ∀ x ∈ s.1, x ∈ (rdS f n s b).1 := by
  obtain ⟨⟨h1, h2, h3, h4, h5, h6⟩, hq⟩ := runW_ok (fun s : Wk => n - s.1.length) (WkOk' n f s.1 b) (fun a h q => wk_step p h q) (n + 1) _ (wk_start o hb) (by show n - s.1.length < n + 1; omega)
  unfold rdS
  generalize runW wkQ (wkS f) (n + 1) (s.1, [], b) = w at *
  obtain ⟨k, r, h⟩ := w
  simp only [wkQ, Bool.not_eq_false', List.contains_eq_mem, decide_eq_true_eq] at hq
  simp only at h1 h2 h3 h4 h5 h6 ⊢
  have hk0 : ∀ x ∈ s.1, x ∈ k := fun x hx => by rw [h1]; exact List.mem_append_left _ hx
  by_cases hr : r = []
  · subst hr
    simp only [List.append_nil] at h1
    have hh : h = b := h5
    subst hh
    rw [if_pos rfl]
    exact ⟨⟨by rw [h1]; exact o.known, h2, h3, o.cyc⟩, hq, hk0⟩
  · rw [if_neg hr]
    have hm : 0 < r.length := List.length_pos_iff.mpr hr
    obtain ⟨m, hm'⟩ : ∃ m, r.length = m + 1 := ⟨r.length - 1, by omega⟩
    have hrow : r = run f (m + 1) b := by rw [← hm']; exact h4
    have hhere : h = f (it f m b) := by rw [h5, hm', it_succ]
    have hlast : it f m b ∈ r := by rw [hrow]; exact mem_run.mpr ⟨m, by omega, rfl⟩
    have hll : it f m b < n := h3 _ (by rw [h1]; exact List.mem_append_right _ hlast)
    have nd2 : (s.1 ++ r).Nodup := by rw [← h1]; exact h2
    have nd3 := List.nodup_append.mp nd2
    have hhb : h = b := by
      rw [h1] at hq
      rcases List.mem_append.mp hq with hq | hq
      · -- the known ones are led to by known ones only
        have hcl : ∀ x ∈ s.1, f x ∈ s.1 := fun x hx => by
          rw [o.known] at hx ⊢
          obtain ⟨r', hr', hx⟩ := List.mem_flatten.mp hx
          exact List.mem_flatten.mpr ⟨r', hr', (o.cyc r' hr').step hx⟩
        have ndm : (s.1.map f).Nodup := nd_map o.nd fun x hx y hy e => p.inj x y (o.lt x hx) (o.lt y hy) e
        have hin := nd_all ndm (fun x hx => by
          obtain ⟨y, hy, rfl⟩ := List.mem_map.mp hx
          exact hcl y hy) (by simp) h hq
        obtain ⟨y, hy, e⟩ := List.mem_map.mp hin
        have : y = it f m b := p.inj y _ (o.lt y hy) hll (e.trans hhere)
        subst this
        exact absurd rfl (nd3.2.2 _ hy _ hlast)
      · rw [hrow] at hq
        obtain ⟨i, hi, e⟩ := mem_run.mp hq
        cases i with
        | zero => exact e.symm
        | succ i =>
          rw [it_succ, hhere] at e
          have hi2 : it f i b ∈ r := by rw [hrow]; exact mem_run.mpr ⟨i, by omega, rfl⟩
          have e2 := p.inj _ _ (h3 _ (by rw [h1]; exact List.mem_append_right _ hi2)) hll e
          have ndr : (run f (m + 1) b).Nodup := by rw [← hrow]; exact nd3.2.1
          have hne := List.pairwise_iff_getElem.mp ndr i m (by rw [run_len]; omega) (by rw [run_len]; omega) (by omega)
          simp only [run, List.getElem_map, List.getElem_range] at hne
          exact absurd e2 hne
    refine ⟨⟨?_, h2, h3, fun r' hr' => ?_⟩, ?_, hk0⟩
    · simp only [List.flatten_append, List.flatten_cons, List.flatten_nil, List.append_nil]
      rw [h1, o.known]
    · simp only [List.mem_append, List.mem_cons, List.not_mem_nil, or_false] at hr'
      rcases hr' with hr' | rfl
      · exact o.cyc r' hr'
      · exact ⟨b, hr, h4, by rw [← h5]; exact hhb⟩
    · rw [h1]
      refine List.mem_append_right _ ?_
      rw [hrow]
      exact mem_run.mpr ⟨0, by omega, rfl⟩
def roundsF (f : Nat → Nat) (n : Nat) : List (List Nat) := ((List.range n).foldl (rdS f n) ([], [])).2
theorem rd_all {n : Nat} {f : Nat → Nat} (p : Pm n f) : ∀ (bs : List Nat) (s : List Nat × List (List Nat)), (∀ b ∈ bs, b < n) → RdOk n f s → RdOk n f (bs.foldl (rdS f n) s) ∧ (∀ b ∈ bs, b ∈ (bs.foldl (rdS f n) s).1) ∧ ∀ x ∈ s.1, x ∈ (bs.foldl (rdS f n) s).1
  | [], s, _, o => ⟨o, fun b h => by simp at h, fun x h => h⟩
  | b :: bs, s, hb, o => by
    obtain ⟨o1, m1, k1⟩ := rd_step p o (hb b List.mem_cons_self)
    obtain ⟨o2, m2, k2⟩ := rd_all p bs _ (fun x hx => hb x (List.mem_cons_of_mem _ hx)) o1
    refine ⟨o2, fun x hx => ?_, fun x hx => k2 x (k1 x hx)⟩
    rcases List.mem_cons.mp hx with rfl | hx
    · exact k2 _ m1
    · exact m2 x hx
theorem rounds_pap {n : Nat} {f : Nat → Nat} (p : Pm n f) : Pap n f (roundsF f n) := by
  obtain ⟨o, m, _⟩ := rd_all p (List.range n) ([], []) (fun b hb => List.mem_range.mp hb) ⟨rfl, List.nodup_nil, fun x h => by simp at h, fun r h => by simp at h⟩
  refine ⟨o.cyc, ?_⟩
  unfold roundsF
  rw [← o.known]
  exact perm_of_mem o.nd List.nodup_range fun x => ⟨fun h => List.mem_range.mpr (o.lt x h), fun h => m x h⟩
end Shoe

/-! what the functions of shoes compute: racks -/
namespace Shoe
open PySem PySem.Spec PyProof.Rows L2 Sh
abbrev Rk := List (Nat × Nat)
def pegD (p : Nat × Nat) : D := .tup [.int p.1, .int p.2]
def encR (R : Rk) : D := .tup (R.map pegD)
structure RackOk (R : Rk) : Prop where
  pos : 1 ≤ R.length
  seven : R.length ≤ 7
  lefts : (R.map (·.1)).Nodup
  rights : (R.map (·.2)).Nodup
  lt : ∀ p ∈ R, p.1 < R.length ∧ p.2 < R.length
/-- where the right shoe of each peg belongs -/
def there (R : Rk) : List Nat := R.map fun p => (R.map (·.1)).idxOf p.2
def fn (R : Rk) (i : Nat) : Nat := (there R).getD i 0
theorem there_len (R : Rk) : (there R).length = R.length := by simp [there]
theorem mem_lefts {R : Rk} (o : RackOk R) {x : Nat} (h : x < R.length) : x ∈ R.map (·.1) := by
  refine nd_all o.lefts (m := List.range R.length) (fun y hy => ?_) (by simp) x (List.mem_range.mpr h)
  obtain ⟨p, hp, rfl⟩ := List.mem_map.mp hy
  exact List.mem_range.mpr (o.lt p hp).1
theorem fn_eq {R : Rk} {i : Nat} (h : i < R.length) : fn R i = (R.map (·.1)).idxOf (R[i]'h).2 := by
  unfold fn there
  rw [List.getD_eq_getElem?_getD, List.getElem?_map, List.getElem?_eq_getElem h]; rfl
theorem fn_lt {R : Rk} (o : RackOk R) {i : Nat} (h : i < R.length) : fn R i < R.length := by
  rw [fn_eq h]
  have := List.idxOf_lt_length_of_mem (mem_lefts o (o.lt _ (List.getElem_mem h)).2)
  simpa using this
/-- the peg to which peg i leads has the left shoe to its right one -/
theorem fn_left {R : Rk} (o : RackOk R) {i : Nat} (h : i < R.length) : (R[fn R i]'(fn_lt o h)).1 = (R[i]'h).2 := by
  have hm := mem_lefts o (o.lt _ (List.getElem_mem h)).2
  have hl := List.idxOf_lt_length_of_mem hm
  have e := List.getElem_idxOf hl
  have e2 : (R.map (·.1))[fn R i]'(by rw [List.length_map]; exact fn_lt o h) = (R[i]'h).2 := by
    have : ∀ j (hj : j < (R.map (·.1)).length), j = fn R i → (R.map (·.1))[j]'hj = (R.map (·.1))[fn R i]'(by rw [List.length_map]; exact fn_lt o h) := fun j hj e => by subst e; rfl
    rw [← this _ hl (fn_eq h).symm]; exact e
  simpa using e2
theorem fn_iff {R : Rk} (o : RackOk R) {i j : Nat} (h : i < R.length) (hj : j < R.length) : fn R i = j ↔ (R[i]'h).2 = (R[j]'hj).1 := by
  constructor
  · intro e; subst e; exact (fn_left o h).symm
  · intro e
    have e2 := (fn_left o h).trans e
    have hi := fn_lt o h
    by_cases c : fn R i = j
    · exact c
    · have nd := List.pairwise_iff_getElem.mp o.lefts
      rcases Nat.lt_or_gt_of_ne c with z | z
      · have := nd (fn R i) j (by simpa using hi) (by simpa using hj) z
        simp only [List.getElem_map] at this
        exact absurd e2 this
      · have := nd j (fn R i) (by simpa using hj) (by simpa using hi) z
        simp only [List.getElem_map] at this
        exact absurd e2.symm this
theorem rack_pm {R : Rk} (o : RackOk R) : Pm R.length (fn R) := ⟨fun i h => fn_lt o h, fun i j hi hj e => by
  have h1 := (fn_iff o hi (fn_lt o hi)).mp rfl
  have h2 := (fn_iff o hj (fn_lt o hi)).mp e.symm
  have h3 : (R[i]'hi).2 = (R[j]'hj).2 := h1.trans h2.symm
  by_cases c : i = j
  · exact c
  · have nd := List.pairwise_iff_getElem.mp o.rights
    rcases Nat.lt_or_gt_of_ne c with z | z
    · have := nd i j (by simpa using hi) (by simpa using hj) z
      simp only [List.getElem_map] at this
      exact absurd h3 this
    · have := nd j i (by simpa using hj) (by simpa using hi) z
      simp only [List.getElem_map] at this
      exact absurd h3.symm this⟩
/-! ### numbers and tuples -/
def wholeB (v : D) (lo hi : Int) : Bool := match v with
  | .int i => decide (lo ≤ i) && decide (i ≤ hi)
  | _ => false
def tupB (v : D) (lo hi : Int) : Bool := match v with
  | .tup xs => decide (lo ≤ xs.length) && decide ((xs.length : Int) ≤ hi)
  | _ => false
section
variable {N : Nat} (Φ : Nat → FSpec)
theorem sp_whole {v : D} (lo hi : Int) (hv : dTy v ≠ none) : runP Φ G N f_is_whole [v, .int lo, .int hi] = some (.bl (wholeB v lo hi)) := by
  refine run_rt (hh := []) rfl ?_
  show evSs _ G N b_is_whole [some (.d v), some (.d (.int lo)), some (.d (.int hi))] [] = _
  unfold b_is_whole
  cases v with
  | int i =>
    have e1 := b_leI lo i
    have e2 := b_leI i hi
    cases h : decide (lo ≤ i) with
    | true => simp only [envAt, evSs, evS, evE, evEs, evIf, evPart, evC, mkL, valsD, valD, pureL, ixW, ixD, setsE, unsetE, Pat.bind, Sh.bindL, dTy, isD, isNon, List.map_cons, List.map_nil, List.length_cons, List.length_nil, List.getElem?_cons_zero, List.getElem?_cons_succ, List.set_cons_zero, List.set_cons_succ, List.replicate, List.cons_append, List.nil_append, Option.bind_eq_bind, Option.bind_some, Option.map_some, Bool.not_true, Bool.not_false, if_true, if_false, reduceIte, Bool.false_eq_true, reduceCtorEq, Nat.reduceAdd, Nat.reduceSub, Nat.reduceLeDiff, zeroW, cellArg, Option.isSome_some, line_lit, Bool.and_self, Bool.true_and, Bool.and_true, Bool.false_and, Bool.and_false, Bool.or_true, Bool.true_or, Bool.or_false, Bool.false_or, Int.natAbs_natCast, Int.cast_ofNat_Int, Int.reduceLE, Int.reduceLT, Int.reduceEq, decide_true, decide_false, Nat.reduceLT, Nat.reduceEqDiff, List.length_nil, wipeE, eq_self, e1, h, e2, wholeB]
    | false => simp only [envAt, evSs, evS, evE, evEs, evIf, evPart, evC, mkL, valsD, valD, pureL, ixW, ixD, setsE, unsetE, Pat.bind, Sh.bindL, dTy, isD, isNon, List.map_cons, List.map_nil, List.length_cons, List.length_nil, List.getElem?_cons_zero, List.getElem?_cons_succ, List.set_cons_zero, List.set_cons_succ, List.replicate, List.cons_append, List.nil_append, Option.bind_eq_bind, Option.bind_some, Option.map_some, Bool.not_true, Bool.not_false, if_true, if_false, reduceIte, Bool.false_eq_true, reduceCtorEq, Nat.reduceAdd, Nat.reduceSub, Nat.reduceLeDiff, zeroW, cellArg, Option.isSome_some, line_lit, Bool.and_self, Bool.true_and, Bool.and_true, Bool.false_and, Bool.and_false, Bool.or_true, Bool.true_or, Bool.or_false, Bool.false_or, Int.natAbs_natCast, Int.cast_ofNat_Int, Int.reduceLE, Int.reduceLT, Int.reduceEq, decide_true, decide_false, Nat.reduceLT, Nat.reduceEqDiff, List.length_nil, wipeE, eq_self, e1, h, wholeB]
  | dct => exact absurd rfl hv
  | scr => exact absurd rfl hv
  | _ => simp only [envAt, evSs, evS, evE, evEs, evIf, evPart, evC, mkL, valsD, valD, pureL, ixW, ixD, setsE, unsetE, Pat.bind, Sh.bindL, dTy, isD, isNon, List.map_cons, List.map_nil, List.length_cons, List.length_nil, List.getElem?_cons_zero, List.getElem?_cons_succ, List.set_cons_zero, List.set_cons_succ, List.replicate, List.cons_append, List.nil_append, Option.bind_eq_bind, Option.bind_some, Option.map_some, Bool.not_true, Bool.not_false, if_true, if_false, reduceIte, Bool.false_eq_true, reduceCtorEq, Nat.reduceAdd, Nat.reduceSub, Nat.reduceLeDiff, zeroW, cellArg, Option.isSome_some, line_lit, Bool.and_self, Bool.true_and, Bool.and_true, Bool.false_and, Bool.and_false, Bool.or_true, Bool.true_or, Bool.or_false, Bool.false_or, Int.natAbs_natCast, Int.cast_ofNat_Int, Int.reduceLE, Int.reduceLT, Int.reduceEq, decide_true, decide_false, Nat.reduceLT, Nat.reduceEqDiff, List.length_nil, wipeE, eq_self, wholeB]
theorem sp_tup {v : D} (lo hi : Int) (hv : dTy v ≠ none) : runP Φ G N f_is_tuple_of [v, .int lo, .int hi] = some (.bl (tupB v lo hi)) := by
  refine run_rt (hh := []) rfl ?_
  show evSs _ G N b_is_tuple_of [some (.d v), some (.d (.int lo)), some (.d (.int hi))] [] = _
  unfold b_is_tuple_of
  cases v with
  | tup xs =>
    have e1 := b_leI lo xs.length
    have e2 := b_leI xs.length hi
    cases h : decide (lo ≤ (xs.length : Int)) with
    | true => simp only [envAt, evSs, evS, evE, evEs, evIf, evPart, evC, mkL, valsD, valD, pureL, ixW, ixD, setsE, unsetE, Pat.bind, Sh.bindL, dTy, isD, isNon, List.map_cons, List.map_nil, List.length_cons, List.length_nil, List.getElem?_cons_zero, List.getElem?_cons_succ, List.set_cons_zero, List.set_cons_succ, List.replicate, List.cons_append, List.nil_append, Option.bind_eq_bind, Option.bind_some, Option.map_some, Bool.not_true, Bool.not_false, if_true, if_false, reduceIte, Bool.false_eq_true, reduceCtorEq, Nat.reduceAdd, Nat.reduceSub, Nat.reduceLeDiff, zeroW, cellArg, Option.isSome_some, line_lit, Bool.and_self, Bool.true_and, Bool.and_true, Bool.false_and, Bool.and_false, Bool.or_true, Bool.true_or, Bool.or_false, Bool.false_or, Int.natAbs_natCast, Int.cast_ofNat_Int, Int.reduceLE, Int.reduceLT, Int.reduceEq, decide_true, decide_false, Nat.reduceLT, Nat.reduceEqDiff, List.length_nil, wipeE, eq_self, e1, h, e2, tupB, f_lenT]
    | false => simp only [envAt, evSs, evS, evE, evEs, evIf, evPart, evC, mkL, valsD, valD, pureL, ixW, ixD, setsE, unsetE, Pat.bind, Sh.bindL, dTy, isD, isNon, List.map_cons, List.map_nil, List.length_cons, List.length_nil, List.getElem?_cons_zero, List.getElem?_cons_succ, List.set_cons_zero, List.set_cons_succ, List.replicate, List.cons_append, List.nil_append, Option.bind_eq_bind, Option.bind_some, Option.map_some, Bool.not_true, Bool.not_false, if_true, if_false, reduceIte, Bool.false_eq_true, reduceCtorEq, Nat.reduceAdd, Nat.reduceSub, Nat.reduceLeDiff, zeroW, cellArg, Option.isSome_some, line_lit, Bool.and_self, Bool.true_and, Bool.and_true, Bool.false_and, Bool.and_false, Bool.or_true, Bool.true_or, Bool.or_false, Bool.false_or, Int.natAbs_natCast, Int.cast_ofNat_Int, Int.reduceLE, Int.reduceLT, Int.reduceEq, decide_true, decide_false, Nat.reduceLT, Nat.reduceEqDiff, List.length_nil, wipeE, eq_self, e1, h, tupB, f_lenT]
  | dct => exact absurd rfl hv
  | scr => exact absurd rfl hv
  | _ => simp only [envAt, evSs, evS, evE, evEs, evIf, evPart, evC, mkL, valsD, valD, pureL, ixW, ixD, setsE, unsetE, Pat.bind, Sh.bindL, dTy, isD, isNon, List.map_cons, List.map_nil, List.length_cons, List.length_nil, List.getElem?_cons_zero, List.getElem?_cons_succ, List.set_cons_zero, List.set_cons_succ, List.replicate, List.cons_append, List.nil_append, Option.bind_eq_bind, Option.bind_some, Option.map_some, Bool.not_true, Bool.not_false, if_true, if_false, reduceIte, Bool.false_eq_true, reduceCtorEq, Nat.reduceAdd, Nat.reduceSub, Nat.reduceLeDiff, zeroW, cellArg, Option.isSome_some, line_lit, Bool.and_self, Bool.true_and, Bool.and_true, Bool.false_and, Bool.and_false, Bool.or_true, Bool.true_or, Bool.or_false, Bool.false_or, Int.natAbs_natCast, Int.cast_ofNat_Int, Int.reduceLE, Int.reduceLT, Int.reduceEq, decide_true, decide_false, Nat.reduceLT, Nat.reduceEqDiff, List.length_nil, wipeE, eq_self, tupB]
end
section
variable {T : Tb} {N k : Nat} (h5 : Has_is_tuple_of T) (h6 : Has_is_whole T)
include h5 h6
theorem sp_fits_rack {R : Rk} (o : RackOk R) : runP (phi T G N (k + 1)) G N f_fits_rack [encR R] = some (.bl true) := by
  have p5 : phi T G N (k + 1) 5 = .pure (runP (phi T G N k) G N f_is_tuple_of) := phi_p h5 rfl
  have p6 : phi T G N (k + 1) 6 = .pure (runP (phi T G N k) G N f_is_whole) := phi_p h6 rfl
  have hl : R.length ≤ line := by have := o.seven; rw [line_lit]; omega
  refine run_rt (hh := []) rfl ?_
  show evSs _ G N b_fits_rack [some (.d (encR R)), none, none, none, none] [] = _
  have hc0 : evE (phi T G N (k + 1)) G c_fits_rack_0 [some (.d (encR R)), none, none, none, none] [] = some (.d (.lst (R.map fun _ => D.bl true)), []) :=
    comp_map pegD R (fun _ => .bl true) rfl rfl (fun p hp => ⟨_, rfl, by simp only [envAt, evSs, evS, evE, evEs, evIf, evPart, evC, mkL, valsD, valD, pureL, ixW, ixD, setsE, unsetE, Pat.bind, Sh.bindL, dTy, isD, isNon, List.map_cons, List.map_nil, List.length_cons, List.length_nil, List.getElem?_cons_zero, List.getElem?_cons_succ, List.set_cons_zero, List.set_cons_succ, List.replicate, List.cons_append, List.nil_append, Option.bind_eq_bind, Option.bind_some, Option.map_some, Bool.not_true, Bool.not_false, if_true, if_false, reduceIte, Bool.false_eq_true, reduceCtorEq, Nat.reduceAdd, Nat.reduceSub, Nat.reduceLeDiff, zeroW, cellArg, Option.isSome_some, line_lit, Bool.and_self, Bool.true_and, Bool.and_true, Bool.false_and, Bool.and_false, Bool.or_true, Bool.true_or, Bool.or_false, Bool.false_or, Int.natAbs_natCast, Int.cast_ofNat_Int, Int.reduceLE, Int.reduceLT, Int.reduceEq, decide_true, decide_false, Nat.reduceLT, Nat.reduceEqDiff, List.length_nil, wipeE, eq_self, p5, sp_tup _ 2 2 (v := pegD p) (by simp [pegD, dTy])]; rfl⟩) hl
  have hc1 : evE (phi T G N (k + 1)) G c_fits_rack_1 [some (.d (encR R)), some (.d (.int R.length)), none, none, none] [] = some (.d (.lst (R.flatMap fun _ => [D.bl true, D.bl true])), []) :=
    comp2_map pegD R (fun (i : Nat) => D.int i) (fun p => [p.1, p.2]) (fun _ _ => .bl true) rfl rfl (fun p hp => ⟨_, _, rfl, rfl, rfl, fun c hc => ⟨_, rfl, by
      have hlt : c < R.length := by
        have := o.lt p hp
        simp only [List.mem_cons, List.not_mem_nil, or_false] at hc
        rcases hc with rfl | rfl
        · exact this.1
        · exact this.2
      have e : wholeB (.int c) 0 (R.length - 1) = true := by simp only [wholeB, Bool.and_eq_true, decide_eq_true_eq]; omega
      simp only [envAt, evSs, evS, evE, evEs, evIf, evPart, evC, mkL, valsD, valD, pureL, ixW, ixD, setsE, unsetE, Pat.bind, Sh.bindL, dTy, isD, isNon, List.map_cons, List.map_nil, List.length_cons, List.length_nil, List.getElem?_cons_zero, List.getElem?_cons_succ, List.set_cons_zero, List.set_cons_succ, List.replicate, List.cons_append, List.nil_append, Option.bind_eq_bind, Option.bind_some, Option.map_some, Bool.not_true, Bool.not_false, if_true, if_false, reduceIte, Bool.false_eq_true, reduceCtorEq, Nat.reduceAdd, Nat.reduceSub, Nat.reduceLeDiff, zeroW, cellArg, Option.isSome_some, line_lit, Bool.and_self, Bool.true_and, Bool.and_true, Bool.false_and, Bool.and_false, Bool.or_true, Bool.true_or, Bool.or_false, Bool.false_or, Int.natAbs_natCast, Int.cast_ofNat_Int, Int.reduceLE, Int.reduceLT, Int.reduceEq, decide_true, decide_false, Nat.reduceLT, Nat.reduceEqDiff, List.length_nil, wipeE, eq_self, p6, b_subI, sp_whole _ 0 (R.length - 1) (v := .int c) (by simp [dTy]), e]⟩⟩) (by
        have e := two_len (fun _ : Nat × Nat => D.bl true) (fun _ => D.bl true) R
        show (R.flatMap fun _ => [D.bl true, D.bl true]).length ≤ line
        rw [e, line_lit]; have := o.seven; omega)
  have hall1 : bifD .all [.lst (R.flatMap fun _ => [D.bl true, D.bl true])] = some (.bl true) := by
    rw [two_all, f_all]; simp
  have hc3 : evE (phi T G N (k + 1)) G c_fits_rack_3 [some (.d (encR R)), some (.d (.int R.length)), none, none, none] [] = some (.d (.lst [D.bl true, D.bl true]), []) :=
    comp_map (fun (i : Nat) => D.int i) [0, 1] (fun _ => .bl true) rfl rfl (fun i hi => ⟨_, rfl, by
      have hi : i = 0 ∨ i = 1 := by simpa using hi
      have go : ∀ (g : Nat × Nat → Nat) (hg : ∀ p : Nat × Nat, ixD (pegD p) (.int i) = some (.int (g p))) (nd : (R.map g).Nodup),
          evE (phi T G N (k + 1)) G (.bin .eq (.lset c_fits_rack_2) (.var 1)) [some (.d (encR R)), some (.d (.int R.length)), none, none, some (.d (.int i))] [] = some (.d (.bl true), []) := by
        intro g hg nd
        have hc2 : evE (phi T G N (k + 1)) G c_fits_rack_2 [some (.d (encR R)), some (.d (.int R.length)), none, none, some (.d (.int i))] [] = some (.d (.lst (R.map fun p => D.int (g p))), []) :=
          comp_map pegD R (fun p => .int (g p)) rfl rfl (fun p hp => ⟨_, rfl, by simp only [envAt, evSs, evS, evE, evEs, evIf, evPart, evC, mkL, valsD, valD, pureL, ixW, setsE, unsetE, Pat.bind, Sh.bindL, dTy, isD, isNon, List.map_cons, List.map_nil, List.length_cons, List.length_nil, List.getElem?_cons_zero, List.getElem?_cons_succ, List.set_cons_zero, List.set_cons_succ, List.replicate, List.cons_append, List.nil_append, Option.bind_eq_bind, Option.bind_some, Option.map_some, Bool.not_true, Bool.not_false, if_true, if_false, reduceIte, Bool.false_eq_true, reduceCtorEq, Nat.reduceAdd, Nat.reduceSub, Nat.reduceLeDiff, zeroW, cellArg, Option.isSome_some, line_lit, Bool.and_self, Bool.true_and, Bool.and_true, Bool.false_and, Bool.and_false, Bool.or_true, Bool.true_or, Bool.or_false, Bool.false_or, Int.natAbs_natCast, Int.cast_ofNat_Int, Int.reduceLE, Int.reduceLT, Int.reduceEq, decide_true, decide_false, Nat.reduceLT, Nat.reduceEqDiff, List.length_nil, wipeE, eq_self, hg]⟩) hl
        have ndi : (R.map fun p => (g p : Int)).Nodup := by
          have : (R.map fun p => (g p : Int)) = (R.map g).map fun (n : Nat) => (n : Int) := by rw [List.map_map]; rfl
          rw [this]
          exact List.Pairwise.map _ (fun a b h e => h (by omega)) nd
        have e1 : ((intsD (R.map fun p => D.int (g p))).isSome && decide ((R.map fun p => D.int (g p)).length < 4000)) = true := by
          rw [intsD_M (fun p => (g p : Int)), List.length_map]
          simp only [Option.isSome_some, Bool.true_and, decide_eq_true_eq]; have := o.seven; omega
        have e2 : (dedK [] (R.map fun p => D.int (g p))).length = R.length := by rw [dedK_M (fun p => (g p : Int)) R ndi, List.length_map]
        simp only [envAt, evSs, evS, evE, evEs, evIf, evPart, evC, mkL, valsD, valD, pureL, ixW, ixD, setsE, unsetE, Pat.bind, Sh.bindL, dTy, isD, isNon, List.map_cons, List.map_nil, List.length_cons, List.length_nil, List.getElem?_cons_zero, List.getElem?_cons_succ, List.set_cons_zero, List.set_cons_succ, List.replicate, List.cons_append, List.nil_append, Option.bind_eq_bind, Option.bind_some, Option.map_some, Bool.not_true, Bool.not_false, if_true, if_false, reduceIte, Bool.false_eq_true, reduceCtorEq, Nat.reduceAdd, Nat.reduceSub, Nat.reduceLeDiff, zeroW, cellArg, Option.isSome_some, line_lit, Bool.and_self, Bool.true_and, Bool.and_true, Bool.false_and, Bool.and_false, Bool.or_true, Bool.true_or, Bool.or_false, Bool.false_or, Int.natAbs_natCast, Int.cast_ofNat_Int, Int.reduceLE, Int.reduceLT, Int.reduceEq, decide_true, decide_false, Nat.reduceLT, Nat.reduceEqDiff, List.length_nil, wipeE, eq_self, hc2, e1, e2, b_eqI]
      rcases hi with rfl | rfl
      · exact go (·.1) (fun p => rfl) o.lefts
      · exact go (·.2) (fun p => rfl) o.rights⟩) (by decide)
  unfold b_fits_rack
  have t1 : tupB (encR R) 1 7 = true := by simp only [tupB, encR, List.length_map, Bool.and_eq_true, decide_eq_true_eq]; have := o.pos; have := o.seven; omega
  have e1 : (R.all fun _ => true) = true := by simp
  refine g_no (h1 := []) (by simp only [envAt, evSs, evS, evE, evEs, evIf, evPart, evC, mkL, valsD, valD, pureL, ixW, ixD, setsE, unsetE, Pat.bind, Sh.bindL, dTy, isD, isNon, List.map_cons, List.map_nil, List.length_cons, List.length_nil, List.getElem?_cons_zero, List.getElem?_cons_succ, List.set_cons_zero, List.set_cons_succ, List.replicate, List.cons_append, List.nil_append, Option.bind_eq_bind, Option.bind_some, Option.map_some, Bool.not_true, Bool.not_false, if_true, if_false, reduceIte, Bool.false_eq_true, reduceCtorEq, Nat.reduceAdd, Nat.reduceSub, Nat.reduceLeDiff, zeroW, cellArg, Option.isSome_some, line_lit, Bool.and_self, Bool.true_and, Bool.and_true, Bool.false_and, Bool.and_false, Bool.or_true, Bool.true_or, Bool.or_false, Bool.false_or, Int.natAbs_natCast, Int.cast_ofNat_Int, Int.reduceLE, Int.reduceLT, Int.reduceEq, decide_true, decide_false, Nat.reduceLT, Nat.reduceEqDiff, List.length_nil, wipeE, eq_self, p5, G, sp_tup _ 1 7 (v := encR R) (by simp [encR, dTy]), t1, hc0, f_allM (fun _ : Nat × Nat => true), e1]) ?_
  refine g_nm (h1 := []) (w := .d (.int R.length)) (by simp only [envAt, evSs, evS, evE, evEs, evIf, evPart, evC, mkL, valsD, valD, pureL, ixW, ixD, setsE, unsetE, Pat.bind, Sh.bindL, dTy, isD, isNon, List.map_cons, List.map_nil, List.length_cons, List.length_nil, List.getElem?_cons_zero, List.getElem?_cons_succ, List.set_cons_zero, List.set_cons_succ, List.replicate, List.cons_append, List.nil_append, Option.bind_eq_bind, Option.bind_some, Option.map_some, Bool.not_true, Bool.not_false, if_true, if_false, reduceIte, Bool.false_eq_true, reduceCtorEq, Nat.reduceAdd, Nat.reduceSub, Nat.reduceLeDiff, zeroW, cellArg, Option.isSome_some, line_lit, Bool.and_self, Bool.true_and, Bool.and_true, Bool.false_and, Bool.and_false, Bool.or_true, Bool.true_or, Bool.or_false, Bool.false_or, Int.natAbs_natCast, Int.cast_ofNat_Int, Int.reduceLE, Int.reduceLT, Int.reduceEq, decide_true, decide_false, Nat.reduceLT, Nat.reduceEqDiff, List.length_nil, wipeE, eq_self, encR, f_lenT, List.length_map]) ?_
  show evSs _ G N _ [some (.d (encR R)), some (.d (.int R.length)), none, none, none] [] = _
  refine g_no (h1 := []) (by simp only [envAt, evSs, evS, evE, evEs, evIf, evPart, evC, mkL, valsD, valD, pureL, ixW, ixD, setsE, unsetE, Pat.bind, Sh.bindL, dTy, isD, isNon, List.map_cons, List.map_nil, List.length_cons, List.length_nil, List.getElem?_cons_zero, List.getElem?_cons_succ, List.set_cons_zero, List.set_cons_succ, List.replicate, List.cons_append, List.nil_append, Option.bind_eq_bind, Option.bind_some, Option.map_some, Bool.not_true, Bool.not_false, if_true, if_false, reduceIte, Bool.false_eq_true, reduceCtorEq, Nat.reduceAdd, Nat.reduceSub, Nat.reduceLeDiff, zeroW, cellArg, Option.isSome_some, line_lit, Bool.and_self, Bool.true_and, Bool.and_true, Bool.false_and, Bool.and_false, Bool.or_true, Bool.true_or, Bool.or_false, Bool.false_or, Int.natAbs_natCast, Int.cast_ofNat_Int, Int.reduceLE, Int.reduceLT, Int.reduceEq, decide_true, decide_false, Nat.reduceLT, Nat.reduceEqDiff, List.length_nil, wipeE, eq_self, hc1, hall1]) ?_
  exact g_ret (by simp only [envAt, evSs, evS, evE, evEs, evIf, evPart, evC, mkL, valsD, valD, pureL, ixW, ixD, setsE, unsetE, Pat.bind, Sh.bindL, dTy, isD, isNon, List.map_cons, List.map_nil, List.length_cons, List.length_nil, List.getElem?_cons_zero, List.getElem?_cons_succ, List.set_cons_zero, List.set_cons_succ, List.replicate, List.cons_append, List.nil_append, Option.bind_eq_bind, Option.bind_some, Option.map_some, Bool.not_true, Bool.not_false, if_true, if_false, reduceIte, Bool.false_eq_true, reduceCtorEq, Nat.reduceAdd, Nat.reduceSub, Nat.reduceLeDiff, zeroW, cellArg, Option.isSome_some, line_lit, Bool.and_self, Bool.true_and, Bool.and_true, Bool.false_and, Bool.and_false, Bool.or_true, Bool.true_or, Bool.or_false, Bool.false_or, Int.natAbs_natCast, Int.cast_ofNat_Int, Int.reduceLE, Int.reduceLT, Int.reduceEq, decide_true, decide_false, Nat.reduceLT, Nat.reduceEqDiff, List.length_nil, wipeE, eq_self, hc3]; rfl)
theorem sp_need_rack (h7 : Has_fits_rack T) {R : Rk} (o : RackOk R) : runP (phi T G N (k + 2)) G N f_need_rack [encR R] = some .non := by
  have p7 : phi T G N (k + 2) 7 = .pure (runP (phi T G N (k + 1)) G N f_fits_rack) := phi_p h7 rfl
  refine run_nx (hh := []) (env := [some (.d (encR R))]) rfl ?_
  show evSs _ G N b_need_rack [some (.d (encR R))] [] = _
  unfold b_need_rack
  exact g_no (h1 := []) (by simp only [envAt, evSs, evS, evE, evEs, evIf, evPart, evC, mkL, valsD, valD, pureL, ixW, ixD, setsE, unsetE, Pat.bind, Sh.bindL, dTy, isD, isNon, List.map_cons, List.map_nil, List.length_cons, List.length_nil, List.getElem?_cons_zero, List.getElem?_cons_succ, List.set_cons_zero, List.set_cons_succ, List.replicate, List.cons_append, List.nil_append, Option.bind_eq_bind, Option.bind_some, Option.map_some, Bool.not_true, Bool.not_false, if_true, if_false, reduceIte, Bool.false_eq_true, reduceCtorEq, Nat.reduceAdd, Nat.reduceSub, Nat.reduceLeDiff, zeroW, cellArg, Option.isSome_some, line_lit, Bool.and_self, Bool.true_and, Bool.and_true, Bool.false_and, Bool.and_false, Bool.or_true, Bool.true_or, Bool.or_false, Bool.false_or, Int.natAbs_natCast, Int.cast_ofNat_Int, Int.reduceLE, Int.reduceLT, Int.reduceEq, decide_true, decide_false, Nat.reduceLT, Nat.reduceEqDiff, List.length_nil, wipeE, eq_self, p7, sp_fits_rack h5 h6 o]) rfl
end
end Shoe

/-! what the functions of shoes compute: rounds -/
namespace Shoe
open PySem PySem.Spec PyProof.Rows L2 Sh
abbrev row (r : List Nat) : D := .tup (nats r)
section
variable {T : Tb} {N k : Nat}
theorem sp_goes_to (Φ : Nat → FSpec) {R : Rk} (o : RackOk R) : runP Φ G N f_goes_to [encR R] = some (.lst (nats (there R))) := by
  have hl : R.length ≤ line := by have := o.seven; rw [line_lit]; omega
  refine run_rt (hh := []) rfl ?_
  show evSs _ G N b_goes_to [some (.d (encR R)), none, none] [] = _
  have hc0 : evE Φ G c_goes_to_0 [some (.d (encR R)), none, none] [] = some (.d (.lst (nats (R.map (·.1)))), []) := by
    have := comp_map (Φ := Φ) (G := G) (own := [2]) (p := .nm 2) (it := .var 0) (elt := .ix (.var 2) (.lit (.int 0))) (env := [some (.d (encR R)), none, none]) (h := []) (h0 := []) (x := encR R) pegD R (fun p => .int p.1) rfl rfl (fun p hp => ⟨_, rfl, rfl⟩) hl
    have e : nats (R.map (·.1)) = R.map fun p => D.int p.1 := by simp only [nats, List.map_map]; rfl
    rw [e]; exact this
  have hc1 : evE Φ G c_goes_to_1 [some (.d (encR R)), some (.d (.lst (nats (R.map (·.1))))), none] [] = some (.d (.lst (nats (there R))), []) := by
    have := comp_map (Φ := Φ) (G := G) (own := [2]) (p := .nm 2) (it := .var 0) (elt := .idx (.var 1) (.ix (.var 2) (.lit (.int 1)))) (env := [some (.d (encR R)), some (.d (.lst (nats (R.map (·.1))))), none]) (h := []) (h0 := []) (x := encR R) pegD R (fun p => .int ((R.map (·.1)).idxOf p.2 : Nat)) rfl rfl (fun p hp => ⟨_, rfl, by
      have hix : ixD (pegD p) (.int 1) = some (.int p.2) := rfl
      have hf := fnd_nats p.2 (R.map (·.1)) 0 (mem_lefts o (o.lt p hp).2)
      rw [Nat.zero_add] at hf
      simp only [envAt, evSs, evS, evE, evEs, evIf, evPart, evC, mkL, valsD, valD, pureL, ixW, setsE, unsetE, Pat.bind, Sh.bindL, dTy, isD, isNon, List.map_cons, List.map_nil, List.length_cons, List.length_nil, List.getElem?_cons_zero, List.getElem?_cons_succ, List.set_cons_zero, List.set_cons_succ, List.replicate, List.cons_append, List.nil_append, Option.bind_eq_bind, Option.bind_some, Option.map_some, Bool.not_true, Bool.not_false, if_true, if_false, reduceIte, Bool.false_eq_true, reduceCtorEq, Nat.reduceAdd, Nat.reduceSub, Nat.reduceLeDiff, zeroW, cellArg, Option.isSome_some, line_lit, Bool.and_self, Bool.true_and, Bool.and_true, Bool.false_and, Bool.and_false, Bool.or_true, Bool.true_or, Bool.or_false, Bool.false_or, Int.natAbs_natCast, Int.cast_ofNat_Int, Int.reduceLE, Int.reduceLT, Int.reduceEq, decide_true, decide_false, Nat.reduceLT, Nat.reduceEqDiff, List.length_nil, wipeE, eq_self, hix, shp_nats, shp_int, hf]⟩) hl
    have e : nats (there R) = R.map fun p => D.int ((R.map (·.1)).idxOf p.2 : Nat) := by simp only [nats, there, List.map_map]; rfl
    rw [e]; exact this
  unfold b_goes_to
  refine g_nm hc0 ?_
  exact g_ret hc1
/-- the state of the walk -/
def wkE (R : Rk) (b : Nat) (s : Wk) : Sh.Env := [some (.d (encR R)), some (.d (.lst (nats (there R)))), some (.ref 0), some (.ref 1), some (.d (.int b)), some (.d (row s.2.1)), some (.d (.int s.2.2))]
def wkH (found : List (List Nat)) (s : Wk) : DH := [.lst ((found.map row).map W.d), .dct false (nats s.1) (s.1.map fun _ => .bl true)]
def rdE (R : Rk) : Sh.Env := [some (.d (encR R)), some (.d (.lst (nats (there R)))), some (.ref 0), some (.ref 1), none, none, none]
def rdH (s : List Nat × List (List Nat)) : DH := [.lst ((s.2.map row).map W.d), .dct false (nats s.1) (s.1.map fun _ => .bl true)]
theorem nd_len {n : Nat} {l : List Nat} (h : l.Nodup) (s : ∀ x ∈ l, x < n) : l.length ≤ n := by
  have := nd_sub (m := List.range n) h fun x hx => List.mem_range.mpr (s x hx)
  simpa using this
theorem sp_rounds_in (h9 : Has_goes_to T) (hN : 10 ≤ N) {R : Rk} (o : RackOk R) : runP (phi T G N (k + 1)) G N f_rounds_in [encR R] = some (.lst ((roundsF (fn R) R.length).map row)) := by
  have p9 : phi T G N (k + 1) 9 = .pure (runP (phi T G N k) G N f_goes_to) := phi_p h9 rfl
  have h7 := o.seven
  have pm := rack_pm o
  refine run_rt (hh := [.dead, .dct false (nats ((List.range R.length).foldl (rdS (fn R) R.length) ([], [])).1) (((List.range R.length).foldl (rdS (fn R) R.length) ([], [])).1.map fun _ => .bl true)]) rfl ?_
  show evSs _ G N b_rounds_in [some (.d (encR R)), none, none, none, none, none, none] [] = _
  have hit : evE (phi T G N (k + 1)) G (.rng (.cons (.bif .len (.cons (.var 0) .nil)) .nil)) (rdE R) (rdH ([], [])) = some (.d (.lst (nats (List.range R.length))), rdH ([], [])) := by
    refine rng_1 (i := R.length) (n := R.length) ?_ rfl (by omega)
    simp only [envAt, evSs, evS, evE, evEs, evIf, evPart, evC, mkL, valsD, valD, pureL, ixW, ixD, setsE, unsetE, Pat.bind, Sh.bindL, dTy, isD, isNon, List.map_cons, List.map_nil, List.length_cons, List.length_nil, List.getElem?_cons_zero, List.getElem?_cons_succ, List.set_cons_zero, List.set_cons_succ, List.replicate, List.cons_append, List.nil_append, Option.bind_eq_bind, Option.bind_some, Option.map_some, Bool.not_true, Bool.not_false, if_true, if_false, reduceIte, Bool.false_eq_true, reduceCtorEq, Nat.reduceAdd, Nat.reduceSub, Nat.reduceLeDiff, zeroW, cellArg, Option.isSome_some, line_lit, Bool.and_self, Bool.true_and, Bool.and_true, Bool.false_and, Bool.and_false, Bool.or_true, Bool.true_or, Bool.or_false, Bool.false_or, Int.natAbs_natCast, Int.cast_ofNat_Int, Int.reduceLE, Int.reduceLT, Int.reduceEq, decide_true, decide_false, Nat.reduceLT, Nat.reduceEqDiff, List.length_nil, wipeE, eq_self, rdE, encR, f_lenT, List.length_map]
  have hf := for_fold (Φ := phi T G N (k + 1)) (G := G) (N := N) (p := .nm 4) (it := .rng (.cons (.bif .len (.cons (.var 0) .nil)) .nil)) (body := b_rounds_in_l1) (env := rdE R) (h := rdH ([], [])) (fun (i : Nat) => D.int i) (fun _ => rdE R) rdH (rdS (fn R) R.length) (fun r s => RdOk R.length (fn R) s ∧ ∀ b ∈ r, b < R.length) (List.range R.length) ([], []) hit rfl rfl
    ⟨⟨rfl, List.nodup_nil, fun x h => by simp at h, fun r h => by simp at h⟩, fun b hb => List.mem_range.mp hb⟩
    (fun s b r ⟨ok, hb⟩ => by
      have hbn := hb b List.mem_cons_self
      refine ⟨_, rfl, ?_, (rd_step pm ok hbn).1, fun x hx => hb x (List.mem_cons_of_mem _ hx)⟩
      show evSs _ G N b_rounds_in_l1 [some (.d (encR R)), some (.d (.lst (nats (there R)))), some (.ref 0), some (.ref 1), some (.d (.int b)), none, none] (rdH s) = _
      have hw := while_st (Φ := phi T G N (k + 1)) (G := G) (N := N) (c := .bin .nmem (.var 6) (.var 3)) (body := b_rounds_in_l0) (wkE R b) (wkH s.2) wkQ (wkS (fn R)) (WkOk' R.length (fn R) s.1 b) (fun w => R.length - w.1.length)
        (fun w ow => by
          have e := b_nmemD (c := false) (ks := nats w.1) (vs := w.1.map fun _ => D.bl true) (x := .int w.2.2) rfl
          rw [memK_nats] at e
          simp only [envAt, evSs, evS, evE, evEs, evIf, evPart, evC, mkL, valsD, valD, pureL, ixW, ixD, setsE, unsetE, Pat.bind, Sh.bindL, dTy, isD, isNon, List.map_cons, List.map_nil, List.length_cons, List.length_nil, List.getElem?_cons_zero, List.getElem?_cons_succ, List.set_cons_zero, List.set_cons_succ, List.replicate, List.cons_append, List.nil_append, Option.bind_eq_bind, Option.bind_some, Option.map_some, Bool.not_true, Bool.not_false, if_true, if_false, reduceIte, Bool.false_eq_true, reduceCtorEq, Nat.reduceAdd, Nat.reduceSub, Nat.reduceLeDiff, zeroW, cellArg, Option.isSome_some, line_lit, Bool.and_self, Bool.true_and, Bool.and_true, Bool.false_and, Bool.and_false, Bool.or_true, Bool.true_or, Bool.or_false, Bool.false_or, Int.natAbs_natCast, Int.cast_ofNat_Int, Int.reduceLE, Int.reduceLT, Int.reduceEq, decide_true, decide_false, Nat.reduceLT, Nat.reduceEqDiff, List.length_nil, wipeE, eq_self, wkE, wkH, e]; rfl)
        (fun w ow hq => by
          have st := wk_step pm ow hq
          refine ⟨?_, st⟩
          have hq' : w.1.contains w.2.2 = false := by simpa [wkQ] using hq
          have hput := putD_new (ks := nats w.1) (vs := w.1.map fun _ => D.bl true) (x := .int w.2.2) (y := .bl true) (by rw [memK_nats]; exact hq')
          have hlw : w.1.length ≤ R.length := nd_len ow.nd ow.lt
          have hrl : w.2.1.length ≤ R.length := by have := ow.known; have e : w.1.length = s.1.length + w.2.1.length := by rw [this, List.length_append]
                                                   omega
          have hst : (nats w.1).length < 16777216 := by rw [List.length_map]; omega
          have hadd : binD .add (row w.2.1) (.tup [.int w.2.2]) = some (row (w.2.1 ++ [w.2.2])) := by
            rw [b_addT (by rw [line_lit]; simp only [List.length_map, List.length_cons, List.length_nil]; omega)]
            show some (D.tup (nats w.2.1 ++ [.int w.2.2])) = some (D.tup (nats (w.2.1 ++ [w.2.2])))
            rw [nats, nats, List.map_append]; rfl
          have hix : ixD (.lst (nats (there R))) (.int w.2.2) = some (.int (fn R w.2.2 : Nat)) := ix_nats (l := there R) (i := w.2.2) (by rw [there_len]; exact ow.hlt)
          unfold b_rounds_in_l0
          simp only [envAt, evSs, evS, evE, evEs, evIf, evPart, evC, mkL, valsD, valD, pureL, ixW, setsE, unsetE, Pat.bind, Sh.bindL, dTy, isD, isNon, List.map_cons, List.map_nil, List.length_cons, List.length_nil, List.getElem?_cons_zero, List.getElem?_cons_succ, List.set_cons_zero, List.set_cons_succ, List.replicate, List.cons_append, List.nil_append, Option.bind_eq_bind, Option.bind_some, Option.map_some, Bool.not_true, Bool.not_false, if_true, if_false, reduceIte, Bool.false_eq_true, reduceCtorEq, Nat.reduceAdd, Nat.reduceSub, Nat.reduceLeDiff, zeroW, cellArg, Option.isSome_some, line_lit, Bool.and_self, Bool.true_and, Bool.and_true, Bool.false_and, Bool.and_false, Bool.or_true, Bool.true_or, Bool.or_false, Bool.false_or, Int.natAbs_natCast, Int.cast_ofNat_Int, Int.reduceLE, Int.reduceLT, Int.reduceEq, decide_true, decide_false, Nat.reduceLT, Nat.reduceEqDiff, List.length_nil, wipeE, eq_self, wkE, wkH, storeW, kcB, hst, hput, hadd, hix, wkS, List.map_append])
        (s.1, [], b) (wk_start ok hbn) (by show R.length - s.1.length < N; omega)
      have hk := runW_k (q := wkQ) (step := wkS (fn R)) (fun w : Wk => R.length - w.1.length) (WkOk' R.length (fn R) s.1 b) (fun a h q => wk_step pm h q) N (R.length + 1) _ (wk_start ok hbn) (by show R.length - s.1.length < N; omega) (by show R.length - s.1.length < R.length + 1; omega)
      obtain ⟨hw1, hw2, _⟩ := hw
      rw [hk] at hw1 hw2
      unfold b_rounds_in_l1
      refine g_par (e1 := wkE R b (s.1, [], b)) (h1 := wkH s.2 (s.1, [], b)) (ws := [.d (row []), .d (.int b)]) (by simp only [envAt, evSs, evS, evE, evEs, evIf, evPart, evC, mkL, valsD, valD, pureL, ixW, ixD, setsE, unsetE, Pat.bind, Sh.bindL, dTy, isD, isNon, List.map_cons, List.map_nil, List.length_cons, List.length_nil, List.getElem?_cons_zero, List.getElem?_cons_succ, List.set_cons_zero, List.set_cons_succ, List.replicate, List.cons_append, List.nil_append, Option.bind_eq_bind, Option.bind_some, Option.map_some, Bool.not_true, Bool.not_false, if_true, if_false, reduceIte, Bool.false_eq_true, reduceCtorEq, Nat.reduceAdd, Nat.reduceSub, Nat.reduceLeDiff, zeroW, cellArg, Option.isSome_some, line_lit, Bool.and_self, Bool.true_and, Bool.and_true, Bool.false_and, Bool.and_false, Bool.or_true, Bool.true_or, Bool.or_false, Bool.false_or, Int.natAbs_natCast, Int.cast_ofNat_Int, Int.reduceLE, Int.reduceLT, Int.reduceEq, decide_true, decide_false, Nat.reduceLT, Nat.reduceEqDiff, List.length_nil, wipeE, eq_self, nats]; rfl) rfl ?_
      refine g_s (s := l_rounds_in_0) hw1 ?_
      show _ = some (Out.nx (rdE R) (rdH ((runW wkQ (wkS (fn R)) (R.length + 1) (s.1, [], b)).1, if (runW wkQ (wkS (fn R)) (R.length + 1) (s.1, [], b)).2.1 = [] then s.2 else s.2 ++ [(runW wkQ (wkS (fn R)) (R.length + 1) (s.1, [], b)).2.1])))
      generalize runW wkQ (wkS (fn R)) (R.length + 1) (s.1, [], b) = w at hw2 ⊢
      have hwl : w.1.length ≤ R.length := nd_len hw2.nd hw2.lt
      have hwr : w.2.1.length ≤ R.length := by
        have e : w.1.length = s.1.length + w.2.1.length := by rw [hw2.known, List.length_append]
        omega
      have hfl : s.2.length ≤ 16777215 := by
        have : ∀ (P : List (List Nat)), (∀ r ∈ P, r ≠ []) → P.length ≤ P.flatten.length := by
          intro P
          induction P with
          | nil => intro _; exact Nat.le_refl _
          | cons a P ih =>
            intro h
            have h1 := List.length_pos_iff.mpr (h a List.mem_cons_self)
            have h2 := ih fun r hr => h r (List.mem_cons_of_mem _ hr)
            simp only [List.flatten_cons, List.length_append, List.length_cons]; omega
        have h1 := this s.2 fun r hr => (ok.cyc r hr).elim fun _ h => h.1
        rw [← ok.known] at h1
        have h2 := nd_len ok.nd ok.lt
        omega
      have hne : binD .ne (row w.2.1) (row []) = some (.bl (!decide (w.2.1 = []))) := by
        rw [b_ne (by rw [shp_natsT, shp_natsT]; rfl)]
        show some (D.bl (!eqDL (nats w.2.1) (nats []))) = _
        rw [eqDL_nats]
      have hne' : binD .ne (row w.2.1) (.tup []) = some (.bl (!decide (w.2.1 = []))) := hne
      by_cases hr : w.2.1 = []
      · have hd : decide (w.2.1 = []) = true := decide_eq_true hr
        rw [if_pos hr]
        have hlen : ((s.2.map row).map W.d).length ≤ 16777216 := by rw [List.length_map, List.length_map]; omega
        simp only [envAt, evSs, evS, evE, evEs, evIf, evPart, evC, mkL, valsD, valD, pureL, ixW, ixD, setsE, unsetE, Pat.bind, Sh.bindL, dTy, isD, isNon, List.map_cons, List.map_nil, List.length_cons, List.length_nil, List.getElem?_cons_zero, List.getElem?_cons_succ, List.set_cons_zero, List.set_cons_succ, List.replicate, List.cons_append, List.nil_append, Option.bind_eq_bind, Option.bind_some, Option.map_some, Bool.not_true, Bool.not_false, if_true, if_false, reduceIte, Bool.false_eq_true, reduceCtorEq, Nat.reduceAdd, Nat.reduceSub, Nat.reduceLeDiff, zeroW, cellArg, Option.isSome_some, line_lit, Bool.and_self, Bool.true_and, Bool.and_true, Bool.false_and, Bool.and_false, Bool.or_true, Bool.true_or, Bool.or_false, Bool.false_or, Int.natAbs_natCast, Int.cast_ofNat_Int, Int.reduceLE, Int.reduceLT, Int.reduceEq, decide_true, decide_false, Nat.reduceLT, Nat.reduceEqDiff, List.length_nil, wipeE, eq_self, wkE, wkH, hne', hd, List.append_nil, Nat.add_zero, hlen, rdE, rdH]
      · have hd : decide (w.2.1 = []) = false := decide_eq_false hr
        rw [if_neg hr]
        have hlen : ((s.2.map row).map W.d).length + 1 ≤ 16777216 := by rw [List.length_map, List.length_map]; omega
        simp only [envAt, evSs, evS, evE, evEs, evIf, evPart, evC, mkL, valsD, valD, pureL, ixW, ixD, setsE, unsetE, Pat.bind, Sh.bindL, dTy, isD, isNon, List.map_cons, List.map_nil, List.length_cons, List.length_nil, List.getElem?_cons_zero, List.getElem?_cons_succ, List.set_cons_zero, List.set_cons_succ, List.replicate, List.cons_append, List.nil_append, Option.bind_eq_bind, Option.bind_some, Option.map_some, Bool.not_true, Bool.not_false, if_true, if_false, reduceIte, Bool.false_eq_true, reduceCtorEq, Nat.reduceAdd, Nat.reduceSub, Nat.reduceLeDiff, zeroW, cellArg, Option.isSome_some, line_lit, Bool.and_self, Bool.true_and, Bool.and_true, Bool.false_and, Bool.and_false, Bool.or_true, Bool.true_or, Bool.or_false, Bool.false_or, Int.natAbs_natCast, Int.cast_ofNat_Int, Int.reduceLE, Int.reduceLT, Int.reduceEq, decide_true, decide_false, Nat.reduceLT, Nat.reduceEqDiff, List.length_nil, wipeE, eq_self, wkE, wkH, hne', hd, hlen, rdE, rdH, List.map_append])
  unfold b_rounds_in
  refine g_par (e1 := rdE R) (h1 := rdH ([], [])) (ws := [.d (.lst (nats (there R))), .ref 0, .ref 1]) (by simp only [envAt, evSs, evS, evE, evEs, evIf, evPart, evC, mkL, valsD, valD, pureL, ixW, ixD, setsE, unsetE, Pat.bind, Sh.bindL, dTy, isD, isNon, List.map_cons, List.map_nil, List.length_cons, List.length_nil, List.getElem?_cons_zero, List.getElem?_cons_succ, List.set_cons_zero, List.set_cons_succ, List.replicate, List.cons_append, List.nil_append, Option.bind_eq_bind, Option.bind_some, Option.map_some, Bool.not_true, Bool.not_false, if_true, if_false, reduceIte, Bool.false_eq_true, reduceCtorEq, Nat.reduceAdd, Nat.reduceSub, Nat.reduceLeDiff, zeroW, cellArg, Option.isSome_some, line_lit, Bool.and_self, Bool.true_and, Bool.and_true, Bool.false_and, Bool.and_false, Bool.or_true, Bool.true_or, Bool.or_false, Bool.false_or, Int.natAbs_natCast, Int.cast_ofNat_Int, Int.reduceLE, Int.reduceLT, Int.reduceEq, decide_true, decide_false, Nat.reduceLT, Nat.reduceEqDiff, List.length_nil, wipeE, eq_self, p9, sp_goes_to _ o, evD, mkD, Sh.putAll]; rfl) rfl ?_
  refine g_s (s := l_rounds_in_1) hf.1 ?_
  simp only [envAt, evSs, evS, evE, evEs, evIf, evPart, evC, mkL, valsD, valD, pureL, ixW, ixD, setsE, unsetE, Pat.bind, Sh.bindL, dTy, isD, isNon, List.map_cons, List.map_nil, List.length_cons, List.length_nil, List.getElem?_cons_zero, List.getElem?_cons_succ, List.set_cons_zero, List.set_cons_succ, List.replicate, List.cons_append, List.nil_append, Option.bind_eq_bind, Option.bind_some, Option.map_some, Bool.not_true, Bool.not_false, if_true, if_false, reduceIte, Bool.false_eq_true, reduceCtorEq, Nat.reduceAdd, Nat.reduceSub, Nat.reduceLeDiff, zeroW, cellArg, Option.isSome_some, line_lit, Bool.and_self, Bool.true_and, Bool.and_true, Bool.false_and, Bool.and_false, Bool.or_true, Bool.true_or, Bool.or_false, Bool.false_or, Int.natAbs_natCast, Int.cast_ofNat_Int, Int.reduceLE, Int.reduceLT, Int.reduceEq, decide_true, decide_false, Nat.reduceLT, Nat.reduceEqDiff, List.length_nil, wipeE, eq_self, rdE, rdH, pureL_ds]
  rfl
end
end Shoe

/-! what the functions of shoes compute: papers -/
namespace Shoe
open PySem PySem.Spec PyProof.Rows L2 Sh
theorem f_lenR (R : Rk) : bifD .len [encR R] = some (.int R.length) := by
  show some (D.int ((R.map pegD).length : Nat)) = _
  rw [List.length_map]
def encP (P : List (List Nat)) : D := .tup (P.map row)
/-- the fewest exchanges -/
def few (R : Rk) : Nat := R.length - (roundsF (fn R) R.length).length
abbrev bas (R : Rk) : List (List Nat) := roundsF (fn R) R.length
theorem flat_len {P : List (List Nat)} (h : ∀ r ∈ P, r ≠ []) : P.length ≤ P.flatten.length := by
  induction P with
  | nil => exact Nat.le_refl _
  | cons a P ih =>
    have h1 := List.length_pos_iff.mpr (h a List.mem_cons_self)
    have h2 := ih fun r hr => h r (List.mem_cons_of_mem _ hr)
    simp only [List.flatten_cons, List.length_append, List.length_cons]; omega
theorem Pap.ne {n : Nat} {f : Nat → Nat} {P : List (List Nat)} (p : Pap n f P) : ∀ r ∈ P, r ≠ [] := fun r hr => (p.cyc r hr).elim fun _ h => h.1
theorem Pap.flen {n : Nat} {f : Nat → Nat} {P : List (List Nat)} (p : Pap n f P) : P.flatten.length = n := by rw [p.all.length_eq, List.length_range]
theorem Pap.lt {n : Nat} {f : Nat → Nat} {P : List (List Nat)} (p : Pap n f P) : ∀ r ∈ P, ∀ x ∈ r, x < n := fun r hr x hx => List.mem_range.mp (p.all.mem_iff.mp (List.mem_flatten.mpr ⟨r, hr, hx⟩))
theorem len_mem_flat {P : List (List Nat)} {r : List Nat} (h : r ∈ P) : r.length ≤ P.flatten.length := by
  induction P with
  | nil => simp at h
  | cons a P ih =>
    simp only [List.flatten_cons, List.length_append]
    rcases List.mem_cons.mp h with rfl | h
    · omega
    · have := ih h; omega
theorem Pap.rlen {n : Nat} {f : Nat → Nat} {P : List (List Nat)} (p : Pap n f P) : ∀ r ∈ P, r.length ≤ n := fun r hr => by rw [← p.flen]; exact len_mem_flat hr
theorem Pap.plen {n : Nat} {f : Nat → Nat} {P : List (List Nat)} (p : Pap n f P) : P.length ≤ n := by rw [← p.flen]; exact flat_len p.ne
/-- rows fit to be asked -/
structure Fit (n : Nat) (P : List (List Nat)) : Prop where
  ne : ∀ r ∈ P, r ≠ []
  len : ∀ r ∈ P, r.length ≤ n
  lt : ∀ r ∈ P, ∀ x ∈ r, x < n
  rows : P.length ≤ 14
theorem flat_le {n : Nat} : ∀ {P : List (List Nat)}, (∀ r ∈ P, r.length ≤ n) → P.flatten.length ≤ P.length * n
  | [], _ => by simp
  | a :: P, h => by
    have h1 := h a List.mem_cons_self
    have h2 := flat_le (P := P) fun r hr => h r (List.mem_cons_of_mem _ hr)
    simp only [List.flatten_cons, List.length_append, List.length_cons, Nat.succ_mul]; omega
theorem Fit.flen {n : Nat} {P : List (List Nat)} (h : Fit n P) (hn : n ≤ 7) : P.flatten.length ≤ 98 := by
  have h1 := flat_le h.len
  have h2 : P.length * n ≤ 14 * 7 := Nat.mul_le_mul h.rows hn
  omega
/-- all pegs once -/
def onceB (n : Nat) (l : List Nat) : Bool := decide (sortI (l.map fun (i : Nat) => (i : Int)) = (List.range n).map fun (i : Nat) => (i : Int))
theorem range_srt (n : Nat) : SrtI ((List.range n).map fun (i : Nat) => (i : Int)) := by
  unfold SrtI
  rw [List.pairwise_map]
  exact List.pairwise_lt_range.imp fun h => by omega
theorem once_iff {n : Nat} {l : List Nat} : onceB n l = true ↔ l.Perm (List.range n) := by
  unfold onceB
  rw [decide_eq_true_eq]
  constructor
  · intro h
    have h1 := (sortI_perm (l.map fun (i : Nat) => (i : Int))).symm
    rw [h] at h1
    have h2 := h1.map Int.toNat
    have e : ∀ m : List Nat, (m.map fun (i : Nat) => (i : Int)).map Int.toNat = m := fun m => by
      rw [List.map_map]
      exact (List.map_congr_left fun a _ => Int.toNat_natCast a).trans (List.map_id m)
    rw [e, e] at h2
    exact h2.symm.symm
  · intro h
    refine srt_uniq (sortI_srt _) (range_srt n) ?_
    exact (sortI_perm _).trans (h.map _)
/-- a paper that is taken -/
def paperB (R : Rk) (m : Nat) (P : List (List Nat)) : Bool := onceB R.length P.flatten && P.all (closedB (fn R)) && decide (m + P.length ≤ R.length)
theorem paper_pap {R : Rk} {m : Nat} {P : List (List Nat)} (hn : ∀ r ∈ P, r ≠ []) (h : paperB R m P = true) : Pap R.length (fn R) P := by
  simp only [paperB, Bool.and_eq_true, List.all_eq_true] at h
  exact ⟨fun r hr => (closed_iff (hn r hr)).mp (h.1.2 r hr), once_iff.mp h.1.1⟩
theorem pap_paper {R : Rk} {m : Nat} {P : List (List Nat)} (p : Pap R.length (fn R) P) : paperB R m P = decide (m + P.length ≤ R.length) := by
  have h1 : onceB R.length P.flatten = true := once_iff.mpr p.all
  have h2 : P.all (closedB (fn R)) = true := List.all_eq_true.mpr fun r hr => (closed_iff (p.ne r hr)).mpr (p.cyc r hr)
  simp only [paperB, h1, h2, Bool.true_and]
/-- a taken paper asks no more than the fewest -/
theorem paper_few {R : Rk} (o : RackOk R) {m : Nat} {P : List (List Nat)} (hn : ∀ r ∈ P, r ≠ []) (h : paperB R m P = true) : m ≤ few R := by
  have p := paper_pap hn h
  have e := p.len (rounds_pap (rack_pm o))
  rw [pap_paper p, decide_eq_true_eq] at h
  unfold few
  rw [← e]; omega
theorem zip_nats (f : Nat × Nat → D) (hf : ∀ p, f p = .tup [.int p.1, .int p.2]) : ∀ xs ys : List Nat, zipL (nats xs) (nats ys) = (xs.zip ys).map f
  | [], _ => by cases ‹List Nat› <;> rfl
  | _ :: _, [] => rfl
  | x :: xs, y :: ys => by
    have ih := zip_nats f hf xs ys
    simp only [nats, List.map_cons, zipL, List.zip_cons_cons, hf] at ih ⊢
    rw [ih]
theorem cut_1n {α : Type} (xs : List α) : cutL xs (some 1) none = xs.drop 1 := by
  unfold cutL
  rw [show (some (1 : Int)) = some ((1 : Nat) : Int) from rfl, HT.sIx_nat, HT.sIx_none]
  cases xs with
  | nil => rfl
  | cons a l =>
    have : min 1 (a :: l).length = 1 := by rw [List.length_cons]; omega
    rw [this, List.take_of_length_le (by rw [List.length_drop]; exact Nat.le_refl _)]
theorem cut_n1 {α : Type} (xs : List α) : cutL xs none (some 1) = xs.take 1 := by
  unfold cutL
  rw [show (some (1 : Int)) = some ((1 : Nat) : Int) from rfl, HT.sIx_nat, HT.sIx_none, List.drop_zero, Nat.sub_zero]
  cases xs with
  | nil => rfl
  | cons a l =>
    have : min 1 (a :: l).length = 1 := by rw [List.length_cons]; omega
    rw [this]
theorem cut_lo {α : Type} (xs : List α) {k : Nat} (h : k ≤ xs.length) : cutL xs none (some (k : Int)) = xs.take k := by
  unfold cutL
  rw [HT.sIx_nat, HT.sIx_none, List.drop_zero, Nat.sub_zero, Nat.min_eq_left h]
theorem cut_hi {α : Type} (xs : List α) {k : Nat} (h : k ≤ xs.length) : cutL xs (some (k : Int)) none = xs.drop k := by
  unfold cutL
  rw [HT.sIx_nat, HT.sIx_none, Nat.min_eq_left h, List.take_of_length_le (by rw [List.length_drop]; exact Nat.le_refl _)]
/-- a row and itself moved on -/
def turnR (r : List Nat) : List Nat := r.drop 1 ++ r.take 1
theorem turnR_perm (r : List Nat) : (turnR r).Perm r := by
  unfold turnR
  exact List.perm_append_comm.trans (by rw [List.take_append_drop])
theorem turnR_len (r : List Nat) : (turnR r).length = r.length := (turnR_perm r).length_eq
section
variable {T : Tb} {N k : Nat} (h5 : Has_is_tuple_of T) (h6 : Has_is_whole T) (h7 : Has_fits_rack T) (h8 : Has_need_rack T) (h9 : Has_goes_to T) (h10 : Has_rounds_in T) (hN : 10 ≤ N)
include h5 h6 h7 h8 h9 h10 hN
theorem sp_fewest {R : Rk} (o : RackOk R) : runP (phi T G N (k + 3)) G N f_fewest [encR R] = some (.int (few R : Nat)) := by
  have p8 : phi T G N (k + 3) 8 = .pure (runP (phi T G N (k + 2)) G N f_need_rack) := phi_p h8 rfl
  have p10 : phi T G N (k + 3) 10 = .pure (runP (phi T G N (k + 2)) G N f_rounds_in) := phi_p h10 rfl
  have pl := (rounds_pap (rack_pm o)).plen
  have e : ((R.length : Int) - ((roundsF (fn R) R.length).length : Nat)) = (few R : Nat) := by unfold few; omega
  refine run_rt (hh := []) rfl ?_
  show evSs _ G N b_fewest [some (.d (encR R))] [] = _
  unfold b_fewest
  refine g_expr (h1 := []) (w := .d .non) (by simp only [envAt, evSs, evS, evE, evEs, evIf, evPart, evC, mkL, valsD, valD, pureL, ixW, ixD, setsE, unsetE, Pat.bind, Sh.bindL, dTy, isD, isNon, List.map_cons, List.map_nil, List.length_cons, List.length_nil, List.getElem?_cons_zero, List.getElem?_cons_succ, List.set_cons_zero, List.set_cons_succ, List.replicate, List.cons_append, List.nil_append, Option.bind_eq_bind, Option.bind_some, Option.map_some, Bool.not_true, Bool.not_false, if_true, if_false, reduceIte, Bool.false_eq_true, reduceCtorEq, Nat.reduceAdd, Nat.reduceSub, Nat.reduceLeDiff, zeroW, cellArg, Option.isSome_some, line_lit, Bool.and_self, Bool.true_and, Bool.and_true, Bool.false_and, Bool.and_false, Bool.or_true, Bool.true_or, Bool.or_false, Bool.false_or, Int.natAbs_natCast, Int.cast_ofNat_Int, Int.reduceLE, Int.reduceLT, Int.reduceEq, decide_true, decide_false, Nat.reduceLT, Nat.reduceEqDiff, List.length_nil, wipeE, eq_self, p8, sp_need_rack h5 h6 h7 o]) ?_
  exact g_ret (by simp only [envAt, evSs, evS, evE, evEs, evIf, evPart, evC, mkL, valsD, valD, pureL, ixW, ixD, setsE, unsetE, Pat.bind, Sh.bindL, dTy, isD, isNon, List.map_cons, List.map_nil, List.length_cons, List.length_nil, List.getElem?_cons_zero, List.getElem?_cons_succ, List.set_cons_zero, List.set_cons_succ, List.replicate, List.cons_append, List.nil_append, Option.bind_eq_bind, Option.bind_some, Option.map_some, Bool.not_true, Bool.not_false, if_true, if_false, reduceIte, Bool.false_eq_true, reduceCtorEq, Nat.reduceAdd, Nat.reduceSub, Nat.reduceLeDiff, zeroW, cellArg, Option.isSome_some, line_lit, Bool.and_self, Bool.true_and, Bool.and_true, Bool.false_and, Bool.and_false, Bool.or_true, Bool.true_or, Bool.or_false, Bool.false_or, Int.natAbs_natCast, Int.cast_ofNat_Int, Int.reduceLE, Int.reduceLT, Int.reduceEq, decide_true, decide_false, Nat.reduceLT, Nat.reduceEqDiff, List.length_nil, wipeE, eq_self, p10, sp_rounds_in h9 hN o, f_lenR, f_lenL, List.length_map, b_subI, e])
theorem sp_rounds {R : Rk} (o : RackOk R) : runP (phi T G N (k + 3)) G N f_rounds [encR R] = some (encP (bas R)) := by
  have p8 : phi T G N (k + 3) 8 = .pure (runP (phi T G N (k + 2)) G N f_need_rack) := phi_p h8 rfl
  have p10 : phi T G N (k + 3) 10 = .pure (runP (phi T G N (k + 2)) G N f_rounds_in) := phi_p h10 rfl
  refine run_rt (hh := []) rfl ?_
  show evSs _ G N b_rounds [some (.d (encR R))] [] = _
  unfold b_rounds
  refine g_expr (h1 := []) (w := .d .non) (by simp only [envAt, evSs, evS, evE, evEs, evIf, evPart, evC, mkL, valsD, valD, pureL, ixW, ixD, setsE, unsetE, Pat.bind, Sh.bindL, dTy, isD, isNon, List.map_cons, List.map_nil, List.length_cons, List.length_nil, List.getElem?_cons_zero, List.getElem?_cons_succ, List.set_cons_zero, List.set_cons_succ, List.replicate, List.cons_append, List.nil_append, Option.bind_eq_bind, Option.bind_some, Option.map_some, Bool.not_true, Bool.not_false, if_true, if_false, reduceIte, Bool.false_eq_true, reduceCtorEq, Nat.reduceAdd, Nat.reduceSub, Nat.reduceLeDiff, zeroW, cellArg, Option.isSome_some, line_lit, Bool.and_self, Bool.true_and, Bool.and_true, Bool.false_and, Bool.and_false, Bool.or_true, Bool.true_or, Bool.or_false, Bool.false_or, Int.natAbs_natCast, Int.cast_ofNat_Int, Int.reduceLE, Int.reduceLT, Int.reduceEq, decide_true, decide_false, Nat.reduceLT, Nat.reduceEqDiff, List.length_nil, wipeE, eq_self, p8, sp_need_rack h5 h6 h7 o]) ?_
  exact g_ret (by simp only [envAt, evSs, evS, evE, evEs, evIf, evPart, evC, mkL, valsD, valD, pureL, ixW, ixD, setsE, unsetE, Pat.bind, Sh.bindL, dTy, isD, isNon, List.map_cons, List.map_nil, List.length_cons, List.length_nil, List.getElem?_cons_zero, List.getElem?_cons_succ, List.set_cons_zero, List.set_cons_succ, List.replicate, List.cons_append, List.nil_append, Option.bind_eq_bind, Option.bind_some, Option.map_some, Bool.not_true, Bool.not_false, if_true, if_false, reduceIte, Bool.false_eq_true, reduceCtorEq, Nat.reduceAdd, Nat.reduceSub, Nat.reduceLeDiff, zeroW, cellArg, Option.isSome_some, line_lit, Bool.and_self, Bool.true_and, Bool.and_true, Bool.false_and, Bool.and_false, Bool.or_true, Bool.true_or, Bool.or_false, Bool.false_or, Int.natAbs_natCast, Int.cast_ofNat_Int, Int.reduceLE, Int.reduceLT, Int.reduceEq, decide_true, decide_false, Nat.reduceLT, Nat.reduceEqDiff, List.length_nil, wipeE, eq_self, p10, sp_rounds_in h9 hN o, f_tupL, encP])
theorem sp_round_paper {R : Rk} (o : RackOk R) {m : Nat} (hm : m ≤ 30) : runP (phi T G N (k + 3)) G N f_round_paper [encR R, .int m] = some (if m ≤ few R then encP (bas R) else .non) := by
  have p8 : phi T G N (k + 3) 8 = .pure (runP (phi T G N (k + 2)) G N f_need_rack) := phi_p h8 rfl
  have p10 : phi T G N (k + 3) 10 = .pure (runP (phi T G N (k + 2)) G N f_rounds_in) := phi_p h10 rfl
  have p6 : phi T G N (k + 3) 6 = .pure (runP (phi T G N (k + 2)) G N f_is_whole) := phi_p h6 rfl
  have pl := (rounds_pap (rack_pm o)).plen
  have e : ((R.length : Int) - ((roundsF (fn R) R.length).length : Nat)) = (few R : Nat) := by unfold few; omega
  have w : wholeB (.int m) 0 30 = true := by simp only [wholeB, Bool.and_eq_true, decide_eq_true_eq]; omega
  refine run_rt (hh := []) rfl ?_
  show evSs _ G N b_round_paper [some (.d (encR R)), some (.d (.int m)), none] [] = _
  unfold b_round_paper
  refine g_expr (h1 := []) (w := .d .non) (by simp only [envAt, evSs, evS, evE, evEs, evIf, evPart, evC, mkL, valsD, valD, pureL, ixW, ixD, setsE, unsetE, Pat.bind, Sh.bindL, dTy, isD, isNon, List.map_cons, List.map_nil, List.length_cons, List.length_nil, List.getElem?_cons_zero, List.getElem?_cons_succ, List.set_cons_zero, List.set_cons_succ, List.replicate, List.cons_append, List.nil_append, Option.bind_eq_bind, Option.bind_some, Option.map_some, Bool.not_true, Bool.not_false, if_true, if_false, reduceIte, Bool.false_eq_true, reduceCtorEq, Nat.reduceAdd, Nat.reduceSub, Nat.reduceLeDiff, zeroW, cellArg, Option.isSome_some, line_lit, Bool.and_self, Bool.true_and, Bool.and_true, Bool.false_and, Bool.and_false, Bool.or_true, Bool.true_or, Bool.or_false, Bool.false_or, Int.natAbs_natCast, Int.cast_ofNat_Int, Int.reduceLE, Int.reduceLT, Int.reduceEq, decide_true, decide_false, Nat.reduceLT, Nat.reduceEqDiff, List.length_nil, wipeE, eq_self, p8, sp_need_rack h5 h6 h7 o]) ?_
  refine g_no (h1 := []) (by simp only [envAt, evSs, evS, evE, evEs, evIf, evPart, evC, mkL, valsD, valD, pureL, ixW, ixD, setsE, unsetE, Pat.bind, Sh.bindL, dTy, isD, isNon, List.map_cons, List.map_nil, List.length_cons, List.length_nil, List.getElem?_cons_zero, List.getElem?_cons_succ, List.set_cons_zero, List.set_cons_succ, List.replicate, List.cons_append, List.nil_append, Option.bind_eq_bind, Option.bind_some, Option.map_some, Bool.not_true, Bool.not_false, if_true, if_false, reduceIte, Bool.false_eq_true, reduceCtorEq, Nat.reduceAdd, Nat.reduceSub, Nat.reduceLeDiff, zeroW, cellArg, Option.isSome_some, line_lit, Bool.and_self, Bool.true_and, Bool.and_true, Bool.false_and, Bool.and_false, Bool.or_true, Bool.true_or, Bool.or_false, Bool.false_or, Int.natAbs_natCast, Int.cast_ofNat_Int, Int.reduceLE, Int.reduceLT, Int.reduceEq, decide_true, decide_false, Nat.reduceLT, Nat.reduceEqDiff, List.length_nil, wipeE, eq_self, p6, G, sp_whole _ 0 30 (v := .int m) (by simp [dTy]), w]) ?_
  refine g_nm (h1 := []) (w := .d (.lst ((bas R).map row))) (by simp only [envAt, evSs, evS, evE, evEs, evIf, evPart, evC, mkL, valsD, valD, pureL, ixW, ixD, setsE, unsetE, Pat.bind, Sh.bindL, dTy, isD, isNon, List.map_cons, List.map_nil, List.length_cons, List.length_nil, List.getElem?_cons_zero, List.getElem?_cons_succ, List.set_cons_zero, List.set_cons_succ, List.replicate, List.cons_append, List.nil_append, Option.bind_eq_bind, Option.bind_some, Option.map_some, Bool.not_true, Bool.not_false, if_true, if_false, reduceIte, Bool.false_eq_true, reduceCtorEq, Nat.reduceAdd, Nat.reduceSub, Nat.reduceLeDiff, zeroW, cellArg, Option.isSome_some, line_lit, Bool.and_self, Bool.true_and, Bool.and_true, Bool.false_and, Bool.and_false, Bool.or_true, Bool.true_or, Bool.or_false, Bool.false_or, Int.natAbs_natCast, Int.cast_ofNat_Int, Int.reduceLE, Int.reduceLT, Int.reduceEq, decide_true, decide_false, Nat.reduceLT, Nat.reduceEqDiff, List.length_nil, wipeE, eq_self, p10, sp_rounds_in h9 hN o]) ?_
  refine g_ret ?_
  by_cases c : m ≤ few R
  · have d : decide (((few R : Nat) : Int) ≥ m) = true := decide_eq_true (by omega)
    rw [if_pos c]
    simp only [envAt, evSs, evS, evE, evEs, evIf, evPart, evC, mkL, valsD, valD, pureL, ixW, ixD, setsE, unsetE, Pat.bind, Sh.bindL, dTy, isD, isNon, List.map_cons, List.map_nil, List.length_cons, List.length_nil, List.getElem?_cons_zero, List.getElem?_cons_succ, List.set_cons_zero, List.set_cons_succ, List.replicate, List.cons_append, List.nil_append, Option.bind_eq_bind, Option.bind_some, Option.map_some, Bool.not_true, Bool.not_false, if_true, if_false, reduceIte, Bool.false_eq_true, reduceCtorEq, Nat.reduceAdd, Nat.reduceSub, Nat.reduceLeDiff, zeroW, cellArg, Option.isSome_some, line_lit, Bool.and_self, Bool.true_and, Bool.and_true, Bool.false_and, Bool.and_false, Bool.or_true, Bool.true_or, Bool.or_false, Bool.false_or, Int.natAbs_natCast, Int.cast_ofNat_Int, Int.reduceLE, Int.reduceLT, Int.reduceEq, decide_true, decide_false, Nat.reduceLT, Nat.reduceEqDiff, List.length_nil, wipeE, eq_self, f_lenR, f_lenL, List.length_map, b_subI, e, b_geI, d, f_tupL, encP]
  · have d : decide (((few R : Nat) : Int) ≥ m) = false := decide_eq_false (by omega)
    rw [if_neg c]
    simp only [envAt, evSs, evS, evE, evEs, evIf, evPart, evC, mkL, valsD, valD, pureL, ixW, ixD, setsE, unsetE, Pat.bind, Sh.bindL, dTy, isD, isNon, List.map_cons, List.map_nil, List.length_cons, List.length_nil, List.getElem?_cons_zero, List.getElem?_cons_succ, List.set_cons_zero, List.set_cons_succ, List.replicate, List.cons_append, List.nil_append, Option.bind_eq_bind, Option.bind_some, Option.map_some, Bool.not_true, Bool.not_false, if_true, if_false, reduceIte, Bool.false_eq_true, reduceCtorEq, Nat.reduceAdd, Nat.reduceSub, Nat.reduceLeDiff, zeroW, cellArg, Option.isSome_some, line_lit, Bool.and_self, Bool.true_and, Bool.and_true, Bool.false_and, Bool.and_false, Bool.or_true, Bool.true_or, Bool.or_false, Bool.false_or, Int.natAbs_natCast, Int.cast_ofNat_Int, Int.reduceLE, Int.reduceLT, Int.reduceEq, decide_true, decide_false, Nat.reduceLT, Nat.reduceEqDiff, List.length_nil, wipeE, eq_self, f_lenR, f_lenL, List.length_map, b_subI, e, b_geI, d]
/-- what is no tuple is no paper -/
theorem sp_irp_not {R : Rk} (o : RackOk R) {m : Nat} (hm : m ≤ 30) {v : D} (h1 : dTy v ≠ none) (h2 : isD v .tuple = false) : runP (phi T G N (k + 3)) G N f_is_round_paper [encR R, .int m, v] = some (.bl false) := by
  have p8 : phi T G N (k + 3) 8 = .pure (runP (phi T G N (k + 2)) G N f_need_rack) := phi_p h8 rfl
  have p6 : phi T G N (k + 3) 6 = .pure (runP (phi T G N (k + 2)) G N f_is_whole) := phi_p h6 rfl
  have w : wholeB (.int m) 0 30 = true := by simp only [wholeB, Bool.and_eq_true, decide_eq_true_eq]; omega
  refine run_rt (hh := []) rfl ?_
  show evSs _ G N b_is_round_paper [some (.d (encR R)), some (.d (.int m)), some (.d v), none, none, none, none, none, none, none] [] = _
  unfold b_is_round_paper
  refine g_expr (h1 := []) (w := .d .non) (by simp only [envAt, evSs, evS, evE, evEs, evIf, evPart, evC, mkL, valsD, valD, pureL, ixW, ixD, setsE, unsetE, Pat.bind, Sh.bindL, dTy, isD, isNon, List.map_cons, List.map_nil, List.length_cons, List.length_nil, List.getElem?_cons_zero, List.getElem?_cons_succ, List.set_cons_zero, List.set_cons_succ, List.replicate, List.cons_append, List.nil_append, Option.bind_eq_bind, Option.bind_some, Option.map_some, Bool.not_true, Bool.not_false, if_true, if_false, reduceIte, Bool.false_eq_true, reduceCtorEq, Nat.reduceAdd, Nat.reduceSub, Nat.reduceLeDiff, zeroW, cellArg, Option.isSome_some, line_lit, Bool.and_self, Bool.true_and, Bool.and_true, Bool.false_and, Bool.and_false, Bool.or_true, Bool.true_or, Bool.or_false, Bool.false_or, Int.natAbs_natCast, Int.cast_ofNat_Int, Int.reduceLE, Int.reduceLT, Int.reduceEq, decide_true, decide_false, Nat.reduceLT, Nat.reduceEqDiff, List.length_nil, wipeE, eq_self, p8, sp_need_rack h5 h6 h7 o]) ?_
  refine g_no (h1 := []) (by simp only [envAt, evSs, evS, evE, evEs, evIf, evPart, evC, mkL, valsD, valD, pureL, ixW, ixD, setsE, unsetE, Pat.bind, Sh.bindL, dTy, isD, isNon, List.map_cons, List.map_nil, List.length_cons, List.length_nil, List.getElem?_cons_zero, List.getElem?_cons_succ, List.set_cons_zero, List.set_cons_succ, List.replicate, List.cons_append, List.nil_append, Option.bind_eq_bind, Option.bind_some, Option.map_some, Bool.not_true, Bool.not_false, if_true, if_false, reduceIte, Bool.false_eq_true, reduceCtorEq, Nat.reduceAdd, Nat.reduceSub, Nat.reduceLeDiff, zeroW, cellArg, Option.isSome_some, line_lit, Bool.and_self, Bool.true_and, Bool.and_true, Bool.false_and, Bool.and_false, Bool.or_true, Bool.true_or, Bool.or_false, Bool.false_or, Int.natAbs_natCast, Int.cast_ofNat_Int, Int.reduceLE, Int.reduceLT, Int.reduceEq, decide_true, decide_false, Nat.reduceLT, Nat.reduceEqDiff, List.length_nil, wipeE, eq_self, p6, G, sp_whole _ 0 30 (v := .int m) (by simp [dTy]), w]) ?_
  refine g_yes (h1 := []) (h2 := []) ?_ (g_ret (by simp only [envAt, evSs, evS, evE, evEs, evIf, evPart, evC, mkL, valsD, valD, pureL, ixW, ixD, setsE, unsetE, Pat.bind, Sh.bindL, dTy, isD, isNon, List.map_cons, List.map_nil, List.length_cons, List.length_nil, List.getElem?_cons_zero, List.getElem?_cons_succ, List.set_cons_zero, List.set_cons_succ, List.replicate, List.cons_append, List.nil_append, Option.bind_eq_bind, Option.bind_some, Option.map_some, Bool.not_true, Bool.not_false, if_true, if_false, reduceIte, Bool.false_eq_true, reduceCtorEq, Nat.reduceAdd, Nat.reduceSub, Nat.reduceLeDiff, zeroW, cellArg, Option.isSome_some, line_lit, Bool.and_self, Bool.true_and, Bool.and_true, Bool.false_and, Bool.and_false, Bool.or_true, Bool.true_or, Bool.or_false, Bool.false_or, Int.natAbs_natCast, Int.cast_ofNat_Int, Int.reduceLE, Int.reduceLT, Int.reduceEq, decide_true, decide_false, Nat.reduceLT, Nat.reduceEqDiff, List.length_nil, wipeE, eq_self]))
  cases v with
  | dct => exact absurd rfl h1
  | scr => exact absurd rfl h1
  | tup _ => cases h2
  | _ => simp only [envAt, evSs, evS, evE, evEs, evIf, evPart, evC, mkL, valsD, valD, pureL, ixW, ixD, setsE, unsetE, Pat.bind, Sh.bindL, dTy, isD, isNon, List.map_cons, List.map_nil, List.length_cons, List.length_nil, List.getElem?_cons_zero, List.getElem?_cons_succ, List.set_cons_zero, List.set_cons_succ, List.replicate, List.cons_append, List.nil_append, Option.bind_eq_bind, Option.bind_some, Option.map_some, Bool.not_true, Bool.not_false, if_true, if_false, reduceIte, Bool.false_eq_true, reduceCtorEq, Nat.reduceAdd, Nat.reduceSub, Nat.reduceLeDiff, zeroW, cellArg, Option.isSome_some, line_lit, Bool.and_self, Bool.true_and, Bool.and_true, Bool.false_and, Bool.and_false, Bool.or_true, Bool.true_or, Bool.or_false, Bool.false_or, Int.natAbs_natCast, Int.cast_ofNat_Int, Int.reduceLE, Int.reduceLT, Int.reduceEq, decide_true, decide_false, Nat.reduceLT, Nat.reduceEqDiff, List.length_nil, wipeE, eq_self]
/-- rows of the wrong kind -/
theorem sp_irp_rows {R : Rk} (o : RackOk R) {m : Nat} (hm : m ≤ 30) {xs : List D} (h1 : ∀ x ∈ xs, dTy x ≠ none) (h2 : (xs.all fun x => tupB x 1 R.length) = false) (hl : xs.length ≤ line) : runP (phi T G N (k + 3)) G N f_is_round_paper [encR R, .int m, .tup xs] = some (.bl false) := by
  have p8 : phi T G N (k + 3) 8 = .pure (runP (phi T G N (k + 2)) G N f_need_rack) := phi_p h8 rfl
  have p6 : phi T G N (k + 3) 6 = .pure (runP (phi T G N (k + 2)) G N f_is_whole) := phi_p h6 rfl
  have p5 : phi T G N (k + 3) 5 = .pure (runP (phi T G N (k + 2)) G N f_is_tuple_of) := phi_p h5 rfl
  have w : wholeB (.int m) 0 30 = true := by simp only [wholeB, Bool.and_eq_true, decide_eq_true_eq]; omega
  refine run_rt (hh := []) rfl ?_
  show evSs _ G N b_is_round_paper [some (.d (encR R)), some (.d (.int m)), some (.d (.tup xs)), none, none, none, none, none, none, none] [] = _
  have hc0 : evE (phi T G N (k + 3)) G c_is_round_paper_0 [some (.d (encR R)), some (.d (.int m)), some (.d (.tup xs)), none, none, none, none, none, none, none] [] = some (.d (.lst (xs.map fun x => D.bl (tupB x 1 R.length))), []) :=
    comp_map id xs (fun x => .bl (tupB x 1 R.length)) rfl (by rw [List.map_id]; rfl) (fun x hx => ⟨_, rfl, by simp only [envAt, evSs, evS, evE, evEs, evIf, evPart, evC, mkL, valsD, valD, pureL, ixW, ixD, setsE, unsetE, Pat.bind, Sh.bindL, dTy, isD, isNon, List.map_cons, List.map_nil, List.length_cons, List.length_nil, List.getElem?_cons_zero, List.getElem?_cons_succ, List.set_cons_zero, List.set_cons_succ, List.replicate, List.cons_append, List.nil_append, Option.bind_eq_bind, Option.bind_some, Option.map_some, Bool.not_true, Bool.not_false, if_true, if_false, reduceIte, Bool.false_eq_true, reduceCtorEq, Nat.reduceAdd, Nat.reduceSub, Nat.reduceLeDiff, zeroW, cellArg, Option.isSome_some, line_lit, Bool.and_self, Bool.true_and, Bool.and_true, Bool.false_and, Bool.and_false, Bool.or_true, Bool.true_or, Bool.or_false, Bool.false_or, Int.natAbs_natCast, Int.cast_ofNat_Int, Int.reduceLE, Int.reduceLT, Int.reduceEq, decide_true, decide_false, Nat.reduceLT, Nat.reduceEqDiff, List.length_nil, wipeE, eq_self, p5, f_lenR, List.length_map, id_eq, sp_tup _ 1 R.length (h1 x hx)]⟩) hl
  unfold b_is_round_paper
  refine g_expr (h1 := []) (w := .d .non) (by simp only [envAt, evSs, evS, evE, evEs, evIf, evPart, evC, mkL, valsD, valD, pureL, ixW, ixD, setsE, unsetE, Pat.bind, Sh.bindL, dTy, isD, isNon, List.map_cons, List.map_nil, List.length_cons, List.length_nil, List.getElem?_cons_zero, List.getElem?_cons_succ, List.set_cons_zero, List.set_cons_succ, List.replicate, List.cons_append, List.nil_append, Option.bind_eq_bind, Option.bind_some, Option.map_some, Bool.not_true, Bool.not_false, if_true, if_false, reduceIte, Bool.false_eq_true, reduceCtorEq, Nat.reduceAdd, Nat.reduceSub, Nat.reduceLeDiff, zeroW, cellArg, Option.isSome_some, line_lit, Bool.and_self, Bool.true_and, Bool.and_true, Bool.false_and, Bool.and_false, Bool.or_true, Bool.true_or, Bool.or_false, Bool.false_or, Int.natAbs_natCast, Int.cast_ofNat_Int, Int.reduceLE, Int.reduceLT, Int.reduceEq, decide_true, decide_false, Nat.reduceLT, Nat.reduceEqDiff, List.length_nil, wipeE, eq_self, p8, sp_need_rack h5 h6 h7 o]) ?_
  refine g_no (h1 := []) (by simp only [envAt, evSs, evS, evE, evEs, evIf, evPart, evC, mkL, valsD, valD, pureL, ixW, ixD, setsE, unsetE, Pat.bind, Sh.bindL, dTy, isD, isNon, List.map_cons, List.map_nil, List.length_cons, List.length_nil, List.getElem?_cons_zero, List.getElem?_cons_succ, List.set_cons_zero, List.set_cons_succ, List.replicate, List.cons_append, List.nil_append, Option.bind_eq_bind, Option.bind_some, Option.map_some, Bool.not_true, Bool.not_false, if_true, if_false, reduceIte, Bool.false_eq_true, reduceCtorEq, Nat.reduceAdd, Nat.reduceSub, Nat.reduceLeDiff, zeroW, cellArg, Option.isSome_some, line_lit, Bool.and_self, Bool.true_and, Bool.and_true, Bool.false_and, Bool.and_false, Bool.or_true, Bool.true_or, Bool.or_false, Bool.false_or, Int.natAbs_natCast, Int.cast_ofNat_Int, Int.reduceLE, Int.reduceLT, Int.reduceEq, decide_true, decide_false, Nat.reduceLT, Nat.reduceEqDiff, List.length_nil, wipeE, eq_self, p6, G, sp_whole _ 0 30 (v := .int m) (by simp [dTy]), w]) ?_
  exact g_yes (h1 := []) (h2 := []) (by simp only [envAt, evSs, evS, evE, evEs, evIf, evPart, evC, mkL, valsD, valD, pureL, ixW, ixD, setsE, unsetE, Pat.bind, Sh.bindL, dTy, isD, isNon, List.map_cons, List.map_nil, List.length_cons, List.length_nil, List.getElem?_cons_zero, List.getElem?_cons_succ, List.set_cons_zero, List.set_cons_succ, List.replicate, List.cons_append, List.nil_append, Option.bind_eq_bind, Option.bind_some, Option.map_some, Bool.not_true, Bool.not_false, if_true, if_false, reduceIte, Bool.false_eq_true, reduceCtorEq, Nat.reduceAdd, Nat.reduceSub, Nat.reduceLeDiff, zeroW, cellArg, Option.isSome_some, line_lit, Bool.and_self, Bool.true_and, Bool.and_true, Bool.false_and, Bool.and_false, Bool.or_true, Bool.true_or, Bool.or_false, Bool.false_or, Int.natAbs_natCast, Int.cast_ofNat_Int, Int.reduceLE, Int.reduceLT, Int.reduceEq, decide_true, decide_false, Nat.reduceLT, Nat.reduceEqDiff, List.length_nil, wipeE, eq_self, hc0, f_allM, h2]) (g_ret (by simp only [envAt, evSs, evS, evE, evEs, evIf, evPart, evC, mkL, valsD, valD, pureL, ixW, ixD, setsE, unsetE, Pat.bind, Sh.bindL, dTy, isD, isNon, List.map_cons, List.map_nil, List.length_cons, List.length_nil, List.getElem?_cons_zero, List.getElem?_cons_succ, List.set_cons_zero, List.set_cons_succ, List.replicate, List.cons_append, List.nil_append, Option.bind_eq_bind, Option.bind_some, Option.map_some, Bool.not_true, Bool.not_false, if_true, if_false, reduceIte, Bool.false_eq_true, reduceCtorEq, Nat.reduceAdd, Nat.reduceSub, Nat.reduceLeDiff, zeroW, cellArg, Option.isSome_some, line_lit, Bool.and_self, Bool.true_and, Bool.and_true, Bool.false_and, Bool.and_false, Bool.or_true, Bool.true_or, Bool.or_false, Bool.false_or, Int.natAbs_natCast, Int.cast_ofNat_Int, Int.reduceLE, Int.reduceLT, Int.reduceEq, decide_true, decide_false, Nat.reduceLT, Nat.reduceEqDiff, List.length_nil, wipeE, eq_self]))
end
end Shoe

/-! is_round_paper -/
namespace Shoe
open PySem PySem.Spec PyProof.Rows L2 Sh
theorem flat_id {α : Type} : ∀ rows : List (List α), (rows.flatMap fun r => r.map fun c => c) = rows.flatten
  | [] => rfl
  | r :: rows => by rw [List.flatMap_cons, flat_id rows, List.map_id']; rfl
theorem flat_nats : ∀ P : List (List Nat), (P.map nats).flatten = nats P.flatten
  | [] => rfl
  | r :: P => by simp only [List.map_cons, List.flatten_cons, flat_nats P, nats, List.map_append]
theorem flatM_bl {α β : Type} (g : α → List β) (q : β → Bool) : ∀ l : List α, (l.flatMap fun a => (g a).map fun b => D.bl (q b)) = (l.flatMap g).map fun b => D.bl (q b)
  | [] => rfl
  | a :: l => by rw [List.flatMap_cons, List.flatMap_cons, flatM_bl g q l, List.map_append]
theorem flatM_all {α β : Type} (g : α → List β) (q : β → Bool) : ∀ l : List α, (l.flatMap g).all q = l.all fun a => (g a).all q
  | [] => rfl
  | a :: l => by rw [List.flatMap_cons, List.all_append, List.all_cons, flatM_all g q l]
theorem whole_nats {n : Nat} : ∀ l : List Nat, (∀ x ∈ l, x < n) → ((nats l).all fun x => wholeB x 0 (n - 1)) = true := fun l h => by
  rw [List.all_eq_true]
  intro x hx
  obtain ⟨i, hi, rfl⟩ := List.mem_map.mp hx
  have := h i hi
  simp only [wholeB, Bool.and_eq_true, decide_eq_true_eq]; omega
theorem ne_once (n : Nat) (F : List Nat) : binD .ne (.lst ((sortI (F.map fun (i : Nat) => (i : Int))).map D.int)) (.lst (nats (List.range n))) = some (.bl (!onceB n F)) := by
  rw [nats_ints, b_ne (by rw [shp_ints, shp_ints]; rfl), eq_ints]; rfl
theorem eq_once (n : Nat) (F : List Nat) : binD .eq (.lst ((sortI (F.map fun (i : Nat) => (i : Int))).map D.int)) (.lst (nats (List.range n))) = some (.bl (onceB n F)) := by
  rw [nats_ints, b_eq (by rw [shp_ints, shp_ints]; rfl), eq_ints]; rfl
def irpTail : Ss := (.cons (.ite (.or (.not (.bif .all (.cons c_is_round_paper_2 .nil))) (.bin .ne (.bif .sorted (.cons (.var 3) .nil)) (.mkl false (.ofl (.rng (.cons (.bif .len (.cons (.var 0) .nil)) .nil)))))) (.cons (.ret (.lit (.bl false))) .nil) .nil) (.cons (.asg (.pat (.nm 4)) (.call 9 (.cons (.var 0) .nil))) (.cons (.asg (.pat (.nm 5)) c_is_round_paper_3) (.cons (.ret (.and (.bif .all (.cons (.var 5) .nil)) (.bin .ge (.bin .sub (.bif .len (.cons (.var 0) .nil)) (.bif .len (.cons (.var 2) .nil))) (.var 1)))) .nil))))
section
variable {T : Tb} {N k : Nat} (h5 : Has_is_tuple_of T) (h6 : Has_is_whole T) (h7 : Has_fits_rack T) (h8 : Has_need_rack T) (h9 : Has_goes_to T) (hN : 10 ≤ N)
include h5 h6 h7 h8
theorem irp_go {R : Rk} (o : RackOk R) {m : Nat} (hm : m ≤ 30) {rows : List (List D)} (hr : ∀ r ∈ rows, 1 ≤ r.length ∧ r.length ≤ R.length) (hl : rows.length ≤ 14) (hf : rows.flatten.length ≤ 98) (ht : ∀ x ∈ rows.flatten, dTy x ≠ none) {oo : Option Out}
    (g : evSs (phi T G N (k + 3)) G N irpTail [some (.d (encR R)), some (.d (.int m)), some (.d (.tup (rows.map D.tup))), some (.d (.lst rows.flatten)), none, none, none, none, none, none] [] = oo) :
    evSs (phi T G N (k + 3)) G N b_is_round_paper [some (.d (encR R)), some (.d (.int m)), some (.d (.tup (rows.map D.tup))), none, none, none, none, none, none, none] [] = oo := by
  have p8 : phi T G N (k + 3) 8 = .pure (runP (phi T G N (k + 2)) G N f_need_rack) := phi_p h8 rfl
  have p6 : phi T G N (k + 3) 6 = .pure (runP (phi T G N (k + 2)) G N f_is_whole) := phi_p h6 rfl
  have p5 : phi T G N (k + 3) 5 = .pure (runP (phi T G N (k + 2)) G N f_is_tuple_of) := phi_p h5 rfl
  have w : wholeB (.int m) 0 30 = true := by simp only [wholeB, Bool.and_eq_true, decide_eq_true_eq]; omega
  have hc0 : evE (phi T G N (k + 3)) G c_is_round_paper_0 [some (.d (encR R)), some (.d (.int m)), some (.d (.tup (rows.map D.tup))), none, none, none, none, none, none, none] [] = some (.d (.lst (rows.map fun r => D.bl (tupB (.tup r) 1 R.length))), []) :=
    comp_map D.tup rows (fun r => .bl (tupB (.tup r) 1 R.length)) rfl rfl (fun r hr => ⟨_, rfl, by simp only [envAt, evSs, evS, evE, evEs, evIf, evPart, evC, mkL, valsD, valD, pureL, ixW, ixD, setsE, unsetE, Pat.bind, Sh.bindL, dTy, isD, isNon, List.map_cons, List.map_nil, List.length_cons, List.length_nil, List.getElem?_cons_zero, List.getElem?_cons_succ, List.set_cons_zero, List.set_cons_succ, List.replicate, List.cons_append, List.nil_append, Option.bind_eq_bind, Option.bind_some, Option.map_some, Bool.not_true, Bool.not_false, if_true, if_false, reduceIte, Bool.false_eq_true, reduceCtorEq, Nat.reduceAdd, Nat.reduceSub, Nat.reduceLeDiff, zeroW, cellArg, Option.isSome_some, line_lit, Bool.and_self, Bool.true_and, Bool.and_true, Bool.false_and, Bool.and_false, Bool.or_true, Bool.true_or, Bool.or_false, Bool.false_or, Int.natAbs_natCast, Int.cast_ofNat_Int, Int.reduceLE, Int.reduceLT, Int.reduceEq, decide_true, decide_false, Nat.reduceLT, Nat.reduceEqDiff, List.length_nil, wipeE, eq_self, p5, f_lenR, sp_tup _ 1 R.length (v := .tup r) (by simp [dTy])]⟩) (by rw [line_lit]; omega)
  have ha : (rows.all fun r => tupB (.tup r) 1 R.length) = true := by
    rw [List.all_eq_true]
    intro r h
    have := hr r h
    simp only [tupB, Bool.and_eq_true, decide_eq_true_eq]; omega
  have hc1 : evE (phi T G N (k + 3)) G c_is_round_paper_1 [some (.d (encR R)), some (.d (.int m)), some (.d (.tup (rows.map D.tup))), none, none, none, none, none, none, none] [] = some (.d (.lst rows.flatten), []) := by
    have := comp2_map (Φ := phi T G N (k + 3)) (G := G) (own := [6, 7]) (vs1 := [7]) (p := .nm 6) (p1 := .nm 7) (it := .var 2) (it1 := .var 6) (elt := .var 7) (env := [some (.d (encR R)), some (.d (.int m)), some (.d (.tup (rows.map D.tup))), none, none, none, none, none, none, none]) (h := []) (h0 := []) D.tup rows (fun (c : D) => c) (fun r => r) (fun _ c => c) rfl rfl
      (fun r hr => ⟨_, _, rfl, rfl, by rw [List.map_id']; rfl, fun c hc => ⟨_, rfl, rfl⟩⟩) (by rw [flat_id, line_lit]; omega)
    rw [flat_id] at this
    exact this
  unfold b_is_round_paper
  refine g_expr (h1 := []) (w := .d .non) (by simp only [envAt, evSs, evS, evE, evEs, evIf, evPart, evC, mkL, valsD, valD, pureL, ixW, ixD, setsE, unsetE, Pat.bind, Sh.bindL, dTy, isD, isNon, List.map_cons, List.map_nil, List.length_cons, List.length_nil, List.getElem?_cons_zero, List.getElem?_cons_succ, List.set_cons_zero, List.set_cons_succ, List.replicate, List.cons_append, List.nil_append, Option.bind_eq_bind, Option.bind_some, Option.map_some, Bool.not_true, Bool.not_false, if_true, if_false, reduceIte, Bool.false_eq_true, reduceCtorEq, Nat.reduceAdd, Nat.reduceSub, Nat.reduceLeDiff, zeroW, cellArg, Option.isSome_some, line_lit, Bool.and_self, Bool.true_and, Bool.and_true, Bool.false_and, Bool.and_false, Bool.or_true, Bool.true_or, Bool.or_false, Bool.false_or, Int.natAbs_natCast, Int.cast_ofNat_Int, Int.reduceLE, Int.reduceLT, Int.reduceEq, decide_true, decide_false, Nat.reduceLT, Nat.reduceEqDiff, List.length_nil, wipeE, eq_self, p8, sp_need_rack h5 h6 h7 o]) ?_
  refine g_no (h1 := []) (by simp only [envAt, evSs, evS, evE, evEs, evIf, evPart, evC, mkL, valsD, valD, pureL, ixW, ixD, setsE, unsetE, Pat.bind, Sh.bindL, dTy, isD, isNon, List.map_cons, List.map_nil, List.length_cons, List.length_nil, List.getElem?_cons_zero, List.getElem?_cons_succ, List.set_cons_zero, List.set_cons_succ, List.replicate, List.cons_append, List.nil_append, Option.bind_eq_bind, Option.bind_some, Option.map_some, Bool.not_true, Bool.not_false, if_true, if_false, reduceIte, Bool.false_eq_true, reduceCtorEq, Nat.reduceAdd, Nat.reduceSub, Nat.reduceLeDiff, zeroW, cellArg, Option.isSome_some, line_lit, Bool.and_self, Bool.true_and, Bool.and_true, Bool.false_and, Bool.and_false, Bool.or_true, Bool.true_or, Bool.or_false, Bool.false_or, Int.natAbs_natCast, Int.cast_ofNat_Int, Int.reduceLE, Int.reduceLT, Int.reduceEq, decide_true, decide_false, Nat.reduceLT, Nat.reduceEqDiff, List.length_nil, wipeE, eq_self, p6, G, sp_whole _ 0 30 (v := .int m) (by simp [dTy]), w]) ?_
  refine g_no (h1 := []) (by simp only [envAt, evSs, evS, evE, evEs, evIf, evPart, evC, mkL, valsD, valD, pureL, ixW, ixD, setsE, unsetE, Pat.bind, Sh.bindL, dTy, isD, isNon, List.map_cons, List.map_nil, List.length_cons, List.length_nil, List.getElem?_cons_zero, List.getElem?_cons_succ, List.set_cons_zero, List.set_cons_succ, List.replicate, List.cons_append, List.nil_append, Option.bind_eq_bind, Option.bind_some, Option.map_some, Bool.not_true, Bool.not_false, if_true, if_false, reduceIte, Bool.false_eq_true, reduceCtorEq, Nat.reduceAdd, Nat.reduceSub, Nat.reduceLeDiff, zeroW, cellArg, Option.isSome_some, line_lit, Bool.and_self, Bool.true_and, Bool.and_true, Bool.false_and, Bool.and_false, Bool.or_true, Bool.true_or, Bool.or_false, Bool.false_or, Int.natAbs_natCast, Int.cast_ofNat_Int, Int.reduceLE, Int.reduceLT, Int.reduceEq, decide_true, decide_false, Nat.reduceLT, Nat.reduceEqDiff, List.length_nil, wipeE, eq_self, hc0, f_allM, ha]) ?_
  exact g_nm hc1 g
theorem irp_whole {R : Rk} {m : Nat} {v : D} {F : List D} (hf : F.length ≤ 98) (ht : ∀ x ∈ F, dTy x ≠ none) : evE (phi T G N (k + 3)) G c_is_round_paper_2 [some (.d (encR R)), some (.d (.int m)), some (.d v), some (.d (.lst F)), none, none, none, none, none, none] [] = some (.d (.lst (F.map fun x => D.bl (wholeB x 0 (R.length - 1)))), []) := by
  have p6 : phi T G N (k + 3) 6 = .pure (runP (phi T G N (k + 2)) G N f_is_whole) := phi_p h6 rfl
  exact comp_map (fun (c : D) => c) F (fun x => .bl (wholeB x 0 (R.length - 1))) rfl (by rw [List.map_id']; rfl) (fun x hx => ⟨_, rfl, by simp only [envAt, evSs, evS, evE, evEs, evIf, evPart, evC, mkL, valsD, valD, pureL, ixW, ixD, setsE, unsetE, Pat.bind, Sh.bindL, dTy, isD, isNon, List.map_cons, List.map_nil, List.length_cons, List.length_nil, List.getElem?_cons_zero, List.getElem?_cons_succ, List.set_cons_zero, List.set_cons_succ, List.replicate, List.cons_append, List.nil_append, Option.bind_eq_bind, Option.bind_some, Option.map_some, Bool.not_true, Bool.not_false, if_true, if_false, reduceIte, Bool.false_eq_true, reduceCtorEq, Nat.reduceAdd, Nat.reduceSub, Nat.reduceLeDiff, zeroW, cellArg, Option.isSome_some, line_lit, Bool.and_self, Bool.true_and, Bool.and_true, Bool.false_and, Bool.and_false, Bool.or_true, Bool.true_or, Bool.or_false, Bool.false_or, Int.natAbs_natCast, Int.cast_ofNat_Int, Int.reduceLE, Int.reduceLT, Int.reduceEq, decide_true, decide_false, Nat.reduceLT, Nat.reduceEqDiff, List.length_nil, wipeE, eq_self, p6, f_lenR, b_subI, sp_whole _ 0 (R.length - 1) (ht x hx)]⟩) (by rw [line_lit]; omega)
/-- pegs that are none -/
theorem sp_irp_pegs {R : Rk} (o : RackOk R) {m : Nat} (hm : m ≤ 30) {rows : List (List D)} (hr : ∀ r ∈ rows, 1 ≤ r.length ∧ r.length ≤ R.length) (hl : rows.length ≤ 14) (hf : rows.flatten.length ≤ 98) (ht : ∀ x ∈ rows.flatten, dTy x ≠ none) (hw : (rows.flatten.all fun x => wholeB x 0 (R.length - 1)) = false) :
    runP (phi T G N (k + 3)) G N f_is_round_paper [encR R, .int m, .tup (rows.map D.tup)] = some (.bl false) := by
  refine run_rt (hh := []) rfl ?_
  refine irp_go h5 h6 h7 h8 o hm hr hl hf ht ?_
  unfold irpTail
  have h2 := irp_whole (k := k) (N := N) (m := m) (v := .tup (rows.map D.tup)) h5 h6 h7 h8 (R := R) hf ht
  exact g_yes (h1 := []) (h2 := []) (by simp only [envAt, evSs, evS, evE, evEs, evIf, evPart, evC, mkL, valsD, valD, pureL, ixW, ixD, setsE, unsetE, Pat.bind, Sh.bindL, dTy, isD, isNon, List.map_cons, List.map_nil, List.length_cons, List.length_nil, List.getElem?_cons_zero, List.getElem?_cons_succ, List.set_cons_zero, List.set_cons_succ, List.replicate, List.cons_append, List.nil_append, Option.bind_eq_bind, Option.bind_some, Option.map_some, Bool.not_true, Bool.not_false, if_true, if_false, reduceIte, Bool.false_eq_true, reduceCtorEq, Nat.reduceAdd, Nat.reduceSub, Nat.reduceLeDiff, zeroW, cellArg, Option.isSome_some, line_lit, Bool.and_self, Bool.true_and, Bool.and_true, Bool.false_and, Bool.and_false, Bool.or_true, Bool.true_or, Bool.or_false, Bool.false_or, Int.natAbs_natCast, Int.cast_ofNat_Int, Int.reduceLE, Int.reduceLT, Int.reduceEq, decide_true, decide_false, Nat.reduceLT, Nat.reduceEqDiff, List.length_nil, wipeE, eq_self, h2, f_allM, hw]) (g_ret (by simp only [envAt, evSs, evS, evE, evEs, evIf, evPart, evC, mkL, valsD, valD, pureL, ixW, ixD, setsE, unsetE, Pat.bind, Sh.bindL, dTy, isD, isNon, List.map_cons, List.map_nil, List.length_cons, List.length_nil, List.getElem?_cons_zero, List.getElem?_cons_succ, List.set_cons_zero, List.set_cons_succ, List.replicate, List.cons_append, List.nil_append, Option.bind_eq_bind, Option.bind_some, Option.map_some, Bool.not_true, Bool.not_false, if_true, if_false, reduceIte, Bool.false_eq_true, reduceCtorEq, Nat.reduceAdd, Nat.reduceSub, Nat.reduceLeDiff, zeroW, cellArg, Option.isSome_some, line_lit, Bool.and_self, Bool.true_and, Bool.and_true, Bool.false_and, Bool.and_false, Bool.or_true, Bool.true_or, Bool.or_false, Bool.false_or, Int.natAbs_natCast, Int.cast_ofNat_Int, Int.reduceLE, Int.reduceLT, Int.reduceEq, decide_true, decide_false, Nat.reduceLT, Nat.reduceEqDiff, List.length_nil, wipeE, eq_self]))
include h9
theorem sp_irp {R : Rk} (o : RackOk R) {m : Nat} (hm : m ≤ 30) {P : List (List Nat)} (hP : Fit R.length P) :
    runP (phi T G N (k + 3)) G N f_is_round_paper [encR R, .int m, encP P] = some (.bl (paperB R m P)) := by
  have p9 : phi T G N (k + 3) 9 = .pure (runP (phi T G N (k + 2)) G N f_goes_to) := phi_p h9 rfl
  have h7' := o.seven
  have fl := hP.flen h7'
  have eP : encP P = .tup ((P.map nats).map D.tup) := by unfold encP; rw [List.map_map]; rfl
  rw [eP]
  refine run_rt (hh := []) rfl ?_
  refine irp_go h5 h6 h7 h8 o hm (fun r hr => ?_) (by rw [List.length_map]; exact hP.rows) (by rw [flat_nats, List.length_map]; exact fl) (fun x hx => ?_) ?_
  · obtain ⟨r', hr', rfl⟩ := List.mem_map.mp hr
    rw [List.length_map]
    exact ⟨List.length_pos_iff.mpr (hP.ne r' hr'), hP.len r' hr'⟩
  · rw [flat_nats] at hx
    obtain ⟨i, _, rfl⟩ := List.mem_map.mp hx
    simp [dTy]
  rw [flat_nats, ← eP]
  have hlt : ∀ x ∈ P.flatten, x < R.length := fun x hx => by
    obtain ⟨r, hr, hxr⟩ := List.mem_flatten.mp hx
    exact hP.lt r hr x hxr
  have h2 := irp_whole (k := k) (N := N) (m := m) (v := encP P) h5 h6 h7 h8 (R := R) (F := nats P.flatten) (by rw [List.length_map]; exact fl) (fun x hx => by
    obtain ⟨i, _, rfl⟩ := List.mem_map.mp hx
    simp [dTy])
  have hw : ((nats P.flatten).all fun x => wholeB x 0 (R.length - 1)) = true := whole_nats _ hlt
  have hrng : rngD [.int R.length] = some (nats (List.range R.length)) := rng_n (by omega)
  have hs : bifD .sorted [.lst (nats P.flatten)] = some (.lst ((sortI (P.flatten.map fun (i : Nat) => (i : Int))).map D.int)) := by
    rw [nats_ints]
    exact f_sortL (by rw [List.length_map, line_lit]; omega)
  have hq := ne_once R.length P.flatten
  unfold irpTail
  cases hO : onceB R.length P.flatten with
  | false =>
    rw [hO] at hq
    have e : paperB R m P = false := by simp only [paperB, hO, Bool.false_and]
    rw [e]
    exact g_yes (h1 := []) (h2 := []) (by simp only [envAt, evSs, evS, evE, evEs, evIf, evPart, evC, mkL, valsD, valD, pureL, ixW, ixD, setsE, unsetE, Pat.bind, Sh.bindL, dTy, isD, isNon, List.map_cons, List.map_nil, List.length_cons, List.length_nil, List.getElem?_cons_zero, List.getElem?_cons_succ, List.set_cons_zero, List.set_cons_succ, List.replicate, List.cons_append, List.nil_append, Option.bind_eq_bind, Option.bind_some, Option.map_some, Bool.not_true, Bool.not_false, if_true, if_false, reduceIte, Bool.false_eq_true, reduceCtorEq, Nat.reduceAdd, Nat.reduceSub, Nat.reduceLeDiff, zeroW, cellArg, Option.isSome_some, line_lit, Bool.and_self, Bool.true_and, Bool.and_true, Bool.false_and, Bool.and_false, Bool.or_true, Bool.true_or, Bool.or_false, Bool.false_or, Int.natAbs_natCast, Int.cast_ofNat_Int, Int.reduceLE, Int.reduceLT, Int.reduceEq, decide_true, decide_false, Nat.reduceLT, Nat.reduceEqDiff, List.length_nil, wipeE, eq_self, h2, f_allM, hw, hs, f_lenR, hrng, pureL_ds, hq]) (g_ret (by simp only [envAt, evSs, evS, evE, evEs, evIf, evPart, evC, mkL, valsD, valD, pureL, ixW, ixD, setsE, unsetE, Pat.bind, Sh.bindL, dTy, isD, isNon, List.map_cons, List.map_nil, List.length_cons, List.length_nil, List.getElem?_cons_zero, List.getElem?_cons_succ, List.set_cons_zero, List.set_cons_succ, List.replicate, List.cons_append, List.nil_append, Option.bind_eq_bind, Option.bind_some, Option.map_some, Bool.not_true, Bool.not_false, if_true, if_false, reduceIte, Bool.false_eq_true, reduceCtorEq, Nat.reduceAdd, Nat.reduceSub, Nat.reduceLeDiff, zeroW, cellArg, Option.isSome_some, line_lit, Bool.and_self, Bool.true_and, Bool.and_true, Bool.false_and, Bool.and_false, Bool.or_true, Bool.true_or, Bool.or_false, Bool.false_or, Int.natAbs_natCast, Int.cast_ofNat_Int, Int.reduceLE, Int.reduceLT, Int.reduceEq, decide_true, decide_false, Nat.reduceLT, Nat.reduceEqDiff, List.length_nil, wipeE, eq_self]))
  | true =>
    rw [hO] at hq
    have e : paperB R m P = (P.all (closedB (fn R)) && decide (m + P.length ≤ R.length)) := by simp only [paperB, hO, Bool.true_and]
    rw [e]
    refine g_no (h1 := []) (by simp only [envAt, evSs, evS, evE, evEs, evIf, evPart, evC, mkL, valsD, valD, pureL, ixW, ixD, setsE, unsetE, Pat.bind, Sh.bindL, dTy, isD, isNon, List.map_cons, List.map_nil, List.length_cons, List.length_nil, List.getElem?_cons_zero, List.getElem?_cons_succ, List.set_cons_zero, List.set_cons_succ, List.replicate, List.cons_append, List.nil_append, Option.bind_eq_bind, Option.bind_some, Option.map_some, Bool.not_true, Bool.not_false, if_true, if_false, reduceIte, Bool.false_eq_true, reduceCtorEq, Nat.reduceAdd, Nat.reduceSub, Nat.reduceLeDiff, zeroW, cellArg, Option.isSome_some, line_lit, Bool.and_self, Bool.true_and, Bool.and_true, Bool.false_and, Bool.and_false, Bool.or_true, Bool.true_or, Bool.or_false, Bool.false_or, Int.natAbs_natCast, Int.cast_ofNat_Int, Int.reduceLE, Int.reduceLT, Int.reduceEq, decide_true, decide_false, Nat.reduceLT, Nat.reduceEqDiff, List.length_nil, wipeE, eq_self, h2, f_allM, hw, hs, f_lenR, hrng, pureL_ds, hq]) ?_
    refine g_nm (h1 := []) (w := .d (.lst (nats (there R)))) (by simp only [envAt, evSs, evS, evE, evEs, evIf, evPart, evC, mkL, valsD, valD, pureL, ixW, ixD, setsE, unsetE, Pat.bind, Sh.bindL, dTy, isD, isNon, List.map_cons, List.map_nil, List.length_cons, List.length_nil, List.getElem?_cons_zero, List.getElem?_cons_succ, List.set_cons_zero, List.set_cons_succ, List.replicate, List.cons_append, List.nil_append, Option.bind_eq_bind, Option.bind_some, Option.map_some, Bool.not_true, Bool.not_false, if_true, if_false, reduceIte, Bool.false_eq_true, reduceCtorEq, Nat.reduceAdd, Nat.reduceSub, Nat.reduceLeDiff, zeroW, cellArg, Option.isSome_some, line_lit, Bool.and_self, Bool.true_and, Bool.and_true, Bool.false_and, Bool.and_false, Bool.or_true, Bool.true_or, Bool.or_false, Bool.false_or, Int.natAbs_natCast, Int.cast_ofNat_Int, Int.reduceLE, Int.reduceLT, Int.reduceEq, decide_true, decide_false, Nat.reduceLT, Nat.reduceEqDiff, List.length_nil, wipeE, eq_self, p9, sp_goes_to _ o]) ?_
    have hc3 : evE (phi T G N (k + 3)) G c_is_round_paper_3 [some (.d (encR R)), some (.d (.int m)), some (.d (encP P)), some (.d (.lst (nats P.flatten))), some (.d (.lst (nats (there R)))), none, none, none, none, none] [] = some (.d (.lst ((P.flatMap fun r => r.zip (turnR r)).map fun p => D.bl (decide (fn R p.1 = p.2)))), []) := by
      have hz : ∀ r ∈ P, (r.zip (turnR r)).length = r.length := fun r _ => by rw [List.length_zip, turnR_len, Nat.min_self]
      have := comp2_map (Φ := phi T G N (k + 3)) (G := G) (own := [6, 8, 9]) (vs1 := [8, 9]) (p := .nm 6) (p1 := .tup [8, 9]) (it := .var 2) (it1 := (.zip (.var 6) (.bin .add (.sl (.var 6) (.cons (.lit (.int 1)) .nil) .nil) (.sl (.var 6) .nil (.cons (.lit (.int 1)) .nil))))) (elt := .bin .eq (.ix (.var 4) (.var 8)) (.var 9)) (env := [some (.d (encR R)), some (.d (.int m)), some (.d (encP P)), some (.d (.lst (nats P.flatten))), some (.d (.lst (nats (there R)))), none, none, none, none, none]) (h := []) (h0 := [])
        row P pegD (fun r => r.zip (turnR r)) (fun _ p => .bl (decide (fn R p.1 = p.2))) rfl rfl
        (fun r hr => ⟨_, _, rfl, by
          have h1 : (List.drop 1 (nats r)).length + (List.take 1 (nats r)).length ≤ line := by
            have := hP.len r hr
            rw [line_lit, List.length_drop, List.length_take, List.length_map]; omega
          have h2 : nats (turnR r) = (nats r).drop 1 ++ (nats r).take 1 := by simp only [nats, turnR, List.map_append, List.map_drop, List.map_take]
          simp only [envAt, evSs, evS, evE, evEs, evIf, evPart, evC, mkL, valsD, valD, pureL, ixW, ixD, setsE, unsetE, Pat.bind, Sh.bindL, dTy, isD, isNon, List.map_cons, List.map_nil, List.length_cons, List.length_nil, List.getElem?_cons_zero, List.getElem?_cons_succ, List.set_cons_zero, List.set_cons_succ, List.replicate, List.cons_append, List.nil_append, Option.bind_eq_bind, Option.bind_some, Option.map_some, Bool.not_true, Bool.not_false, if_true, if_false, reduceIte, Bool.false_eq_true, reduceCtorEq, Nat.reduceAdd, Nat.reduceSub, Nat.reduceLeDiff, zeroW, cellArg, Option.isSome_some, line_lit, Bool.and_self, Bool.true_and, Bool.and_true, Bool.false_and, Bool.and_false, Bool.or_true, Bool.true_or, Bool.or_false, Bool.false_or, Int.natAbs_natCast, Int.cast_ofNat_Int, Int.reduceLE, Int.reduceLT, Int.reduceEq, decide_true, decide_false, Nat.reduceLT, Nat.reduceEqDiff, List.length_nil, wipeE, eq_self, slD, cut_1n, cut_n1, b_addT h1, ← h2, seqD, zip_nats pegD (fun _ => rfl)]; rfl, rfl, fun c hc => ⟨_, rfl, by
          have hm1 : c.1 ∈ r := (List.of_mem_zip hc).1
          have hix : ixD (.lst (nats (there R))) (.int c.1) = some (.int (fn R c.1 : Nat)) := ix_nats (l := there R) (i := c.1) (by rw [there_len]; exact hP.lt r hr _ hm1)
          have hd : decide (((fn R c.1 : Nat) : Int) = c.2) = decide (fn R c.1 = c.2) := decide_eq_decide.mpr Int.ofNat_inj
          simp only [envAt, evSs, evS, evE, evEs, evIf, evPart, evC, mkL, valsD, valD, pureL, ixW, setsE, unsetE, Pat.bind, Sh.bindL, dTy, isD, isNon, List.map_cons, List.map_nil, List.length_cons, List.length_nil, List.getElem?_cons_zero, List.getElem?_cons_succ, List.set_cons_zero, List.set_cons_succ, List.replicate, List.cons_append, List.nil_append, Option.bind_eq_bind, Option.bind_some, Option.map_some, Bool.not_true, Bool.not_false, if_true, if_false, reduceIte, Bool.false_eq_true, reduceCtorEq, Nat.reduceAdd, Nat.reduceSub, Nat.reduceLeDiff, zeroW, cellArg, Option.isSome_some, line_lit, Bool.and_self, Bool.true_and, Bool.and_true, Bool.false_and, Bool.and_false, Bool.or_true, Bool.true_or, Bool.or_false, Bool.false_or, Int.natAbs_natCast, Int.cast_ofNat_Int, Int.reduceLE, Int.reduceLT, Int.reduceEq, decide_true, decide_false, Nat.reduceLT, Nat.reduceEqDiff, List.length_nil, wipeE, eq_self, hix, b_eqI, hd]⟩⟩)
        (by
          rw [flatM_bl, List.length_map, line_lit]
          have hg : ∀ Q : List (List Nat), (Q.flatMap fun r => r.zip (turnR r)).length = Q.flatten.length := by
            intro Q
            induction Q with
            | nil => rfl
            | cons a Q ih => rw [List.flatMap_cons, List.length_append, ih, List.flatten_cons, List.length_append, List.length_zip, turnR_len, Nat.min_self]
          rw [hg]; omega)
      rw [flatM_bl] at this
      exact this
    refine g_nm hc3 ?_
    have hall : bifD .all [.lst ((P.flatMap fun r => r.zip (turnR r)).map fun p => D.bl (decide (fn R p.1 = p.2)))] = some (.bl (P.all (closedB (fn R)))) := by
      rw [f_allM, flatM_all]; rfl
    have hlp : bifD .len [encP P] = some (.int P.length) := by
      show some (D.int ((P.map row).length : Nat)) = _
      rw [List.length_map]
    have hge : decide ((R.length : Int) - P.length ≥ m) = decide (m + P.length ≤ R.length) := decide_eq_decide.mpr (by omega)
    refine g_ret ?_
    cases hC : P.all (closedB (fn R)) with
    | false => rw [hC] at hall; simp only [envAt, evSs, evS, evE, evEs, evIf, evPart, evC, mkL, valsD, valD, pureL, ixW, ixD, setsE, unsetE, Pat.bind, Sh.bindL, dTy, isD, isNon, List.map_cons, List.map_nil, List.length_cons, List.length_nil, List.getElem?_cons_zero, List.getElem?_cons_succ, List.set_cons_zero, List.set_cons_succ, List.replicate, List.cons_append, List.nil_append, Option.bind_eq_bind, Option.bind_some, Option.map_some, Bool.not_true, Bool.not_false, if_true, if_false, reduceIte, Bool.false_eq_true, reduceCtorEq, Nat.reduceAdd, Nat.reduceSub, Nat.reduceLeDiff, zeroW, cellArg, Option.isSome_some, line_lit, Bool.and_self, Bool.true_and, Bool.and_true, Bool.false_and, Bool.and_false, Bool.or_true, Bool.true_or, Bool.or_false, Bool.false_or, Int.natAbs_natCast, Int.cast_ofNat_Int, Int.reduceLE, Int.reduceLT, Int.reduceEq, decide_true, decide_false, Nat.reduceLT, Nat.reduceEqDiff, List.length_nil, wipeE, eq_self, hall]
    | true => rw [hC] at hall; simp only [envAt, evSs, evS, evE, evEs, evIf, evPart, evC, mkL, valsD, valD, pureL, ixW, ixD, setsE, unsetE, Pat.bind, Sh.bindL, dTy, isD, isNon, List.map_cons, List.map_nil, List.length_cons, List.length_nil, List.getElem?_cons_zero, List.getElem?_cons_succ, List.set_cons_zero, List.set_cons_succ, List.replicate, List.cons_append, List.nil_append, Option.bind_eq_bind, Option.bind_some, Option.map_some, Bool.not_true, Bool.not_false, if_true, if_false, reduceIte, Bool.false_eq_true, reduceCtorEq, Nat.reduceAdd, Nat.reduceSub, Nat.reduceLeDiff, zeroW, cellArg, Option.isSome_some, line_lit, Bool.and_self, Bool.true_and, Bool.and_true, Bool.false_and, Bool.and_false, Bool.or_true, Bool.true_or, Bool.or_false, Bool.false_or, Int.natAbs_natCast, Int.cast_ofNat_Int, Int.reduceLE, Int.reduceLT, Int.reduceEq, decide_true, decide_false, Nat.reduceLT, Nat.reduceEqDiff, List.length_nil, wipeE, eq_self, hall, f_lenR, hlp, b_subI, b_geI, hge]
end
end Shoe

/-! the rack of the law -/
namespace Shoe
open PySem PySem.Spec PyProof.Rows L2 Sh
theorem rack_of {n : Nat} (h1 : 1 ≤ n) (h7 : n ≤ 7) {l m : List Nat} (hl : l.Perm (List.range n)) (hm : m.Perm (List.range n)) : RackOk (l.zip m) := by
  have e1 : l.length = n := by rw [hl.length_eq, List.length_range]
  have e2 : m.length = n := by rw [hm.length_eq, List.length_range]
  have e : (l.zip m).length = n := by rw [List.length_zip, e1, e2, Nat.min_self]
  have m1 : (l.zip m).map (·.1) = l := List.map_fst_zip (by omega)
  have m2 : (l.zip m).map (·.2) = m := List.map_snd_zip (by omega)
  refine ⟨by omega, by omega, by rw [m1]; exact hl.nodup_iff.mpr List.nodup_range, by rw [m2]; exact hm.nodup_iff.mpr List.nodup_range, fun p hp => ?_⟩
  rw [e]
  have := List.of_mem_zip (a := p.1) (b := p.2) hp
  exact ⟨List.mem_range.mp (hl.mem_iff.mp this.1), List.mem_range.mp (hm.mem_iff.mp this.2)⟩
section
variable {T : Tb} {N k : Nat} (hR : ∀ k, RollAt (phi T G N (k + 1)) 2) (h3 : Has_law_turned T)
include hR h3
/-- range(n), turned -/
theorem turned_rng {c : Int × Int} (hc : cupOk c) {n : Nat} (hn : n ≤ 7) {i : Nat} {env : Sh.Env} {r : DH} {a : E} (h0 : env[i]? = some (some (.ref 0))) (hi : evE (phi T G N (k + 2)) G a env (hcup c r) = some (.d (.int n), hcup c r)) :
    ∃ l c', l.Perm (List.range n) ∧ cupOk c' ∧ evE (phi T G N (k + 2)) G (.call 3 (.cons (.var i) (.cons (.mkl false (.ofl (.rng (.cons a .nil)))) .nil))) env (hcup c r) = some (.d (.tup (nats l)), hcup c' r) := by
  have p3 : phi T G N (k + 2) 3 = .cell (runC (phi T G N (k + 1)) G N fTurned) := phi_c (fd := fTurned) h3 rfl
  obtain ⟨ys, c', hp, hc', e⟩ := turned_ok (G := G) (N := N) (hR k) hc (xs := nats (List.range n)) (by rw [List.length_map, List.length_range]; omega)
  obtain ⟨l, rfl, hl⟩ := perm_nats hp
  refine ⟨l, c', hl, hc', call_c (ws := [.ref 0, .d (.lst (nats (List.range n)))]) ?_ p3 rfl e⟩
  have e1 : evE (phi T G N (k + 2)) G (.var i) env (hcup c r) = some (.ref 0, hcup c r) := by rw [ev_var, h0]
  exact evs_c e1 (evs_c (ofl_e (rng_1 (n := n) hi rfl (by omega))) evs_n)
theorem sp_law_rack {c : Int × Int} (hc : cupOk c) : ∃ R c', RackOk R ∧ cupOk c' ∧ runC (phi T G N (k + 2)) G N f_law_rack [.ref 0, .d (.int 7)] (cupD c) = some (encR R, cupD c') := by
  obtain ⟨x, c1, hx, hc1, e1⟩ := call_roll (hR (k + 1)) (G := G) (es := .cons (.var 0) (.cons (.var 1) .nil)) (env := [some (.ref 0), some (.d (.int 7)), none]) (h := hcup c []) (r := []) (c := c) (m := 7) (by simp only [envAt, evSs, evS, evE, evEs, evIf, evPart, evC, mkL, valsD, valD, pureL, ixW, ixD, setsE, unsetE, Pat.bind, Sh.bindL, dTy, isD, isNon, List.map_cons, List.map_nil, List.length_cons, List.length_nil, List.getElem?_cons_zero, List.getElem?_cons_succ, List.set_cons_zero, List.set_cons_succ, List.replicate, List.cons_append, List.nil_append, Option.bind_eq_bind, Option.bind_some, Option.map_some, Bool.not_true, Bool.not_false, if_true, if_false, reduceIte, Bool.false_eq_true, reduceCtorEq, Nat.reduceAdd, Nat.reduceSub, Nat.reduceLeDiff, zeroW, cellArg, Option.isSome_some, line_lit, Bool.and_self, Bool.true_and, Bool.and_true, Bool.false_and, Bool.and_false, Bool.or_true, Bool.true_or, Bool.or_false, Bool.false_or, Int.natAbs_natCast, Int.cast_ofNat_Int, Int.reduceLE, Int.reduceLT, Int.reduceEq, decide_true, decide_false, Nat.reduceLT, Nat.reduceEqDiff, List.length_nil, wipeE, eq_self]) hc (by omega) (by omega)
  obtain ⟨l, c2, hl, hc2, e2⟩ := turned_rng (N := N) (k := k) hR h3 hc1 (n := 1 + x) (by omega) (i := 0) (env := [some (.ref 0), some (.d (.int 7)), some (.d (.int (1 + x : Nat)))]) (r := []) (a := .var 2) rfl (by simp only [envAt, evSs, evS, evE, evEs, evIf, evPart, evC, mkL, valsD, valD, pureL, ixW, ixD, setsE, unsetE, Pat.bind, Sh.bindL, dTy, isD, isNon, List.map_cons, List.map_nil, List.length_cons, List.length_nil, List.getElem?_cons_zero, List.getElem?_cons_succ, List.set_cons_zero, List.set_cons_succ, List.replicate, List.cons_append, List.nil_append, Option.bind_eq_bind, Option.bind_some, Option.map_some, Bool.not_true, Bool.not_false, if_true, if_false, reduceIte, Bool.false_eq_true, reduceCtorEq, Nat.reduceAdd, Nat.reduceSub, Nat.reduceLeDiff, zeroW, cellArg, Option.isSome_some, line_lit, Bool.and_self, Bool.true_and, Bool.and_true, Bool.false_and, Bool.and_false, Bool.or_true, Bool.true_or, Bool.or_false, Bool.false_or, Int.natAbs_natCast, Int.cast_ofNat_Int, Int.reduceLE, Int.reduceLT, Int.reduceEq, decide_true, decide_false, Nat.reduceLT, Nat.reduceEqDiff, List.length_nil, wipeE, eq_self])
  obtain ⟨m, c3, hm, hc3, e3⟩ := turned_rng (N := N) (k := k) hR h3 hc2 (n := 1 + x) (by omega) (i := 0) (env := [some (.ref 0), some (.d (.int 7)), some (.d (.int (1 + x : Nat)))]) (r := []) (a := .var 2) rfl (by simp only [envAt, evSs, evS, evE, evEs, evIf, evPart, evC, mkL, valsD, valD, pureL, ixW, ixD, setsE, unsetE, Pat.bind, Sh.bindL, dTy, isD, isNon, List.map_cons, List.map_nil, List.length_cons, List.length_nil, List.getElem?_cons_zero, List.getElem?_cons_succ, List.set_cons_zero, List.set_cons_succ, List.replicate, List.cons_append, List.nil_append, Option.bind_eq_bind, Option.bind_some, Option.map_some, Bool.not_true, Bool.not_false, if_true, if_false, reduceIte, Bool.false_eq_true, reduceCtorEq, Nat.reduceAdd, Nat.reduceSub, Nat.reduceLeDiff, zeroW, cellArg, Option.isSome_some, line_lit, Bool.and_self, Bool.true_and, Bool.and_true, Bool.false_and, Bool.and_false, Bool.or_true, Bool.true_or, Bool.or_false, Bool.false_or, Int.natAbs_natCast, Int.cast_ofNat_Int, Int.reduceLE, Int.reduceLT, Int.reduceEq, decide_true, decide_false, Nat.reduceLT, Nat.reduceEqDiff, List.length_nil, wipeE, eq_self])
  refine ⟨l.zip m, c3, rack_of (by omega) (by omega) hl hm, hc3, run_cup (r := []) rfl ?_⟩
  show evSs _ G N b_law_rack [some (.ref 0), some (.d (.int 7)), none] (hcup c []) = _
  unfold b_law_rack
  refine g_nm (h1 := hcup c1 []) (w := .d (.int (1 + x : Nat))) ?_ ?_
  · refine bin_e (x := .int 1) (y := .int x) (by rw [ev_lit]) e1 ?_
    rw [b_addI]; push_cast; rfl
  · refine g_ret ?_
    refine bif1 (ofl_e (zip_e e2 e3 rfl rfl)) rfl ?_
    rw [f_tupL, zip_nats pegD fun _ => rfl]; rfl
end
end Shoe

/-! the table of law 73 -/
namespace L73
open PySem PySem.Spec PyProof.Rows L2 Sh Shoe
/-- 0: _law_cup(script); 0=script 1=cell -/
def b_law_cup : Ss := (.cons (.asg (.pat (.nm 1)) (.bif .abs (.cons (.ix (.bin .add (.mkl false (.ofl (.var 0))) (.mkl false (.disp (.cons (.lit (.int 0)) .nil)))) (.lit (.int 0))) .nil))) (.cons (.ret (.mkl true (.disp (.cons (.ite (.bin .ge (.var 1) (.bin .pow (.lit (.int 10)) (.lit (.int 18)))) (.bin .fdiv (.var 1) (.lit (.int 83))) (.lit (.int 0))) (.cons (.bin .add (.bin .mod (.bif .int1 (.cons (.bin .add (.bin .mul (.var 1) (.lit (.int 317))) (.lit (.int 4027))) .nil)) (.lit (.int 2077492809))) (.lit (.int 167))) .nil))))) .nil))
def f_law_cup : FD := { nm := "_law_cup", np := 1, N := ["script", "cell"], kd := 2, body := b_law_cup }
/-- 2: _law_roll(cup, many); 0=cup 1=many 2=found 3=deep -/
def b_law_roll : Ss := (.cons (.ite (.bin .gt (.ix (.var 0) (.lit (.int 0))) (.lit (.int 0))) (.cons (.asg (.pat (.nm 2)) (.bin .mod (.bif .int1 (.cons (.ix (.var 0) (.lit (.int 0))) .nil)) (.var 1))) (.cons (.asg (.sub (.var 0) (.lit (.int 0))) (.bin .fdiv (.ix (.var 0) (.lit (.int 0))) (.var 1))) (.cons (.ret (.var 2)) .nil))) .nil) (.cons (.asg (.sub (.var 0) (.lit (.int 1))) (.bin .mod (.bif .int1 (.cons (.bin .add (.bin .mul (.ix (.var 0) (.lit (.int 1))) (.lit (.int 30893))) (.lit (.int 7883))) .nil)) (.lit (.int 2147483399)))) (.cons (.asg (.pat (.nm 3)) (.bin .mod (.bif .int1 (.cons (.bin .mul (.ix (.var 0) (.lit (.int 1))) (.bin .add (.ix (.var 0) (.lit (.int 1))) (.lit (.int 239)))) .nil)) (.lit (.int 2147483563)))) (.cons (.ret (.bin .mod (.bif .int1 (.cons (.bin .fdiv (.var 3) (.lit (.int 823))) .nil)) (.var 1))) .nil))))
def f_law_roll : FD := { nm := "_law_roll", np := 2, N := ["cup", "many", "found", "deep"], kd := 1, body := b_law_roll }
/-- 15: _law_is_paper(rack, many, value); 0=rack 1=many 2=value 3=pegs 4=row 5=one 6=other -/
def b_law_is_paper_l0 : Ss := (.cons (.ite (.bin .ne (.ix (.ix (.var 0) (.var 5)) (.lit (.int 1))) (.ix (.ix (.var 0) (.var 6)) (.lit (.int 0)))) (.cons (.ret (.lit (.bl false))) .nil) .nil) (.cons (.fgt [5, 6]) .nil))
def l_law_is_paper_0 : S := .for (.tup [5, 6]) (.zip (.var 4) (.bin .add (.sl (.var 4) (.cons (.lit (.int 1)) .nil) .nil) (.sl (.var 4) .nil (.cons (.lit (.int 1)) .nil)))) b_law_is_paper_l0
def b_law_is_paper_l1 : Ss := (.cons (.asg (.pat (.nm 3)) (.bin .add (.var 3) (.mkl false (.ofl (.var 4))))) (.cons l_law_is_paper_0 (.cons (.fgt [4, 5, 6]) .nil)))
def l_law_is_paper_1 : S := .for (.nm 4) (.var 2) b_law_is_paper_l1
def b_law_is_paper : Ss := (.cons (.asg (.pat (.nm 3)) (.mkl false (.disp .nil))) (.cons l_law_is_paper_1 (.cons (.ret (.and (.bin .eq (.bif .sorted (.cons (.var 3) .nil)) (.mkl false (.ofl (.rng (.cons (.bif .len (.cons (.var 0) .nil)) .nil))))) (.bin .ge (.bin .sub (.bif .len (.cons (.var 0) .nil)) (.bif .len (.cons (.var 2) .nil))) (.var 1)))) .nil)))
def f_law_is_paper : FD := { nm := "_law_is_paper", np := 3, N := ["rack", "many", "value", "pegs", "row", "one", "other"], kd := 0, body := b_law_is_paper }
/-- 16: law(script); 0=script 1=cup 2=turn 3=rack 4=few 5=size 6=many 7=told 8=base 9=at 10=row 11=values 12=value 13=due 14=odds 15=lone 16=own 17=peg 18=odd -/
def c_law_0 : E := .mkl false (.comp [17] (.nm 17) (.rng (.cons (.var 5) .nil)) .nil (.tup (.cons (.var 17) .nil)))
def c_law_1 : E := .mkl false (.comp [16] (.nm 16) (.var 8) .nil (.bin .add (.sl (.var 16) (.cons (.lit (.int 1)) .nil) .nil) (.sl (.var 16) .nil (.cons (.lit (.int 1)) .nil))))
def b_law_l0 : Ss := (.cons (.asg (.pat (.nm 13)) (.call 15 (.cons (.var 3) (.cons (.var 6) (.cons (.var 12) .nil))))) (.cons (.ite (.or (.not (.call 1 (.cons (.call 14 (.cons (.var 3) (.cons (.var 6) (.cons (.var 12) .nil)))) (.cons (.var 13) .nil)))) (.and (.var 13) (.bin .gt (.var 6) (.var 4)))) (.cons (.ret (.lit (.bl false))) .nil) .nil) (.cons (.fgt [12, 13]) .nil)))
def l_law_0 : S := .for (.nm 12) (.var 11) b_law_l0
def b_law_l1 : Ss := (.cons (.asg (.pat (.nm 7)) (.call 12 (.cons (.var 3) (.cons (.var 6) .nil)))) (.cons (.ite (.or (.bin .ne (.bin .is (.var 7) (.lit .non)) (.bin .gt (.var 6) (.var 4))) (.and (.bin .isnot (.var 7) (.lit .non)) (.or (.not (.isi (.var 7) .tuple)) (.not (.call 15 (.cons (.var 3) (.cons (.var 6) (.cons (.var 7) .nil)))))))) (.cons (.ret (.lit (.bl false))) .nil) .nil) (.cons (.asg (.pat (.nm 8)) (.call 13 (.cons (.var 3) .nil))) (.cons (.asg (.pat (.nm 9)) (.call 2 (.cons (.var 1) (.cons (.bif .len (.cons (.var 8) .nil)) .nil)))) (.cons (.asg (.pat (.nm 10)) (.ix (.var 8) (.var 9))) (.cons (.asg (.pat (.nm 11)) (.mkl false (.disp (.cons (.var 8) (.cons (.rev (.var 8)) (.cons (.sl (.var 8) (.cons (.lit (.int 1)) .nil) .nil) (.cons (.bin .add (.var 8) (.sl (.var 8) .nil (.cons (.lit (.int 1)) .nil))) (.cons (.bif .tuple (.cons c_law_1 .nil)) (.cons (.tup (.cons (.trng (.cons (.var 5) .nil)) .nil)) (.cons (.bif .tuple (.cons c_law_0 .nil)) .nil)))))))))) (.cons (.asg (.pat (.nm 11)) (.bin .add (.var 11) (.mkl false (.disp (.cons (.bin .add (.bin .add (.sl (.var 8) .nil (.cons (.var 9) .nil)) (.tup (.cons (.rev (.var 10)) .nil))) (.sl (.var 8) (.cons (.bin .add (.var 9) (.lit (.int 1))) .nil) .nil)) (.cons (.tup (.cons (.call 3 (.cons (.var 1) (.cons (.mkl false (.ofl (.rng (.cons (.var 5) .nil)))) .nil))) .nil)) .nil)))))) (.cons l_law_0 (.cons (.fgt [6, 7, 9, 10, 11, 12, 13]) .nil)))))))))
def l_law_1 : S := .for (.nm 6) (.tup (.cons (.lit (.int 0)) (.cons (.var 4) (.cons (.bin .add (.var 4) (.lit (.int 1))) (.cons (.bif .max2 (.cons (.lit (.int 0)) (.cons (.bin .sub (.var 4) (.lit (.int 1))) .nil))) (.cons (.lit (.int 30)) .nil)))))) b_law_l1
def c_law_2 : E := .mkl false (.comp [17] (.nm 17) (.rng (.cons (.var 5) .nil)) .nil (.tup (.cons (.lit (.bl true)) .nil)))
def c_law_3 : E := .mkl false (.comp [18] (.nm 18) (.var 14) (.cons (.bin .isnot (.call 14 (.cons (.var 3) (.cons (.lit (.int 0)) (.cons (.var 18) .nil)))) (.lit (.bl false))) .nil) (.var 18))
def b_law_l2 : Ss := (.cons (.asg (.pat (.nm 3)) (.call 4 (.cons (.var 1) (.cons (.lit (.int 7)) .nil)))) (.cons (.par [4, 5] (.cons (.call 11 (.cons (.var 3) .nil)) (.cons (.bif .len (.cons (.var 3) .nil)) .nil))) (.cons l_law_1 (.cons (.asg (.pat (.nm 14)) (.mkl false (.disp (.cons (.lit .non) (.cons (.mkl false (.ofl (.var 8))) (.cons (.bin .add (.var 8) (.tup (.cons (.tup .nil) .nil))) (.cons (.bin .add (.sl (.var 8) (.cons (.lit (.int 1)) .nil) .nil) (.tup (.cons (.mkl false (.ofl (.ix (.var 8) (.lit (.int 0))))) .nil))) (.cons (.tup (.cons (.lit .non) .nil)) (.cons (.tup (.cons (.tup (.cons (.var 5) .nil)) .nil)) (.cons (.tup (.cons (.tup (.cons (.neg (.lit (.int 1))) .nil)) .nil)) (.cons (.bif .tuple (.cons c_law_2 .nil)) (.cons (.tup (.cons (.lit (.int 0)) .nil)) (.cons (.lit (.int 5)) .nil))))))))))))) (.cons (.ite (.bin .ne c_law_3 (.mkl false (.disp .nil))) (.cons (.ret (.lit (.bl false))) .nil) .nil) (.cons (.fgt [2, 3, 4, 5, 6, 7, 9, 10, 11, 12, 13, 14]) .nil))))))
def l_law_2 : S := .for (.nm 2) (.rng (.cons (.lit (.int 6)) .nil)) b_law_l2
def b_law : Ss := (.cons (.asg (.pat (.nm 1)) (.call 0 (.cons (.var 0) .nil))) (.cons l_law_2 (.cons (.asg (.pat (.nm 15)) (.tup (.cons (.tup (.cons (.lit (.int 0)) (.cons (.lit (.int 0)) .nil))) .nil))) (.cons (.ret (.call 1 (.cons (.tup (.cons (.call 12 (.cons (.var 15) (.cons (.lit (.int 0)) .nil))) (.cons (.call 12 (.cons (.var 15) (.cons (.lit (.int 1)) .nil))) (.cons (.call 14 (.cons (.var 15) (.cons (.lit (.int 0)) (.cons (.tup (.cons (.tup (.cons (.lit (.int 0)) .nil)) .nil)) .nil)))) (.cons (.call 14 (.cons (.var 15) (.cons (.lit (.int 0)) (.cons (.tup (.cons (.tup (.cons (.lit (.int 0)) (.cons (.lit (.int 0)) .nil))) .nil)) .nil)))) .nil))))) (.cons (.tup (.cons (.tup (.cons (.tup (.cons (.lit (.int 0)) .nil)) .nil)) (.cons (.lit .non) (.cons (.lit (.bl true)) (.cons (.lit (.bl false)) .nil))))) .nil)))) .nil))))
def f_law : FD := { nm := "law", np := 1, N := ["script", "cup", "turn", "rack", "few", "size", "many", "told", "base", "at", "row", "values", "value", "due", "odds", "lone", "own", "peg", "odd"], kd := 0, body := b_law }
def topS (i : Nat) : Stmt := PySem.Challenge.pw_leatheryard_k73_whole_round_papers.main.body.getD i (.Pass ⟨0, 0, 0, 0⟩)
def T : Tb := { fds := [some f_law_cup, some f_law_same, some f_law_roll, some f_law_turned, some f_law_rack, some f_is_tuple_of, some f_is_whole, some f_fits_rack, some f_need_rack, some f_goes_to, some f_rounds_in, some f_fewest, some f_round_paper, some f_rounds, some f_is_round_paper, some f_law_is_paper, some f_law], cons := [some "PEGS", some "MOVES", none], gcd := false }
theorem ck_law_cup : fdB T f_law_cup (topS 19) = true := by decide +kernel
theorem ck_law_same : fdB T f_law_same (topS 21) = true := by decide +kernel
theorem ck_law_roll : fdB T f_law_roll (topS 20) = true := by decide +kernel
theorem ck_law_turned : fdB T f_law_turned (topS 22) = true := by decide +kernel
theorem ck_law_rack : fdB T f_law_rack (topS 23) = true := by decide +kernel
theorem ck_is_tuple_of : fdB T f_is_tuple_of (topS 6) = true := by decide +kernel
theorem ck_is_whole : fdB T f_is_whole (topS 5) = true := by decide +kernel
theorem ck_fits_rack : fdB T f_fits_rack (topS 10) = true := by decide +kernel
theorem ck_need_rack : fdB T f_need_rack (topS 11) = true := by decide +kernel
theorem ck_goes_to : fdB T f_goes_to (topS 12) = true := by decide +kernel
theorem ck_rounds_in : fdB T f_rounds_in (topS 13) = true := by decide +kernel
theorem ck_fewest : fdB T f_fewest (topS 15) = true := by decide +kernel
theorem ck_round_paper : fdB T f_round_paper (topS 16) = true := by decide +kernel
theorem ck_rounds : fdB T f_rounds (topS 14) = true := by decide +kernel
theorem ck_is_round_paper : fdB T f_is_round_paper (topS 17) = true := by decide +kernel
theorem ck_law_is_paper : fdB T f_law_is_paper (topS 24) = true := by decide +kernel
theorem ck_law : fdB T f_law (topS 25) = true := by decide +kernel
theorem fnsIn {K : PySem.W.Frag} {h : Heap} {mg : Str → Option Value} (X : K.In h) (Gn : h.Ns mainGlobals mg) {f0 : Addr} {od0 an0 : Option Addr} {sl0 : Array (Option Value)} {oc0 kV0 dc0 pm0 cd0 ct0 : Value} {f1 : Addr} {od1 an1 : Option Addr} {sl1 : Array (Option Value)} {oc1 kV1 dc1 pm1 cd1 ct1 : Value} {f2 : Addr} {od2 an2 : Option Addr} {sl2 : Array (Option Value)} {oc2 kV2 dc2 pm2 cd2 ct2 : Value} {f3 : Addr} {od3 an3 : Option Addr} {sl3 : Array (Option Value)} {oc3 kV3 dc3 pm3 cd3 ct3 : Value} {f4 : Addr} {od4 an4 : Option Addr} {sl4 : Array (Option Value)} {oc4 kV4 dc4 pm4 cd4 ct4 : Value} {f5 : Addr} {od5 an5 : Option Addr} {sl5 : Array (Option Value)} {oc5 kV5 dc5 pm5 cd5 ct5 : Value} {f6 : Addr} {od6 an6 : Option Addr} {sl6 : Array (Option Value)} {oc6 kV6 dc6 pm6 cd6 ct6 : Value} {f7 : Addr} {od7 an7 : Option Addr} {sl7 : Array (Option Value)} {oc7 kV7 dc7 pm7 cd7 ct7 : Value} {f8 : Addr} {od8 an8 : Option Addr} {sl8 : Array (Option Value)} {oc8 kV8 dc8 pm8 cd8 ct8 : Value} {f9 : Addr} {od9 an9 : Option Addr} {sl9 : Array (Option Value)} {oc9 kV9 dc9 pm9 cd9 ct9 : Value} {f10 : Addr} {od10 an10 : Option Addr} {sl10 : Array (Option Value)} {oc10 kV10 dc10 pm10 cd10 ct10 : Value} {f11 : Addr} {od11 an11 : Option Addr} {sl11 : Array (Option Value)} {oc11 kV11 dc11 pm11 cd11 ct11 : Value} {f12 : Addr} {od12 an12 : Option Addr} {sl12 : Array (Option Value)} {oc12 kV12 dc12 pm12 cd12 ct12 : Value} {f13 : Addr} {od13 an13 : Option Addr} {sl13 : Array (Option Value)} {oc13 kV13 dc13 pm13 cd13 ct13 : Value} {f14 : Addr} {od14 an14 : Option Addr} {sl14 : Array (Option Value)} {oc14 kV14 dc14 pm14 cd14 ct14 : Value} {f15 : Addr} {od15 an15 : Option Addr} {sl15 : Array (Option Value)} {oc15 kV15 dc15 pm15 cd15 ct15 : Value} {f16 : Addr} {od16 an16 : Option Addr} {sl16 : Array (Option Value)} {oc16 kV16 dc16 pm16 cd16 ct16 : Value}
    (a0 : PySem.W.nsIn K mainGlobals "_law_cup" = some (some (.ref f0))) (l0 : K.lookup f0 = some ⟨oc0, od0, .func (PySem.W.fnOf "_law_cup" "_law_cup" (defArgs (topS 19)) (defBody (topS 19)) (defScope (topS 19)) .none kV0 dc0 pm0 an0 cd0 ct0), sl0⟩) (c0 : PySem.W.codeIn K cd0 "_law_cup" = true) (k0 : PySem.W.keepIn K (.ref f0) = true)
    (a1 : PySem.W.nsIn K mainGlobals "_law_same" = some (some (.ref f1))) (l1 : K.lookup f1 = some ⟨oc1, od1, .func (PySem.W.fnOf "_law_same" "_law_same" (defArgs (topS 21)) (defBody (topS 21)) (defScope (topS 21)) .none kV1 dc1 pm1 an1 cd1 ct1), sl1⟩) (c1 : PySem.W.codeIn K cd1 "_law_same" = true) (k1 : PySem.W.keepIn K (.ref f1) = true)
    (a2 : PySem.W.nsIn K mainGlobals "_law_roll" = some (some (.ref f2))) (l2 : K.lookup f2 = some ⟨oc2, od2, .func (PySem.W.fnOf "_law_roll" "_law_roll" (defArgs (topS 20)) (defBody (topS 20)) (defScope (topS 20)) .none kV2 dc2 pm2 an2 cd2 ct2), sl2⟩) (c2 : PySem.W.codeIn K cd2 "_law_roll" = true) (k2 : PySem.W.keepIn K (.ref f2) = true)
    (a3 : PySem.W.nsIn K mainGlobals "_law_turned" = some (some (.ref f3))) (l3 : K.lookup f3 = some ⟨oc3, od3, .func (PySem.W.fnOf "_law_turned" "_law_turned" (defArgs (topS 22)) (defBody (topS 22)) (defScope (topS 22)) .none kV3 dc3 pm3 an3 cd3 ct3), sl3⟩) (c3 : PySem.W.codeIn K cd3 "_law_turned" = true) (k3 : PySem.W.keepIn K (.ref f3) = true)
    (a4 : PySem.W.nsIn K mainGlobals "_law_rack" = some (some (.ref f4))) (l4 : K.lookup f4 = some ⟨oc4, od4, .func (PySem.W.fnOf "_law_rack" "_law_rack" (defArgs (topS 23)) (defBody (topS 23)) (defScope (topS 23)) .none kV4 dc4 pm4 an4 cd4 ct4), sl4⟩) (c4 : PySem.W.codeIn K cd4 "_law_rack" = true) (k4 : PySem.W.keepIn K (.ref f4) = true)
    (a5 : PySem.W.nsIn K mainGlobals "is_tuple_of" = some (some (.ref f5))) (l5 : K.lookup f5 = some ⟨oc5, od5, .func (PySem.W.fnOf "is_tuple_of" "is_tuple_of" (defArgs (topS 6)) (defBody (topS 6)) (defScope (topS 6)) .none kV5 dc5 pm5 an5 cd5 ct5), sl5⟩) (c5 : PySem.W.codeIn K cd5 "is_tuple_of" = true) (k5 : PySem.W.keepIn K (.ref f5) = true)
    (a6 : PySem.W.nsIn K mainGlobals "is_whole" = some (some (.ref f6))) (l6 : K.lookup f6 = some ⟨oc6, od6, .func (PySem.W.fnOf "is_whole" "is_whole" (defArgs (topS 5)) (defBody (topS 5)) (defScope (topS 5)) .none kV6 dc6 pm6 an6 cd6 ct6), sl6⟩) (c6 : PySem.W.codeIn K cd6 "is_whole" = true) (k6 : PySem.W.keepIn K (.ref f6) = true)
    (a7 : PySem.W.nsIn K mainGlobals "fits_rack" = some (some (.ref f7))) (l7 : K.lookup f7 = some ⟨oc7, od7, .func (PySem.W.fnOf "fits_rack" "fits_rack" (defArgs (topS 10)) (defBody (topS 10)) (defScope (topS 10)) .none kV7 dc7 pm7 an7 cd7 ct7), sl7⟩) (c7 : PySem.W.codeIn K cd7 "fits_rack" = true) (k7 : PySem.W.keepIn K (.ref f7) = true)
    (a8 : PySem.W.nsIn K mainGlobals "need_rack" = some (some (.ref f8))) (l8 : K.lookup f8 = some ⟨oc8, od8, .func (PySem.W.fnOf "need_rack" "need_rack" (defArgs (topS 11)) (defBody (topS 11)) (defScope (topS 11)) .none kV8 dc8 pm8 an8 cd8 ct8), sl8⟩) (c8 : PySem.W.codeIn K cd8 "need_rack" = true) (k8 : PySem.W.keepIn K (.ref f8) = true)
    (a9 : PySem.W.nsIn K mainGlobals "goes_to" = some (some (.ref f9))) (l9 : K.lookup f9 = some ⟨oc9, od9, .func (PySem.W.fnOf "goes_to" "goes_to" (defArgs (topS 12)) (defBody (topS 12)) (defScope (topS 12)) .none kV9 dc9 pm9 an9 cd9 ct9), sl9⟩) (c9 : PySem.W.codeIn K cd9 "goes_to" = true) (k9 : PySem.W.keepIn K (.ref f9) = true)
    (a10 : PySem.W.nsIn K mainGlobals "rounds_in" = some (some (.ref f10))) (l10 : K.lookup f10 = some ⟨oc10, od10, .func (PySem.W.fnOf "rounds_in" "rounds_in" (defArgs (topS 13)) (defBody (topS 13)) (defScope (topS 13)) .none kV10 dc10 pm10 an10 cd10 ct10), sl10⟩) (c10 : PySem.W.codeIn K cd10 "rounds_in" = true) (k10 : PySem.W.keepIn K (.ref f10) = true)
    (a11 : PySem.W.nsIn K mainGlobals "fewest" = some (some (.ref f11))) (l11 : K.lookup f11 = some ⟨oc11, od11, .func (PySem.W.fnOf "fewest" "fewest" (defArgs (topS 15)) (defBody (topS 15)) (defScope (topS 15)) .none kV11 dc11 pm11 an11 cd11 ct11), sl11⟩) (c11 : PySem.W.codeIn K cd11 "fewest" = true) (k11 : PySem.W.keepIn K (.ref f11) = true)
    (a12 : PySem.W.nsIn K mainGlobals "round_paper" = some (some (.ref f12))) (l12 : K.lookup f12 = some ⟨oc12, od12, .func (PySem.W.fnOf "round_paper" "round_paper" (defArgs (topS 16)) (defBody (topS 16)) (defScope (topS 16)) .none kV12 dc12 pm12 an12 cd12 ct12), sl12⟩) (c12 : PySem.W.codeIn K cd12 "round_paper" = true) (k12 : PySem.W.keepIn K (.ref f12) = true)
    (a13 : PySem.W.nsIn K mainGlobals "rounds" = some (some (.ref f13))) (l13 : K.lookup f13 = some ⟨oc13, od13, .func (PySem.W.fnOf "rounds" "rounds" (defArgs (topS 14)) (defBody (topS 14)) (defScope (topS 14)) .none kV13 dc13 pm13 an13 cd13 ct13), sl13⟩) (c13 : PySem.W.codeIn K cd13 "rounds" = true) (k13 : PySem.W.keepIn K (.ref f13) = true)
    (a14 : PySem.W.nsIn K mainGlobals "is_round_paper" = some (some (.ref f14))) (l14 : K.lookup f14 = some ⟨oc14, od14, .func (PySem.W.fnOf "is_round_paper" "is_round_paper" (defArgs (topS 17)) (defBody (topS 17)) (defScope (topS 17)) .none kV14 dc14 pm14 an14 cd14 ct14), sl14⟩) (c14 : PySem.W.codeIn K cd14 "is_round_paper" = true) (k14 : PySem.W.keepIn K (.ref f14) = true)
    (a15 : PySem.W.nsIn K mainGlobals "_law_is_paper" = some (some (.ref f15))) (l15 : K.lookup f15 = some ⟨oc15, od15, .func (PySem.W.fnOf "_law_is_paper" "_law_is_paper" (defArgs (topS 24)) (defBody (topS 24)) (defScope (topS 24)) .none kV15 dc15 pm15 an15 cd15 ct15), sl15⟩) (c15 : PySem.W.codeIn K cd15 "_law_is_paper" = true) (k15 : PySem.W.keepIn K (.ref f15) = true)
    (a16 : PySem.W.nsIn K mainGlobals "law" = some (some (.ref f16))) (l16 : K.lookup f16 = some ⟨oc16, od16, .func (PySem.W.fnOf "law" "law" (defArgs (topS 25)) (defBody (topS 25)) (defScope (topS 25)) .none kV16 dc16 pm16 an16 cd16 ct16), sl16⟩) (c16 : PySem.W.codeIn K cd16 "law" = true) (k16 : PySem.W.keepIn K (.ref f16) = true) : ∀ fd, some fd ∈ T.fds → FnIn T K mg fd := by
  intro fd hf
  simp only [T, List.mem_cons, List.not_mem_nil, or_false, Option.some.injEq, reduceCtorEq, false_or] at hf
  rcases hf with rfl | rfl | rfl | rfl | rfl | rfl | rfl | rfl | rfl | rfl | rfl | rfl | rfl | rfl | rfl | rfl | rfl
  · exact fnIn_mk (fd := f_law_cup) X Gn a0 l0 c0 k0 (fun _ _ _ _ _ _ us hl => match us, hl with | [_], _ => rfl) ck_law_cup
  · exact fnIn_mk (fd := f_law_same) X Gn a1 l1 c1 k1 (fun _ _ _ _ _ _ us hl => match us, hl with | [_, _], _ => rfl) ck_law_same
  · exact fnIn_mk (fd := f_law_roll) X Gn a2 l2 c2 k2 (fun _ _ _ _ _ _ us hl => match us, hl with | [_, _], _ => rfl) ck_law_roll
  · exact fnIn_mk (fd := f_law_turned) X Gn a3 l3 c3 k3 (fun _ _ _ _ _ _ us hl => match us, hl with | [_, _], _ => rfl) ck_law_turned
  · exact fnIn_mk (fd := f_law_rack) X Gn a4 l4 c4 k4 (fun _ _ _ _ _ _ us hl => match us, hl with | [_, _], _ => rfl) ck_law_rack
  · exact fnIn_mk (fd := f_is_tuple_of) X Gn a5 l5 c5 k5 (fun _ _ _ _ _ _ us hl => match us, hl with | [_, _, _], _ => rfl) ck_is_tuple_of
  · exact fnIn_mk (fd := f_is_whole) X Gn a6 l6 c6 k6 (fun _ _ _ _ _ _ us hl => match us, hl with | [_, _, _], _ => rfl) ck_is_whole
  · exact fnIn_mk (fd := f_fits_rack) X Gn a7 l7 c7 k7 (fun _ _ _ _ _ _ us hl => match us, hl with | [_], _ => rfl) ck_fits_rack
  · exact fnIn_mk (fd := f_need_rack) X Gn a8 l8 c8 k8 (fun _ _ _ _ _ _ us hl => match us, hl with | [_], _ => rfl) ck_need_rack
  · exact fnIn_mk (fd := f_goes_to) X Gn a9 l9 c9 k9 (fun _ _ _ _ _ _ us hl => match us, hl with | [_], _ => rfl) ck_goes_to
  · exact fnIn_mk (fd := f_rounds_in) X Gn a10 l10 c10 k10 (fun _ _ _ _ _ _ us hl => match us, hl with | [_], _ => rfl) ck_rounds_in
  · exact fnIn_mk (fd := f_fewest) X Gn a11 l11 c11 k11 (fun _ _ _ _ _ _ us hl => match us, hl with | [_], _ => rfl) ck_fewest
  · exact fnIn_mk (fd := f_round_paper) X Gn a12 l12 c12 k12 (fun _ _ _ _ _ _ us hl => match us, hl with | [_, _], _ => rfl) ck_round_paper
  · exact fnIn_mk (fd := f_rounds) X Gn a13 l13 c13 k13 (fun _ _ _ _ _ _ us hl => match us, hl with | [_], _ => rfl) ck_rounds
  · exact fnIn_mk (fd := f_is_round_paper) X Gn a14 l14 c14 k14 (fun _ _ _ _ _ _ us hl => match us, hl with | [_, _, _], _ => rfl) ck_is_round_paper
  · exact fnIn_mk (fd := f_law_is_paper) X Gn a15 l15 c15 k15 (fun _ _ _ _ _ _ us hl => match us, hl with | [_, _, _], _ => rfl) ck_law_is_paper
  · exact fnIn_mk (fd := f_law) X Gn a16 l16 c16 k16 (fun _ _ _ _ _ _ us hl => match us, hl with | [_], _ => rfl) ck_law
theorem all_mk {l : PySem.W.OpenLaw} {w : World} {K : PySem.W.Frag} {h : Heap} {mg : Str → Option Value} {fa : Addr} (X : K.In h) (Gn : h.Ns mainGlobals mg) (hfa : mg "law" = some (.ref fa)) {f0 : Addr} {od0 an0 : Option Addr} {sl0 : Array (Option Value)} {oc0 kV0 dc0 pm0 cd0 ct0 : Value} {f1 : Addr} {od1 an1 : Option Addr} {sl1 : Array (Option Value)} {oc1 kV1 dc1 pm1 cd1 ct1 : Value} {f2 : Addr} {od2 an2 : Option Addr} {sl2 : Array (Option Value)} {oc2 kV2 dc2 pm2 cd2 ct2 : Value} {f3 : Addr} {od3 an3 : Option Addr} {sl3 : Array (Option Value)} {oc3 kV3 dc3 pm3 cd3 ct3 : Value} {f4 : Addr} {od4 an4 : Option Addr} {sl4 : Array (Option Value)} {oc4 kV4 dc4 pm4 cd4 ct4 : Value} {f5 : Addr} {od5 an5 : Option Addr} {sl5 : Array (Option Value)} {oc5 kV5 dc5 pm5 cd5 ct5 : Value} {f6 : Addr} {od6 an6 : Option Addr} {sl6 : Array (Option Value)} {oc6 kV6 dc6 pm6 cd6 ct6 : Value} {f7 : Addr} {od7 an7 : Option Addr} {sl7 : Array (Option Value)} {oc7 kV7 dc7 pm7 cd7 ct7 : Value} {f8 : Addr} {od8 an8 : Option Addr} {sl8 : Array (Option Value)} {oc8 kV8 dc8 pm8 cd8 ct8 : Value} {f9 : Addr} {od9 an9 : Option Addr} {sl9 : Array (Option Value)} {oc9 kV9 dc9 pm9 cd9 ct9 : Value} {f10 : Addr} {od10 an10 : Option Addr} {sl10 : Array (Option Value)} {oc10 kV10 dc10 pm10 cd10 ct10 : Value} {f11 : Addr} {od11 an11 : Option Addr} {sl11 : Array (Option Value)} {oc11 kV11 dc11 pm11 cd11 ct11 : Value} {f12 : Addr} {od12 an12 : Option Addr} {sl12 : Array (Option Value)} {oc12 kV12 dc12 pm12 cd12 ct12 : Value} {f13 : Addr} {od13 an13 : Option Addr} {sl13 : Array (Option Value)} {oc13 kV13 dc13 pm13 cd13 ct13 : Value} {f14 : Addr} {od14 an14 : Option Addr} {sl14 : Array (Option Value)} {oc14 kV14 dc14 pm14 cd14 ct14 : Value} {f15 : Addr} {od15 an15 : Option Addr} {sl15 : Array (Option Value)} {oc15 kV15 dc15 pm15 cd15 ct15 : Value} {f16 : Addr} {od16 an16 : Option Addr} {sl16 : Array (Option Value)} {oc16 kV16 dc16 pm16 cd16 ct16 : Value} {t0 : Tok} {t1 : Tok}
    (a0 : PySem.W.nsIn K mainGlobals "_law_cup" = some (some (.ref f0))) (l0 : K.lookup f0 = some ⟨oc0, od0, .func (PySem.W.fnOf "_law_cup" "_law_cup" (defArgs (topS 19)) (defBody (topS 19)) (defScope (topS 19)) .none kV0 dc0 pm0 an0 cd0 ct0), sl0⟩) (c0 : PySem.W.codeIn K cd0 "_law_cup" = true) (k0 : PySem.W.keepIn K (.ref f0) = true)
    (a1 : PySem.W.nsIn K mainGlobals "_law_same" = some (some (.ref f1))) (l1 : K.lookup f1 = some ⟨oc1, od1, .func (PySem.W.fnOf "_law_same" "_law_same" (defArgs (topS 21)) (defBody (topS 21)) (defScope (topS 21)) .none kV1 dc1 pm1 an1 cd1 ct1), sl1⟩) (c1 : PySem.W.codeIn K cd1 "_law_same" = true) (k1 : PySem.W.keepIn K (.ref f1) = true)
    (a2 : PySem.W.nsIn K mainGlobals "_law_roll" = some (some (.ref f2))) (l2 : K.lookup f2 = some ⟨oc2, od2, .func (PySem.W.fnOf "_law_roll" "_law_roll" (defArgs (topS 20)) (defBody (topS 20)) (defScope (topS 20)) .none kV2 dc2 pm2 an2 cd2 ct2), sl2⟩) (c2 : PySem.W.codeIn K cd2 "_law_roll" = true) (k2 : PySem.W.keepIn K (.ref f2) = true)
    (a3 : PySem.W.nsIn K mainGlobals "_law_turned" = some (some (.ref f3))) (l3 : K.lookup f3 = some ⟨oc3, od3, .func (PySem.W.fnOf "_law_turned" "_law_turned" (defArgs (topS 22)) (defBody (topS 22)) (defScope (topS 22)) .none kV3 dc3 pm3 an3 cd3 ct3), sl3⟩) (c3 : PySem.W.codeIn K cd3 "_law_turned" = true) (k3 : PySem.W.keepIn K (.ref f3) = true)
    (a4 : PySem.W.nsIn K mainGlobals "_law_rack" = some (some (.ref f4))) (l4 : K.lookup f4 = some ⟨oc4, od4, .func (PySem.W.fnOf "_law_rack" "_law_rack" (defArgs (topS 23)) (defBody (topS 23)) (defScope (topS 23)) .none kV4 dc4 pm4 an4 cd4 ct4), sl4⟩) (c4 : PySem.W.codeIn K cd4 "_law_rack" = true) (k4 : PySem.W.keepIn K (.ref f4) = true)
    (a5 : PySem.W.nsIn K mainGlobals "is_tuple_of" = some (some (.ref f5))) (l5 : K.lookup f5 = some ⟨oc5, od5, .func (PySem.W.fnOf "is_tuple_of" "is_tuple_of" (defArgs (topS 6)) (defBody (topS 6)) (defScope (topS 6)) .none kV5 dc5 pm5 an5 cd5 ct5), sl5⟩) (c5 : PySem.W.codeIn K cd5 "is_tuple_of" = true) (k5 : PySem.W.keepIn K (.ref f5) = true)
    (a6 : PySem.W.nsIn K mainGlobals "is_whole" = some (some (.ref f6))) (l6 : K.lookup f6 = some ⟨oc6, od6, .func (PySem.W.fnOf "is_whole" "is_whole" (defArgs (topS 5)) (defBody (topS 5)) (defScope (topS 5)) .none kV6 dc6 pm6 an6 cd6 ct6), sl6⟩) (c6 : PySem.W.codeIn K cd6 "is_whole" = true) (k6 : PySem.W.keepIn K (.ref f6) = true)
    (a7 : PySem.W.nsIn K mainGlobals "fits_rack" = some (some (.ref f7))) (l7 : K.lookup f7 = some ⟨oc7, od7, .func (PySem.W.fnOf "fits_rack" "fits_rack" (defArgs (topS 10)) (defBody (topS 10)) (defScope (topS 10)) .none kV7 dc7 pm7 an7 cd7 ct7), sl7⟩) (c7 : PySem.W.codeIn K cd7 "fits_rack" = true) (k7 : PySem.W.keepIn K (.ref f7) = true)
    (a8 : PySem.W.nsIn K mainGlobals "need_rack" = some (some (.ref f8))) (l8 : K.lookup f8 = some ⟨oc8, od8, .func (PySem.W.fnOf "need_rack" "need_rack" (defArgs (topS 11)) (defBody (topS 11)) (defScope (topS 11)) .none kV8 dc8 pm8 an8 cd8 ct8), sl8⟩) (c8 : PySem.W.codeIn K cd8 "need_rack" = true) (k8 : PySem.W.keepIn K (.ref f8) = true)
    (a9 : PySem.W.nsIn K mainGlobals "goes_to" = some (some (.ref f9))) (l9 : K.lookup f9 = some ⟨oc9, od9, .func (PySem.W.fnOf "goes_to" "goes_to" (defArgs (topS 12)) (defBody (topS 12)) (defScope (topS 12)) .none kV9 dc9 pm9 an9 cd9 ct9), sl9⟩) (c9 : PySem.W.codeIn K cd9 "goes_to" = true) (k9 : PySem.W.keepIn K (.ref f9) = true)
    (a10 : PySem.W.nsIn K mainGlobals "rounds_in" = some (some (.ref f10))) (l10 : K.lookup f10 = some ⟨oc10, od10, .func (PySem.W.fnOf "rounds_in" "rounds_in" (defArgs (topS 13)) (defBody (topS 13)) (defScope (topS 13)) .none kV10 dc10 pm10 an10 cd10 ct10), sl10⟩) (c10 : PySem.W.codeIn K cd10 "rounds_in" = true) (k10 : PySem.W.keepIn K (.ref f10) = true)
    (a11 : PySem.W.nsIn K mainGlobals "fewest" = some (some (.ref f11))) (l11 : K.lookup f11 = some ⟨oc11, od11, .func (PySem.W.fnOf "fewest" "fewest" (defArgs (topS 15)) (defBody (topS 15)) (defScope (topS 15)) .none kV11 dc11 pm11 an11 cd11 ct11), sl11⟩) (c11 : PySem.W.codeIn K cd11 "fewest" = true) (k11 : PySem.W.keepIn K (.ref f11) = true)
    (a12 : PySem.W.nsIn K mainGlobals "round_paper" = some (some (.ref f12))) (l12 : K.lookup f12 = some ⟨oc12, od12, .func (PySem.W.fnOf "round_paper" "round_paper" (defArgs (topS 16)) (defBody (topS 16)) (defScope (topS 16)) .none kV12 dc12 pm12 an12 cd12 ct12), sl12⟩) (c12 : PySem.W.codeIn K cd12 "round_paper" = true) (k12 : PySem.W.keepIn K (.ref f12) = true)
    (a13 : PySem.W.nsIn K mainGlobals "rounds" = some (some (.ref f13))) (l13 : K.lookup f13 = some ⟨oc13, od13, .func (PySem.W.fnOf "rounds" "rounds" (defArgs (topS 14)) (defBody (topS 14)) (defScope (topS 14)) .none kV13 dc13 pm13 an13 cd13 ct13), sl13⟩) (c13 : PySem.W.codeIn K cd13 "rounds" = true) (k13 : PySem.W.keepIn K (.ref f13) = true)
    (a14 : PySem.W.nsIn K mainGlobals "is_round_paper" = some (some (.ref f14))) (l14 : K.lookup f14 = some ⟨oc14, od14, .func (PySem.W.fnOf "is_round_paper" "is_round_paper" (defArgs (topS 17)) (defBody (topS 17)) (defScope (topS 17)) .none kV14 dc14 pm14 an14 cd14 ct14), sl14⟩) (c14 : PySem.W.codeIn K cd14 "is_round_paper" = true) (k14 : PySem.W.keepIn K (.ref f14) = true)
    (a15 : PySem.W.nsIn K mainGlobals "_law_is_paper" = some (some (.ref f15))) (l15 : K.lookup f15 = some ⟨oc15, od15, .func (PySem.W.fnOf "_law_is_paper" "_law_is_paper" (defArgs (topS 24)) (defBody (topS 24)) (defScope (topS 24)) .none kV15 dc15 pm15 an15 cd15 ct15), sl15⟩) (c15 : PySem.W.codeIn K cd15 "_law_is_paper" = true) (k15 : PySem.W.keepIn K (.ref f15) = true)
    (a16 : PySem.W.nsIn K mainGlobals "law" = some (some (.ref f16))) (l16 : K.lookup f16 = some ⟨oc16, od16, .func (PySem.W.fnOf "law" "law" (defArgs (topS 25)) (defBody (topS 25)) (defScope (topS 25)) .none kV16 dc16 pm16 an16 cd16 ct16), sl16⟩) (c16 : PySem.W.codeIn K cd16 "law" = true) (k16 : PySem.W.keepIn K (.ref f16) = true)
    (z0 : PySem.W.nsIn K mainGlobals "len" = some none) (z1 : PySem.W.nsIn K mainGlobals "abs" = some none) (z2 : PySem.W.nsIn K mainGlobals "int" = some none) (z3 : PySem.W.nsIn K mainGlobals "tuple" = some none) (z4 : PySem.W.nsIn K mainGlobals "all" = some none) (z5 : PySem.W.nsIn K mainGlobals "any" = some none) (z6 : PySem.W.nsIn K mainGlobals "sum" = some none) (z7 : PySem.W.nsIn K mainGlobals "min" = some none) (z8 : PySem.W.nsIn K mainGlobals "max" = some none) (z9 : PySem.W.nsIn K mainGlobals "str" = some none) (z10 : PySem.W.nsIn K mainGlobals "bool" = some none) (z11 : PySem.W.nsIn K mainGlobals "list" = some none) (z12 : PySem.W.nsIn K mainGlobals "isinstance" = some none) (z13 : PySem.W.nsIn K mainGlobals "range" = some none) (z14 : PySem.W.nsIn K mainGlobals "enumerate" = some none) (z15 : PySem.W.nsIn K mainGlobals "zip" = some none) (z16 : PySem.W.nsIn K mainGlobals "sorted" = some none) (z17 : PySem.W.nsIn K mainGlobals "set" = some none) (z18 : PySem.W.nsIn K mainGlobals "dict" = some none) (z19 : PySem.W.nsIn K mainGlobals "repr" = some none) (y0 : PySem.W.nsIn K mainGlobals "PEGS" = some (some (.int 7 t0))) (y1 : PySem.W.nsIn K mainGlobals "MOVES" = some (some (.int 30 t1))) 
    (law : ∀ ns : List Int, ns.length ≤ 63 → runP (phi T G 1000 7) G 1000 f_law [.scr ns] = some (.bl true)) :
    ∃ fd : FuncData, (∀ (s : Shared) (v : Value), BindsTo s fd ⟨[v], []⟩ [(("script" : Str), v)]) ∧ ∀ base : Heap, K.In base → base.Ns mainGlobals mg → FnOk l.prog w K mg base CX0 8 fa fd [("script" : Str)] (Sh.spLaw K 63) := by
  have hc : ∀ (g : Nat) (x : Str), T.cons[g]? = some (some x) → ∃ u v, mg x = some u ∧ RelV v u ∧ ∀ H, Rep (⟨K, w⟩ : KW) H (G g) v := by
    intro g x hg
    cases g with
    | zero => cases hg; exact con_int X Gn y0
    | succ g =>
    cases g with
    | zero => cases hg; exact con_int X Gn y1
    | succ g =>
    cases g with
    | zero => cases hg
    | succ g =>
    cases hg
  exact law_end (T := T) (G := G) (k := 8) (N := 1000) (n := 63) (g := 16) (gd := f_law) ⟨hc, blt_mk X Gn z0 z1 z2 z3 z4 z5 z6 z7 z8 z9 z10 z11 z12 z13 z14 z15 z16 z17 z18 z19, fun hh => by cases hh⟩
    (fnsIn X Gn a0 l0 c0 k0 a1 l1 c1 k1 a2 l2 c2 k2 a3 l3 c3 k3 a4 l4 c4 k4 a5 l5 c5 k5 a6 l6 c6 k6 a7 l7 c7 k7 a8 l8 c8 k8 a9 l9 c9 k9 a10 l10 c10 k10 a11 l11 c11 k11 a12 l12 c12 k12 a13 l13 c13 k13 a14 l14 c14 k14 a15 l15 c15 k15 a16 l16 c16 k16) rfl hfa rfl fun ns hl => ⟨_, rfl, law ns hl⟩
end L73

/-! law 73: the paper of the law -/
namespace L73
open PySem PySem.Spec PyProof.Rows L2 Sh Shoe
theorem fold_app : ∀ (P : List (List Nat)) (F : List Nat), P.foldl (fun a r => a ++ r) F = F ++ P.flatten
  | [], F => by simp
  | r :: P, F => by rw [List.foldl_cons, fold_app P, List.flatten_cons, List.append_assoc]
theorem len_encP (P : List (List Nat)) : bifD .len [encP P] = some (.int P.length) := by
  show some (D.int ((P.map row).length : Nat)) = _
  rw [List.length_map]
theorem sp_lip {N : Nat} (Φ : Nat → FSpec) {R : Rk} (o : RackOk R) {m : Nat} {P : List (List Nat)} (hP : Fit R.length P) :
    runP Φ G N f_law_is_paper [encR R, .int m, encP P] = some (.bl (paperB R m P)) := by
  have h7' := o.seven
  have fl := hP.flen h7'
  have hq := for_q (Φ := Φ) (G := G) (N := N) (p := .nm 4) (it := .var 2) (body := b_law_is_paper_l1) (env := [some (.d (encR R)), some (.d (.int m)), some (.d (encP P)), some (.d (.lst (nats []))), none, none, none]) (h := []) (x := encP P) row
    (fun F => [some (.d (encR R)), some (.d (.int m)), some (.d (encP P)), some (.d (.lst (nats F))), none, none, none]) (fun _ => []) (fun F r => F ++ r) (closedB (fn R)) (.d (.bl false))
    (fun rest F => F.length + rest.flatten.length ≤ 98 ∧ ∀ r ∈ rest, r.length ≤ R.length ∧ ∀ x ∈ r, x < R.length) P [] rfl rfl rfl ⟨by simpa using fl, fun r hr => ⟨hP.len r hr, hP.lt r hr⟩⟩
    (fun F r rest ⟨h1, h2⟩ => by
      obtain ⟨hrl, hrx⟩ := h2 r List.mem_cons_self
      rw [List.flatten_cons, List.length_append] at h1
      have hadd : (nats F).length + (nats r).length ≤ line := by rw [List.length_map, List.length_map, line_lit]; omega
      have e0 : nats (F ++ r) = nats F ++ nats r := by simp only [nats, List.map_append]
      have hz : evE Φ G (.zip (.var 4) (.bin .add (.sl (.var 4) (.cons (.lit (.int 1)) .nil) .nil) (.sl (.var 4) .nil (.cons (.lit (.int 1)) .nil)))) [some (.d (encR R)), some (.d (.int m)), some (.d (encP P)), some (.d (.lst (nats (F ++ r)))), some (.d (row r)), none, none] [] = some (.d (.lst ((r.zip (turnR r)).map pegD)), []) := by
        have h1 : (List.drop 1 (nats r)).length + (List.take 1 (nats r)).length ≤ line := by
          rw [line_lit, List.length_drop, List.length_take, List.length_map]; omega
        have h2 : nats (turnR r) = (nats r).drop 1 ++ (nats r).take 1 := by simp only [nats, turnR, List.map_append, List.map_drop, List.map_take]
        simp only [envAt, evSs, evS, evE, evEs, evIf, evPart, evC, mkL, valsD, valD, pureL, ixW, ixD, setsE, unsetE, Pat.bind, Sh.bindL, dTy, isD, isNon, List.map_cons, List.map_nil, List.length_cons, List.length_nil, List.getElem?_cons_zero, List.getElem?_cons_succ, List.set_cons_zero, List.set_cons_succ, List.replicate, List.cons_append, List.nil_append, Option.bind_eq_bind, Option.bind_some, Option.map_some, Bool.not_true, Bool.not_false, if_true, if_false, reduceIte, Bool.false_eq_true, reduceCtorEq, Nat.reduceAdd, Nat.reduceSub, Nat.reduceLeDiff, zeroW, cellArg, Option.isSome_some, line_lit, Bool.and_self, Bool.true_and, Bool.and_true, Bool.false_and, Bool.and_false, Bool.or_true, Bool.true_or, Bool.or_false, Bool.false_or, Int.natAbs_natCast, Int.cast_ofNat_Int, Int.reduceLE, Int.reduceLT, Int.reduceEq, decide_true, decide_false, Nat.reduceLT, Nat.reduceEqDiff, List.length_nil, wipeE, eq_self, slD, cut_1n, cut_n1, b_addT h1, ← h2, seqD, zip_nats pegD (fun _ => rfl)]
      have hi := for_q (Φ := Φ) (G := G) (N := N) (p := .tup [5, 6]) (it := (.zip (.var 4) (.bin .add (.sl (.var 4) (.cons (.lit (.int 1)) .nil) .nil) (.sl (.var 4) .nil (.cons (.lit (.int 1)) .nil))))) (body := b_law_is_paper_l0) (env := [some (.d (encR R)), some (.d (.int m)), some (.d (encP P)), some (.d (.lst (nats (F ++ r)))), some (.d (row r)), none, none]) (h := []) pegD
        (fun (_ : Unit) => [some (.d (encR R)), some (.d (.int m)), some (.d (encP P)), some (.d (.lst (nats (F ++ r)))), some (.d (row r)), none, none]) (fun _ => []) (fun a _ => a) (fun p : Nat × Nat => decide (fn R p.1 = p.2)) (.d (.bl false)) (fun rest _ => ∀ p ∈ rest, p.1 < R.length ∧ p.2 < R.length) (r.zip (turnR r)) () hz rfl rfl
        (fun p hp => by
          have := List.of_mem_zip (a := p.1) (b := p.2) hp
          exact ⟨hrx _ this.1, hrx _ ((turnR_perm r).mem_iff.mp this.2)⟩)
        (fun _ p rest hp => by
          obtain ⟨q1, q2⟩ := hp p List.mem_cons_self
          have i1 : ixD (encR R) (.int p.1) = some (pegD (R[p.1]'q1)) := Sh.atI_nat (by rw [List.getElem?_map, List.getElem?_eq_getElem q1]; rfl)
          have i2 : ixD (encR R) (.int p.2) = some (pegD (R[p.2]'q2)) := Sh.atI_nat (by rw [List.getElem?_map, List.getElem?_eq_getElem q2]; rfl)
          have i3 : ∀ q : Nat × Nat, ixD (pegD q) (.int 1) = some (.int q.2) := fun q => rfl
          have i4 : ∀ q : Nat × Nat, ixD (pegD q) (.int 0) = some (.int q.1) := fun q => rfl
          have hd : decide ((((R[p.1]'q1).2 : Nat) : Int) = ((R[p.2]'q2).1 : Nat)) = decide (fn R p.1 = p.2) := decide_eq_decide.mpr (Int.ofNat_inj.trans (fn_iff o q1 q2).symm)
          refine ⟨_, rfl, fun g => ⟨?_, fun p hp' => hp p (List.mem_cons_of_mem _ hp')⟩, fun g => ⟨[], ?_⟩⟩
          · rw [g] at hd
            unfold b_law_is_paper_l0
            refine g_no (h1 := []) (by simp only [envAt, evSs, evS, evE, evEs, evIf, evPart, evC, mkL, valsD, valD, pureL, ixW, setsE, unsetE, Pat.bind, Sh.bindL, dTy, isD, isNon, List.map_cons, List.map_nil, List.length_cons, List.length_nil, List.getElem?_cons_zero, List.getElem?_cons_succ, List.set_cons_zero, List.set_cons_succ, List.replicate, List.cons_append, List.nil_append, Option.bind_eq_bind, Option.bind_some, Option.map_some, Bool.not_true, Bool.not_false, if_true, if_false, reduceIte, Bool.false_eq_true, reduceCtorEq, Nat.reduceAdd, Nat.reduceSub, Nat.reduceLeDiff, zeroW, cellArg, Option.isSome_some, line_lit, Bool.and_self, Bool.true_and, Bool.and_true, Bool.false_and, Bool.and_false, Bool.or_true, Bool.true_or, Bool.or_false, Bool.false_or, Int.natAbs_natCast, Int.cast_ofNat_Int, Int.reduceLE, Int.reduceLT, Int.reduceEq, decide_true, decide_false, Nat.reduceLT, Nat.reduceEqDiff, List.length_nil, wipeE, eq_self, i1, i2, i3, i4, b_neI, hd]) rfl
          · rw [g] at hd
            unfold b_law_is_paper_l0
            exact g_yes (h1 := []) (by simp only [envAt, evSs, evS, evE, evEs, evIf, evPart, evC, mkL, valsD, valD, pureL, ixW, setsE, unsetE, Pat.bind, Sh.bindL, dTy, isD, isNon, List.map_cons, List.map_nil, List.length_cons, List.length_nil, List.getElem?_cons_zero, List.getElem?_cons_succ, List.set_cons_zero, List.set_cons_succ, List.replicate, List.cons_append, List.nil_append, Option.bind_eq_bind, Option.bind_some, Option.map_some, Bool.not_true, Bool.not_false, if_true, if_false, reduceIte, Bool.false_eq_true, reduceCtorEq, Nat.reduceAdd, Nat.reduceSub, Nat.reduceLeDiff, zeroW, cellArg, Option.isSome_some, line_lit, Bool.and_self, Bool.true_and, Bool.and_true, Bool.false_and, Bool.and_false, Bool.or_true, Bool.true_or, Bool.or_false, Bool.false_or, Int.natAbs_natCast, Int.cast_ofNat_Int, Int.reduceLE, Int.reduceLT, Int.reduceEq, decide_true, decide_false, Nat.reduceLT, Nat.reduceEqDiff, List.length_nil, wipeE, eq_self, i1, i2, i3, i4, b_neI, hd]) (g_ret (by simp only [envAt, evSs, evS, evE, evEs, evIf, evPart, evC, mkL, valsD, valD, pureL, ixW, ixD, setsE, unsetE, Pat.bind, Sh.bindL, dTy, isD, isNon, List.map_cons, List.map_nil, List.length_cons, List.length_nil, List.getElem?_cons_zero, List.getElem?_cons_succ, List.set_cons_zero, List.set_cons_succ, List.replicate, List.cons_append, List.nil_append, Option.bind_eq_bind, Option.bind_some, Option.map_some, Bool.not_true, Bool.not_false, if_true, if_false, reduceIte, Bool.false_eq_true, reduceCtorEq, Nat.reduceAdd, Nat.reduceSub, Nat.reduceLeDiff, zeroW, cellArg, Option.isSome_some, line_lit, Bool.and_self, Bool.true_and, Bool.and_true, Bool.false_and, Bool.and_false, Bool.or_true, Bool.true_or, Bool.or_false, Bool.false_or, Int.natAbs_natCast, Int.cast_ofNat_Int, Int.reduceLE, Int.reduceLT, Int.reduceEq, decide_true, decide_false, Nat.reduceLT, Nat.reduceEqDiff, List.length_nil, wipeE, eq_self])))
      have hstart : evE Φ G (.bin .add (.var 3) (.mkl false (.ofl (.var 4)))) [some (.d (encR R)), some (.d (.int m)), some (.d (encP P)), some (.d (.lst (nats F))), some (.d (row r)), none, none] [] = some (.d (.lst (nats (F ++ r))), []) := by
        simp only [envAt, evSs, evS, evE, evEs, evIf, evPart, evC, mkL, valsD, valD, pureL, ixW, ixD, setsE, unsetE, Pat.bind, Sh.bindL, dTy, isD, isNon, List.map_cons, List.map_nil, List.length_cons, List.length_nil, List.getElem?_cons_zero, List.getElem?_cons_succ, List.set_cons_zero, List.set_cons_succ, List.replicate, List.cons_append, List.nil_append, Option.bind_eq_bind, Option.bind_some, Option.map_some, Bool.not_true, Bool.not_false, if_true, if_false, reduceIte, Bool.false_eq_true, reduceCtorEq, Nat.reduceAdd, Nat.reduceSub, Nat.reduceLeDiff, zeroW, cellArg, Option.isSome_some, line_lit, Bool.and_self, Bool.true_and, Bool.and_true, Bool.false_and, Bool.and_false, Bool.or_true, Bool.true_or, Bool.or_false, Bool.false_or, Int.natAbs_natCast, Int.cast_ofNat_Int, Int.reduceLE, Int.reduceLT, Int.reduceEq, decide_true, decide_false, Nat.reduceLT, Nat.reduceEqDiff, List.length_nil, wipeE, eq_self, pureL_ds, b_addL hadd, e0]
      refine ⟨_, rfl, fun g => ⟨?_, ?_, fun x hx => h2 x (List.mem_cons_of_mem _ hx)⟩, fun g => ?_⟩
      · unfold b_law_is_paper_l1
        refine g_nm hstart ?_
        exact g_s (s := l_law_is_paper_0) (hi.1 g).1 rfl
      · rw [List.length_append]; omega
      · obtain ⟨hh, e⟩ := hi.2 g
        refine ⟨hh, ?_⟩
        unfold b_law_is_paper_l1
        refine g_nm hstart ?_
        exact g_rt (s := l_law_is_paper_0) e)
  cases hC : P.all (closedB (fn R)) with
  | false =>
    obtain ⟨hh, e⟩ := hq.2 hC
    have e2 : paperB R m P = false := by simp only [paperB, hC, Bool.and_false, Bool.false_and]
    rw [e2]
    refine run_rt (hh := hh) rfl ?_
    show evSs _ G N b_law_is_paper [some (.d (encR R)), some (.d (.int m)), some (.d (encP P)), none, none, none, none] [] = _
    unfold b_law_is_paper
    refine g_nm (h1 := []) (w := .d (.lst (nats []))) (by simp only [envAt, evSs, evS, evE, evEs, evIf, evPart, evC, mkL, valsD, valD, pureL, ixW, ixD, setsE, unsetE, Pat.bind, Sh.bindL, dTy, isD, isNon, List.map_cons, List.map_nil, List.length_cons, List.length_nil, List.getElem?_cons_zero, List.getElem?_cons_succ, List.set_cons_zero, List.set_cons_succ, List.replicate, List.cons_append, List.nil_append, Option.bind_eq_bind, Option.bind_some, Option.map_some, Bool.not_true, Bool.not_false, if_true, if_false, reduceIte, Bool.false_eq_true, reduceCtorEq, Nat.reduceAdd, Nat.reduceSub, Nat.reduceLeDiff, zeroW, cellArg, Option.isSome_some, line_lit, Bool.and_self, Bool.true_and, Bool.and_true, Bool.false_and, Bool.and_false, Bool.or_true, Bool.true_or, Bool.or_false, Bool.false_or, Int.natAbs_natCast, Int.cast_ofNat_Int, Int.reduceLE, Int.reduceLT, Int.reduceEq, decide_true, decide_false, Nat.reduceLT, Nat.reduceEqDiff, List.length_nil, wipeE, eq_self]) ?_
    exact g_rt (s := l_law_is_paper_1) e
  | true =>
    have e := (hq.1 hC).1
    rw [fold_app, List.nil_append] at e
    have hrng : rngD [.int R.length] = some (nats (List.range R.length)) := rng_n (by omega)
    have hs : bifD .sorted [.lst (nats P.flatten)] = some (.lst ((sortI (P.flatten.map fun (i : Nat) => (i : Int))).map D.int)) := by
      rw [nats_ints]
      exact f_sortL (by rw [List.length_map, line_lit]; omega)
    have hq := eq_once R.length P.flatten
    have hge : decide ((R.length : Int) - P.length ≥ m) = decide (m + P.length ≤ R.length) := decide_eq_decide.mpr (by omega)
    refine run_rt (hh := []) rfl ?_
    show evSs _ G N b_law_is_paper [some (.d (encR R)), some (.d (.int m)), some (.d (encP P)), none, none, none, none] [] = _
    unfold b_law_is_paper
    refine g_nm (h1 := []) (w := .d (.lst (nats []))) (by simp only [envAt, evSs, evS, evE, evEs, evIf, evPart, evC, mkL, valsD, valD, pureL, ixW, ixD, setsE, unsetE, Pat.bind, Sh.bindL, dTy, isD, isNon, List.map_cons, List.map_nil, List.length_cons, List.length_nil, List.getElem?_cons_zero, List.getElem?_cons_succ, List.set_cons_zero, List.set_cons_succ, List.replicate, List.cons_append, List.nil_append, Option.bind_eq_bind, Option.bind_some, Option.map_some, Bool.not_true, Bool.not_false, if_true, if_false, reduceIte, Bool.false_eq_true, reduceCtorEq, Nat.reduceAdd, Nat.reduceSub, Nat.reduceLeDiff, zeroW, cellArg, Option.isSome_some, line_lit, Bool.and_self, Bool.true_and, Bool.and_true, Bool.false_and, Bool.and_false, Bool.or_true, Bool.true_or, Bool.or_false, Bool.false_or, Int.natAbs_natCast, Int.cast_ofNat_Int, Int.reduceLE, Int.reduceLT, Int.reduceEq, decide_true, decide_false, Nat.reduceLT, Nat.reduceEqDiff, List.length_nil, wipeE, eq_self]) ?_
    refine g_s (s := l_law_is_paper_1) e ?_
    refine g_ret ?_
    cases hO : onceB R.length P.flatten with
    | false => rw [hO] at hq; simp only [envAt, evSs, evS, evE, evEs, evIf, evPart, evC, mkL, valsD, valD, pureL, ixW, ixD, setsE, unsetE, Pat.bind, Sh.bindL, dTy, isD, isNon, List.map_cons, List.map_nil, List.length_cons, List.length_nil, List.getElem?_cons_zero, List.getElem?_cons_succ, List.set_cons_zero, List.set_cons_succ, List.replicate, List.cons_append, List.nil_append, Option.bind_eq_bind, Option.bind_some, Option.map_some, Bool.not_true, Bool.not_false, if_true, if_false, reduceIte, Bool.false_eq_true, reduceCtorEq, Nat.reduceAdd, Nat.reduceSub, Nat.reduceLeDiff, zeroW, cellArg, Option.isSome_some, line_lit, Bool.and_self, Bool.true_and, Bool.and_true, Bool.false_and, Bool.and_false, Bool.or_true, Bool.true_or, Bool.or_false, Bool.false_or, Int.natAbs_natCast, Int.cast_ofNat_Int, Int.reduceLE, Int.reduceLT, Int.reduceEq, decide_true, decide_false, Nat.reduceLT, Nat.reduceEqDiff, List.length_nil, wipeE, eq_self, hs, f_lenR, hrng, pureL_ds, hq, paperB, hO]
    | true => rw [hO] at hq; simp only [envAt, evSs, evS, evE, evEs, evIf, evPart, evC, mkL, valsD, valD, pureL, ixW, ixD, setsE, unsetE, Pat.bind, Sh.bindL, dTy, isD, isNon, List.map_cons, List.map_nil, List.length_cons, List.length_nil, List.getElem?_cons_zero, List.getElem?_cons_succ, List.set_cons_zero, List.set_cons_succ, List.replicate, List.cons_append, List.nil_append, Option.bind_eq_bind, Option.bind_some, Option.map_some, Bool.not_true, Bool.not_false, if_true, if_false, reduceIte, Bool.false_eq_true, reduceCtorEq, Nat.reduceAdd, Nat.reduceSub, Nat.reduceLeDiff, zeroW, cellArg, Option.isSome_some, line_lit, Bool.and_self, Bool.true_and, Bool.and_true, Bool.false_and, Bool.and_false, Bool.or_true, Bool.true_or, Bool.or_false, Bool.false_or, Int.natAbs_natCast, Int.cast_ofNat_Int, Int.reduceLE, Int.reduceLT, Int.reduceEq, decide_true, decide_false, Nat.reduceLT, Nat.reduceEqDiff, List.length_nil, wipeE, eq_self, hs, f_lenR, hrng, pureL_ds, hq, paperB, hO, hC, len_encP, b_subI, b_geI, hge]
end L73

/-! law 73: the law in plain Lean -/
namespace L73
open PySem PySem.Spec PyProof.Rows L2 Sh Shoe
theorem H5 : Has_is_tuple_of T := rfl
theorem H6 : Has_is_whole T := rfl
theorem H7 : Has_fits_rack T := rfl
theorem H8 : Has_need_rack T := rfl
theorem H9 : Has_goes_to T := rfl
theorem H10 : Has_rounds_in T := rfl
theorem HR {N : Nat} (k : Nat) : RollAt (phi T G N (k + 1)) 2 := roll_at (T := T) (i := 2) (nm := "_law_roll") (p := 30893) (q := 7883) (r := 2147483399) (s := 239) (t := 2147483563) (u := 823) rfl (b64_of (by decide)) (by decide) (by decide) (by decide) k
def le (scr : List Int) (t r f s m td b a w vs od : Option W) : Sh.Env := [some (.d (.scr scr)), some (.ref 0), t, r, f, s, m, td, b, a, w, vs, none, none, od, none, none, none, none]
theorem rev_encP (P : List (List Nat)) : revD (encP P) = some (encP P.reverse) := by
  show some (D.tup (P.map row).reverse) = some (D.tup (P.reverse.map row))
  rw [List.map_reverse]
theorem lo_encP (P : List (List Nat)) {k : Nat} (h : k ≤ P.length) : slD (encP P) (some (k : Int)) none = some (encP (P.drop k)) := by
  show some (D.tup (cutL (P.map row) (some (k : Int)) none)) = some (D.tup ((P.drop k).map row))
  rw [cut_hi _ (by rw [List.length_map]; exact h), List.map_drop]
theorem hi_encP (P : List (List Nat)) {k : Nat} (h : k ≤ P.length) : slD (encP P) none (some (k : Int)) = some (encP (P.take k)) := by
  show some (D.tup (cutL (P.map row) none (some (k : Int)))) = some (D.tup ((P.take k).map row))
  rw [cut_lo _ (by rw [List.length_map]; exact h), List.map_take]
theorem add_encP {P Q : List (List Nat)} (h : P.length + Q.length ≤ 14) : binD .add (encP P) (encP Q) = some (encP (P ++ Q)) := by
  show binD .add (.tup (P.map row)) (.tup (Q.map row)) = some (D.tup ((P ++ Q).map row))
  rw [b_addT (by rw [List.length_map, List.length_map, line_lit]; omega), List.map_append]
def Gd (n : Nat) (r : List Nat) : Prop := r ≠ [] ∧ r.length ≤ n ∧ ∀ x ∈ r, x < n
theorem fit_of {n : Nat} {P : List (List Nat)} (h : ∀ r ∈ P, Gd n r) (hl : P.length ≤ 14) : Fit n P := ⟨fun r hr => (h r hr).1, fun r hr => (h r hr).2.1, fun r hr => (h r hr).2.2, hl⟩
theorem gd_bas {R : Rk} (o : RackOk R) : ∀ r ∈ bas R, Gd R.length r := fun r hr => by
  have p := rounds_pap (rack_pm o)
  exact ⟨p.ne r hr, p.rlen r hr, p.lt r hr⟩
theorem gd_perm {n : Nat} {r s : List Nat} (h : Gd n r) (p : s.Perm r) : Gd n s := ⟨fun e => h.1 (by subst e; exact p.symm.eq_nil), by rw [p.length_eq]; exact h.2.1, fun x hx => h.2.2 x (p.mem_iff.mp hx)⟩
theorem bas_len {R : Rk} (o : RackOk R) : 1 ≤ (bas R).length ∧ (bas R).length ≤ 7 := by
  have p := rounds_pap (rack_pm o)
  have h7 := o.seven
  refine ⟨?_, Nat.le_trans p.plen h7⟩
  cases hb : bas R with
  | nil =>
    have := p.flen
    unfold bas at hb
    rw [hb] at this
    have := o.pos
    simp at *; omega
  | cons a l => rw [List.length_cons]; omega
/-- the values that are asked of -/
def vals (R : Rk) (at_ : Nat) (l : List Nat) : List (List (List Nat)) := [bas R, (bas R).reverse, (bas R).drop 1, bas R ++ (bas R).take 1, (bas R).map turnR, [List.range R.length], (List.range R.length).map fun i => [i], ((bas R).take at_ ++ [((bas R).getD at_ []).reverse]) ++ (bas R).drop (at_ + 1), [l]]
theorem vals_fit {R : Rk} (o : RackOk R) {at_ : Nat} (ha : at_ < (bas R).length) {l : List Nat} (hl : l.Perm (List.range R.length)) : ∀ P ∈ vals R at_ l, Fit R.length P := by
  have hb := gd_bas o
  obtain ⟨b1, b2⟩ := bas_len o
  have hr : Gd R.length (List.range R.length) := ⟨by have := o.pos; rw [ne_eq, ← List.length_eq_zero_iff, List.length_range]; omega, by rw [List.length_range]; exact Nat.le_refl _, fun x hx => List.mem_range.mp hx⟩
  intro P hP
  simp only [vals, List.mem_cons, List.not_mem_nil, or_false] at hP
  rcases hP with rfl | rfl | rfl | rfl | rfl | rfl | rfl | rfl | rfl
  · exact fit_of hb (by omega)
  · exact fit_of (fun r hr => hb r (List.mem_reverse.mp hr)) (by rw [List.length_reverse]; omega)
  · exact fit_of (fun r hr => hb r (List.mem_of_mem_drop hr)) (by rw [List.length_drop]; omega)
  · refine fit_of (fun r hr => ?_) (by rw [List.length_append, List.length_take]; omega)
    rcases List.mem_append.mp hr with h | h
    · exact hb r h
    · exact hb r (List.mem_of_mem_take h)
  · refine fit_of (fun r hr => ?_) (by rw [List.length_map]; omega)
    obtain ⟨r', h, rfl⟩ := List.mem_map.mp hr
    exact gd_perm (hb r' h) (turnR_perm r')
  · exact fit_of (fun r h => by rw [List.mem_singleton.mp h]; exact hr) (by simp)
  · refine fit_of (fun r h => ?_) (by rw [List.length_map, List.length_range]; have := o.seven; omega)
    obtain ⟨i, hi, rfl⟩ := List.mem_map.mp h
    have := List.mem_range.mp hi
    exact ⟨by simp, by simp; omega, fun x hx => by rw [List.mem_singleton.mp hx]; exact this⟩
  · refine fit_of (fun r hr => ?_) (by simp only [List.length_append, List.length_take, List.length_cons, List.length_nil, List.length_drop]; omega)
    rcases List.mem_append.mp hr with h | h
    · rcases List.mem_append.mp h with h | h
      · exact hb r (List.mem_of_mem_take h)
      · rw [List.mem_singleton.mp h]
        refine gd_perm (hb _ ?_) (List.reverse_perm _)
        rw [List.getD_eq_getElem?_getD, List.getElem?_eq_getElem ha]
        exact List.getElem_mem ha
    · exact hb r (List.mem_of_mem_drop h)
  · exact fit_of (fun r h => by rw [List.mem_singleton.mp h]; exact gd_perm hr hl) (by simp)
section
variable {N : Nat} (hN : 10 ≤ N)
include hN
/-- each value -/
theorem vals_e (scr : List Int) (t td b a w : Option W) {R : Rk} (o : RackOk R) {m : Nat} (hm : m ≤ 30) (Vs : List (List (List Nat))) (hV : ∀ P ∈ Vs, Fit R.length P) (h : DH) :
    evS (phi T G N 7) G N l_law_0 (le scr t (some (.d (encR R))) (some (.d (.int (few R : Nat)))) (some (.d (.int R.length))) (some (.d (.int m))) td b a w (some (.d (.lst (Vs.map encP)))) none) h = some (.nx (le scr t (some (.d (encR R))) (some (.d (.int (few R : Nat)))) (some (.d (.int R.length))) (some (.d (.int m))) td b a w (some (.d (.lst (Vs.map encP)))) none) h) := by
  have p15 : phi T G N 7 15 = .pure (runP (phi T G N 6) G N f_law_is_paper) := phi_p (fd := f_law_is_paper) rfl rfl
  have p14 : phi T G N 7 14 = .pure (runP (phi T G N 6) G N f_is_round_paper) := phi_p (fd := f_is_round_paper) rfl rfl
  have p1 : phi T G N 7 1 = .pure (runP (phi T G N 6) G N fSame) := phi_p (fd := fSame) rfl rfl
  have hf := for_fold (Φ := phi T G N 7) (G := G) (N := N) (p := .nm 12) (it := .var 11) (body := b_law_l0) (env := le scr t (some (.d (encR R))) (some (.d (.int (few R : Nat)))) (some (.d (.int R.length))) (some (.d (.int m))) td b a w (some (.d (.lst (Vs.map encP)))) none) (h := h) encP
    (fun (_ : Unit) => le scr t (some (.d (encR R))) (some (.d (.int (few R : Nat)))) (some (.d (.int R.length))) (some (.d (.int m))) td b a w (some (.d (.lst (Vs.map encP)))) none) (fun _ => h) (fun _ _ => ()) (fun rest _ => ∀ P ∈ rest, P ∈ Vs) Vs () rfl rfl rfl (fun P hP => hP)
    (fun _ P rest hp => by
      have hF := hV P (hp P List.mem_cons_self)
      have e1 := sp_lip (N := N) (phi T G N 6) o (m := m) hF
      have e2 := sp_irp (T := T) (N := N) (k := 3) H5 H6 H7 H8 H9 o hm hF
      have e3 := same_bl (T := T) (G := G) (N := N) (phi T G N 6) (paperB R m P) (paperB R m P)
      rw [beq_self_eq_true] at e3
      have e4 : (paperB R m P = true → decide ((m : Int) > (few R : Nat)) = false) := fun h => by
        have := paper_few o hF.ne h
        exact decide_eq_false (by omega)
      refine ⟨_, rfl, ?_, fun Q hQ => hp Q (List.mem_cons_of_mem _ hQ)⟩
      unfold b_law_l0
      refine g_nm (h1 := h) (w := .d (.bl (paperB R m P))) (by simp only [envAt, evSs, evS, evE, evEs, evIf, evPart, evC, mkL, valsD, valD, pureL, ixW, ixD, setsE, unsetE, Pat.bind, Sh.bindL, dTy, isD, isNon, List.map_cons, List.map_nil, List.length_cons, List.length_nil, List.getElem?_cons_zero, List.getElem?_cons_succ, List.set_cons_zero, List.set_cons_succ, List.replicate, List.cons_append, List.nil_append, Option.bind_eq_bind, Option.bind_some, Option.map_some, Bool.not_true, Bool.not_false, if_true, if_false, reduceIte, Bool.false_eq_true, reduceCtorEq, Nat.reduceAdd, Nat.reduceSub, Nat.reduceLeDiff, zeroW, cellArg, Option.isSome_some, line_lit, Bool.and_self, Bool.true_and, Bool.and_true, Bool.false_and, Bool.and_false, Bool.or_true, Bool.true_or, Bool.or_false, Bool.false_or, Int.natAbs_natCast, Int.cast_ofNat_Int, Int.reduceLE, Int.reduceLT, Int.reduceEq, decide_true, decide_false, Nat.reduceLT, Nat.reduceEqDiff, List.length_nil, wipeE, eq_self, le, p15, e1]) ?_
      cases hB : paperB R m P with
      | false =>
        rw [hB] at e2 e3
        exact g_no (h1 := h) (by simp only [envAt, evSs, evS, evE, evEs, evIf, evPart, evC, mkL, valsD, valD, pureL, ixW, ixD, setsE, unsetE, Pat.bind, Sh.bindL, dTy, isD, isNon, List.map_cons, List.map_nil, List.length_cons, List.length_nil, List.getElem?_cons_zero, List.getElem?_cons_succ, List.set_cons_zero, List.set_cons_succ, List.replicate, List.cons_append, List.nil_append, Option.bind_eq_bind, Option.bind_some, Option.map_some, Bool.not_true, Bool.not_false, if_true, if_false, reduceIte, Bool.false_eq_true, reduceCtorEq, Nat.reduceAdd, Nat.reduceSub, Nat.reduceLeDiff, zeroW, cellArg, Option.isSome_some, line_lit, Bool.and_self, Bool.true_and, Bool.and_true, Bool.false_and, Bool.and_false, Bool.or_true, Bool.true_or, Bool.or_false, Bool.false_or, Int.natAbs_natCast, Int.cast_ofNat_Int, Int.reduceLE, Int.reduceLT, Int.reduceEq, decide_true, decide_false, Nat.reduceLT, Nat.reduceEqDiff, List.length_nil, wipeE, eq_self, le, p14, e2, p1, e3]) rfl
      | true =>
        rw [hB] at e2 e3
        exact g_no (h1 := h) (by simp only [envAt, evSs, evS, evE, evEs, evIf, evPart, evC, mkL, valsD, valD, pureL, ixW, ixD, setsE, unsetE, Pat.bind, Sh.bindL, dTy, isD, isNon, List.map_cons, List.map_nil, List.length_cons, List.length_nil, List.getElem?_cons_zero, List.getElem?_cons_succ, List.set_cons_zero, List.set_cons_succ, List.replicate, List.cons_append, List.nil_append, Option.bind_eq_bind, Option.bind_some, Option.map_some, Bool.not_true, Bool.not_false, if_true, if_false, reduceIte, Bool.false_eq_true, reduceCtorEq, Nat.reduceAdd, Nat.reduceSub, Nat.reduceLeDiff, zeroW, cellArg, Option.isSome_some, line_lit, Bool.and_self, Bool.true_and, Bool.and_true, Bool.false_and, Bool.and_false, Bool.or_true, Bool.true_or, Bool.or_false, Bool.false_or, Int.natAbs_natCast, Int.cast_ofNat_Int, Int.reduceLE, Int.reduceLT, Int.reduceEq, decide_true, decide_false, Nat.reduceLT, Nat.reduceEqDiff, List.length_nil, wipeE, eq_self, le, p14, e2, p1, e3, b_gtI, e4 hB]) rfl)
  exact hf.1
/-- one number of exchanges -/
theorem many_e (scr : List Int) (t td b a w vs : Option W) {R : Rk} (o : RackOk R) {m : Nat} (hm : m ≤ 30) {c : Int × Int} (hc : cupOk c) : ∃ c', cupOk c' ∧
    evSs (phi T G N 7) G N b_law_l1 (le scr t (some (.d (encR R))) (some (.d (.int (few R : Nat)))) (some (.d (.int R.length))) (some (.d (.int m))) td b a w vs none) (hcup c []) = some (.nx (le scr t (some (.d (encR R))) (some (.d (.int (few R : Nat)))) (some (.d (.int R.length))) none none (some (.d (encP (bas R)))) none none none none) (hcup c' [])) := by
  have p15 : phi T G N 7 15 = .pure (runP (phi T G N 6) G N f_law_is_paper) := phi_p (fd := f_law_is_paper) rfl rfl
  have p12 : phi T G N 7 12 = .pure (runP (phi T G N 6) G N f_round_paper) := phi_p (fd := f_round_paper) rfl rfl
  have p13 : phi T G N 7 13 = .pure (runP (phi T G N 6) G N f_rounds) := phi_p (fd := f_rounds) rfl rfl
  obtain ⟨b1, b2⟩ := bas_len o
  have h7 := o.seven
  have pap := rounds_pap (rack_pm o)
  have e12 := sp_round_paper (T := T) (N := N) (k := 3) H5 H6 H7 H8 H9 H10 hN o hm
  have e13 := sp_rounds (T := T) (N := N) (k := 3) H5 H6 H7 H8 H9 H10 hN o
  obtain ⟨x, c1, hx, hc1, e1⟩ := call_roll (HR (N := N) 6) (G := G) (es := .cons (.var 1) (.cons (.bif .len (.cons (.var 8) .nil)) .nil)) (env := le scr t (some (.d (encR R))) (some (.d (.int (few R : Nat)))) (some (.d (.int R.length))) (some (.d (.int m))) (some (.d (if m ≤ few R then encP (bas R) else .non))) (some (.d (encP (bas R)))) a w vs none) (h := hcup c []) (r := []) (c := c) (m := (bas R).length) (by simp only [envAt, evSs, evS, evE, evEs, evIf, evPart, evC, mkL, valsD, valD, pureL, ixW, ixD, setsE, unsetE, Pat.bind, Sh.bindL, dTy, isD, isNon, List.map_cons, List.map_nil, List.length_cons, List.length_nil, List.getElem?_cons_zero, List.getElem?_cons_succ, List.set_cons_zero, List.set_cons_succ, List.replicate, List.cons_append, List.nil_append, Option.bind_eq_bind, Option.bind_some, Option.map_some, Bool.not_true, Bool.not_false, if_true, if_false, reduceIte, Bool.false_eq_true, reduceCtorEq, Nat.reduceAdd, Nat.reduceSub, Nat.reduceLeDiff, zeroW, cellArg, Option.isSome_some, line_lit, Bool.and_self, Bool.true_and, Bool.and_true, Bool.false_and, Bool.and_false, Bool.or_true, Bool.true_or, Bool.or_false, Bool.false_or, Int.natAbs_natCast, Int.cast_ofNat_Int, Int.reduceLE, Int.reduceLT, Int.reduceEq, decide_true, decide_false, Nat.reduceLT, Nat.reduceEqDiff, List.length_nil, wipeE, eq_self, le, len_encP]) hc (by omega) (by omega)
  obtain ⟨l, c2, hl, hc2, e2⟩ := turned_rng (T := T) (N := N) (k := 5) HR rfl hc1 (n := R.length) (by omega) (i := 1) (env := le scr t (some (.d (encR R))) (some (.d (.int (few R : Nat)))) (some (.d (.int R.length))) (some (.d (.int m))) (some (.d (if m ≤ few R then encP (bas R) else .non))) (some (.d (encP (bas R)))) (some (.d (.int x))) (some (.d (row ((bas R).getD x [])))) (some (.d (.lst (((vals R x []).take 7).map encP)))) none) (r := []) (a := .var 5) rfl (by simp only [envAt, evSs, evS, evE, evEs, evIf, evPart, evC, mkL, valsD, valD, pureL, ixW, ixD, setsE, unsetE, Pat.bind, Sh.bindL, dTy, isD, isNon, List.map_cons, List.map_nil, List.length_cons, List.length_nil, List.getElem?_cons_zero, List.getElem?_cons_succ, List.set_cons_zero, List.set_cons_succ, List.replicate, List.cons_append, List.nil_append, Option.bind_eq_bind, Option.bind_some, Option.map_some, Bool.not_true, Bool.not_false, if_true, if_false, reduceIte, Bool.false_eq_true, reduceCtorEq, Nat.reduceAdd, Nat.reduceSub, Nat.reduceLeDiff, zeroW, cellArg, Option.isSome_some, line_lit, Bool.and_self, Bool.true_and, Bool.and_true, Bool.false_and, Bool.and_false, Bool.or_true, Bool.true_or, Bool.or_false, Bool.false_or, Int.natAbs_natCast, Int.cast_ofNat_Int, Int.reduceLE, Int.reduceLT, Int.reduceEq, decide_true, decide_false, Nat.reduceLT, Nat.reduceEqDiff, List.length_nil, wipeE, eq_self, le])
  have hv1 : evE (phi T G N 7) G (.mkl false (.disp (.cons (.var 8) (.cons (.rev (.var 8)) (.cons (.sl (.var 8) (.cons (.lit (.int 1)) .nil) .nil) (.cons (.bin .add (.var 8) (.sl (.var 8) .nil (.cons (.lit (.int 1)) .nil))) (.cons (.bif .tuple (.cons c_law_1 .nil)) (.cons (.tup (.cons (.trng (.cons (.var 5) .nil)) .nil)) (.cons (.bif .tuple (.cons c_law_0 .nil)) .nil))))))))) (le scr t (some (.d (encR R))) (some (.d (.int (few R : Nat)))) (some (.d (.int R.length))) (some (.d (.int m))) (some (.d (if m ≤ few R then encP (bas R) else .non))) (some (.d (encP (bas R)))) (some (.d (.int x))) (some (.d (row ((bas R).getD x [])))) vs none) (hcup c1 []) = some (.d (.lst (((vals R x []).take 7).map encP)), hcup c1 []) := by
    have q1 := rev_encP (bas R)
    have q2 : slD (encP (bas R)) (some 1) none = some (encP ((bas R).drop 1)) := lo_encP (bas R) (k := 1) b1
    have q3 : slD (encP (bas R)) none (some 1) = some (encP ((bas R).take 1)) := hi_encP (bas R) (k := 1) b1
    have q4 : binD .add (encP (bas R)) (encP ((bas R).take 1)) = some (encP (bas R ++ (bas R).take 1)) := add_encP (by rw [List.length_take]; omega)
    have q5 : rngD [.int R.length] = some (nats (List.range R.length)) := rng_n (by omega)
    have hc1' : evE (phi T G N 7) G c_law_1 (le scr t (some (.d (encR R))) (some (.d (.int (few R : Nat)))) (some (.d (.int R.length))) (some (.d (.int m))) (some (.d (if m ≤ few R then encP (bas R) else .non))) (some (.d (encP (bas R)))) (some (.d (.int x))) (some (.d (row ((bas R).getD x [])))) vs none) (hcup c1 []) = some (.d (.lst ((bas R).map fun r => row (turnR r))), hcup c1 []) :=
      comp_map row (bas R) (fun r => row (turnR r)) rfl rfl (fun r hr => ⟨_, rfl, by
        have h1 : (List.drop 1 (nats r)).length + (List.take 1 (nats r)).length ≤ line := by
          have := pap.rlen r hr
          rw [line_lit, List.length_drop, List.length_take, List.length_map]; omega
        have h2 : nats (turnR r) = (nats r).drop 1 ++ (nats r).take 1 := by simp only [nats, turnR, List.map_append, List.map_drop, List.map_take]
        simp only [envAt, evSs, evS, evE, evEs, evIf, evPart, evC, mkL, valsD, valD, pureL, ixW, ixD, setsE, unsetE, Pat.bind, Sh.bindL, dTy, isD, isNon, List.map_cons, List.map_nil, List.length_cons, List.length_nil, List.getElem?_cons_zero, List.getElem?_cons_succ, List.set_cons_zero, List.set_cons_succ, List.replicate, List.cons_append, List.nil_append, Option.bind_eq_bind, Option.bind_some, Option.map_some, Bool.not_true, Bool.not_false, if_true, if_false, reduceIte, Bool.false_eq_true, reduceCtorEq, Nat.reduceAdd, Nat.reduceSub, Nat.reduceLeDiff, zeroW, cellArg, Option.isSome_some, line_lit, Bool.and_self, Bool.true_and, Bool.and_true, Bool.false_and, Bool.and_false, Bool.or_true, Bool.true_or, Bool.or_false, Bool.false_or, Int.natAbs_natCast, Int.cast_ofNat_Int, Int.reduceLE, Int.reduceLT, Int.reduceEq, decide_true, decide_false, Nat.reduceLT, Nat.reduceEqDiff, List.length_nil, wipeE, eq_self, le, slD, cut_1n, cut_n1, b_addT h1, ← h2]⟩) (by rw [line_lit]; omega)
    have hc0' : evE (phi T G N 7) G c_law_0 (le scr t (some (.d (encR R))) (some (.d (.int (few R : Nat)))) (some (.d (.int R.length))) (some (.d (.int m))) (some (.d (if m ≤ few R then encP (bas R) else .non))) (some (.d (encP (bas R)))) (some (.d (.int x))) (some (.d (row ((bas R).getD x [])))) vs none) (hcup c1 []) = some (.d (.lst ((List.range R.length).map fun i => row [i])), hcup c1 []) :=
      comp_map (fun (i : Nat) => D.int i) (List.range R.length) (fun i => row [i]) (rng_1 (i := R.length) (n := R.length) (by simp only [envAt, evSs, evS, evE, evEs, evIf, evPart, evC, mkL, valsD, valD, pureL, ixW, ixD, setsE, unsetE, Pat.bind, Sh.bindL, dTy, isD, isNon, List.map_cons, List.map_nil, List.length_cons, List.length_nil, List.getElem?_cons_zero, List.getElem?_cons_succ, List.set_cons_zero, List.set_cons_succ, List.replicate, List.cons_append, List.nil_append, Option.bind_eq_bind, Option.bind_some, Option.map_some, Bool.not_true, Bool.not_false, if_true, if_false, reduceIte, Bool.false_eq_true, reduceCtorEq, Nat.reduceAdd, Nat.reduceSub, Nat.reduceLeDiff, zeroW, cellArg, Option.isSome_some, line_lit, Bool.and_self, Bool.true_and, Bool.and_true, Bool.false_and, Bool.and_false, Bool.or_true, Bool.true_or, Bool.or_false, Bool.false_or, Int.natAbs_natCast, Int.cast_ofNat_Int, Int.reduceLE, Int.reduceLT, Int.reduceEq, decide_true, decide_false, Nat.reduceLT, Nat.reduceEqDiff, List.length_nil, wipeE, eq_self, le]) rfl (by omega)) rfl (fun i hi => ⟨_, rfl, by simp only [envAt, evSs, evS, evE, evEs, evIf, evPart, evC, mkL, valsD, valD, pureL, ixW, ixD, setsE, unsetE, Pat.bind, Sh.bindL, dTy, isD, isNon, List.map_cons, List.map_nil, List.length_cons, List.length_nil, List.getElem?_cons_zero, List.getElem?_cons_succ, List.set_cons_zero, List.set_cons_succ, List.replicate, List.cons_append, List.nil_append, Option.bind_eq_bind, Option.bind_some, Option.map_some, Bool.not_true, Bool.not_false, if_true, if_false, reduceIte, Bool.false_eq_true, reduceCtorEq, Nat.reduceAdd, Nat.reduceSub, Nat.reduceLeDiff, zeroW, cellArg, Option.isSome_some, line_lit, Bool.and_self, Bool.true_and, Bool.and_true, Bool.false_and, Bool.and_false, Bool.or_true, Bool.true_or, Bool.or_false, Bool.false_or, Int.natAbs_natCast, Int.cast_ofNat_Int, Int.reduceLE, Int.reduceLT, Int.reduceEq, decide_true, decide_false, Nat.reduceLT, Nat.reduceEqDiff, List.length_nil, wipeE, eq_self, le]; rfl⟩) (by rw [List.length_range, line_lit]; omega)
    simp only [le] at hc0' hc1'
    have e5 : D.tup ((bas R).map fun r => row (turnR r)) = encP ((bas R).map turnR) := by unfold encP; rw [List.map_map]; rfl
    have e6 : D.tup [D.tup (nats (List.range R.length))] = encP [List.range R.length] := rfl
    have e7 : D.tup ((List.range R.length).map fun i => row [i]) = encP ((List.range R.length).map fun i => [i]) := by unfold encP; rw [List.map_map]; rfl
    simp only [envAt, evSs, evS, evE, evEs, evIf, evPart, evC, mkL, valsD, valD, pureL, ixW, ixD, setsE, unsetE, Pat.bind, Sh.bindL, dTy, isD, isNon, List.map_cons, List.map_nil, List.length_cons, List.length_nil, List.getElem?_cons_zero, List.getElem?_cons_succ, List.set_cons_zero, List.set_cons_succ, List.replicate, List.cons_append, List.nil_append, Option.bind_eq_bind, Option.bind_some, Option.map_some, Bool.not_true, Bool.not_false, if_true, if_false, reduceIte, Bool.false_eq_true, reduceCtorEq, Nat.reduceAdd, Nat.reduceSub, Nat.reduceLeDiff, zeroW, cellArg, Option.isSome_some, line_lit, Bool.and_self, Bool.true_and, Bool.and_true, Bool.false_and, Bool.and_false, Bool.or_true, Bool.true_or, Bool.or_false, Bool.false_or, Int.natAbs_natCast, Int.cast_ofNat_Int, Int.reduceLE, Int.reduceLT, Int.reduceEq, decide_true, decide_false, Nat.reduceLT, Nat.reduceEqDiff, List.length_nil, wipeE, eq_self, le, q1, q2, q3, q4, q5, hc1', hc0', f_tupL, e5, e6, e7, vals, List.take_succ_cons, List.take_zero]
  have hat : ixD (encP (bas R)) (.int x) = some (row ((bas R).getD x [])) := Sh.atI_nat (by rw [List.getElem?_map, List.getD_eq_getElem?_getD, List.getElem?_eq_getElem hx]; rfl)
  have hv2 : evE (phi T G N 7) G (.bin .add (.var 11) (.mkl false (.disp (.cons (.bin .add (.bin .add (.sl (.var 8) .nil (.cons (.var 9) .nil)) (.tup (.cons (.rev (.var 10)) .nil))) (.sl (.var 8) (.cons (.bin .add (.var 9) (.lit (.int 1))) .nil) .nil)) (.cons (.tup (.cons (.call 3 (.cons (.var 1) (.cons (.mkl false (.ofl (.rng (.cons (.var 5) .nil)))) .nil))) .nil)) .nil))))) (le scr t (some (.d (encR R))) (some (.d (.int (few R : Nat)))) (some (.d (.int R.length))) (some (.d (.int m))) (some (.d (if m ≤ few R then encP (bas R) else .non))) (some (.d (encP (bas R)))) (some (.d (.int x))) (some (.d (row ((bas R).getD x [])))) (some (.d (.lst (((vals R x []).take 7).map encP)))) none) (hcup c1 []) = some (.d (.lst ((vals R x l).map encP)), hcup c2 []) := by
    have q1 := hi_encP (bas R) (k := x) (by omega)
    have q2 := lo_encP (bas R) (k := x + 1) (by omega)
    have q3 : revD (row ((bas R).getD x [])) = some (row ((bas R).getD x []).reverse) := by
      show some (D.tup (nats _).reverse) = some (D.tup (nats _))
      rw [nats, nats, List.map_reverse]
    have q4 : binD .add (encP ((bas R).take x)) (.tup [row ((bas R).getD x []).reverse]) = some (encP ((bas R).take x ++ [((bas R).getD x []).reverse])) := add_encP (Q := [((bas R).getD x []).reverse]) (by rw [List.length_take, List.length_singleton]; omega)
    have q5 : binD .add (encP ((bas R).take x ++ [((bas R).getD x []).reverse])) (encP ((bas R).drop (x + 1))) = some (encP ((bas R).take x ++ [((bas R).getD x []).reverse] ++ (bas R).drop (x + 1))) := add_encP (by simp only [List.length_append, List.length_take, List.length_cons, List.length_nil, List.length_drop]; omega)
    have q6 : (x : Int) + 1 = ((x + 1 : Nat) : Int) := by push_cast; rfl
    refine bin_e (x := .lst (((vals R x []).take 7).map encP)) (h1 := hcup c1 []) (by simp only [envAt, evSs, evS, evE, evEs, evIf, evPart, evC, mkL, valsD, valD, pureL, ixW, ixD, setsE, unsetE, Pat.bind, Sh.bindL, dTy, isD, isNon, List.map_cons, List.map_nil, List.length_cons, List.length_nil, List.getElem?_cons_zero, List.getElem?_cons_succ, List.set_cons_zero, List.set_cons_succ, List.replicate, List.cons_append, List.nil_append, Option.bind_eq_bind, Option.bind_some, Option.map_some, Bool.not_true, Bool.not_false, if_true, if_false, reduceIte, Bool.false_eq_true, reduceCtorEq, Nat.reduceAdd, Nat.reduceSub, Nat.reduceLeDiff, zeroW, cellArg, Option.isSome_some, line_lit, Bool.and_self, Bool.true_and, Bool.and_true, Bool.false_and, Bool.and_false, Bool.or_true, Bool.true_or, Bool.or_false, Bool.false_or, Int.natAbs_natCast, Int.cast_ofNat_Int, Int.reduceLE, Int.reduceLT, Int.reduceEq, decide_true, decide_false, Nat.reduceLT, Nat.reduceEqDiff, List.length_nil, wipeE, eq_self, le]) (disp_e (ws := [.d (encP ((bas R).take x ++ [((bas R).getD x []).reverse] ++ (bas R).drop (x + 1))), .d (encP [l])]) (evs_c (h1 := hcup c1 []) (by simp only [envAt, evSs, evS, evE, evEs, evIf, evPart, evC, mkL, valsD, valD, pureL, ixW, ixD, setsE, unsetE, Pat.bind, Sh.bindL, dTy, isD, isNon, List.map_cons, List.map_nil, List.length_cons, List.length_nil, List.getElem?_cons_zero, List.getElem?_cons_succ, List.set_cons_zero, List.set_cons_succ, List.replicate, List.cons_append, List.nil_append, Option.bind_eq_bind, Option.bind_some, Option.map_some, Bool.not_true, Bool.not_false, if_true, if_false, reduceIte, Bool.false_eq_true, reduceCtorEq, Nat.reduceAdd, Nat.reduceSub, Nat.reduceLeDiff, zeroW, cellArg, Option.isSome_some, line_lit, Bool.and_self, Bool.true_and, Bool.and_true, Bool.false_and, Bool.and_false, Bool.or_true, Bool.true_or, Bool.or_false, Bool.false_or, Int.natAbs_natCast, Int.cast_ofNat_Int, Int.reduceLE, Int.reduceLT, Int.reduceEq, decide_true, decide_false, Nat.reduceLT, Nat.reduceEqDiff, List.length_nil, wipeE, eq_self, le, q1, b_addI, q6, q2, q3, q4, q5]) (evs_c (h1 := hcup c2 []) (w := .d (encP [l])) ?_ evs_n)) rfl (by simp [line])) ?_
    · rw [ev_tup, evs_c e2 evs_n]; rfl
    · rw [b_addL (by simp [line, vals])]; rfl
  have hV := vals_fit o hx hl
  obtain hl0 := vals_e hN scr t (some (.d (if m ≤ few R then encP (bas R) else .non))) (some (.d (encP (bas R)))) (some (.d (.int x))) (some (.d (row ((bas R).getD x [])))) o hm (vals R x l) hV (hcup c2 [])
  refine ⟨c2, hc2, ?_⟩
  unfold b_law_l1
  refine g_nm (h1 := hcup c []) (w := .d (if m ≤ few R then encP (bas R) else .non)) (by simp only [envAt, evSs, evS, evE, evEs, evIf, evPart, evC, mkL, valsD, valD, pureL, ixW, ixD, setsE, unsetE, Pat.bind, Sh.bindL, dTy, isD, isNon, List.map_cons, List.map_nil, List.length_cons, List.length_nil, List.getElem?_cons_zero, List.getElem?_cons_succ, List.set_cons_zero, List.set_cons_succ, List.replicate, List.cons_append, List.nil_append, Option.bind_eq_bind, Option.bind_some, Option.map_some, Bool.not_true, Bool.not_false, if_true, if_false, reduceIte, Bool.false_eq_true, reduceCtorEq, Nat.reduceAdd, Nat.reduceSub, Nat.reduceLeDiff, zeroW, cellArg, Option.isSome_some, line_lit, Bool.and_self, Bool.true_and, Bool.and_true, Bool.false_and, Bool.and_false, Bool.or_true, Bool.true_or, Bool.or_false, Bool.false_or, Int.natAbs_natCast, Int.cast_ofNat_Int, Int.reduceLE, Int.reduceLT, Int.reduceEq, decide_true, decide_false, Nat.reduceLT, Nat.reduceEqDiff, List.length_nil, wipeE, eq_self, le, p12, e12]) ?_
  refine g_no (h1 := hcup c []) ?_ ?_
  · by_cases hmf : m ≤ few R
    · have d : decide ((m : Int) > (few R : Nat)) = false := decide_eq_false (by omega)
      have e15 := sp_lip (N := N) (phi T G N 6) o (m := m) (P := bas R) (fit_of (gd_bas o) (by omega))
      have ep : paperB R m (bas R) = true := by
        rw [pap_paper pap, decide_eq_true_eq]
        have := pap.plen
        unfold few at hmf
        have := o.pos
        omega
      rw [ep] at e15
      have eP : encP (bas R) = .tup ((bas R).map row) := rfl
      rw [eP] at e15
      have i4 : binD .ne (.bl false) (.bl false) = some (.bl false) := rfl
      simp only [if_pos hmf, eP]
      simp only [envAt, evSs, evS, evE, evEs, evIf, evPart, evC, mkL, valsD, valD, pureL, ixW, ixD, setsE, unsetE, Pat.bind, Sh.bindL, dTy, isD, isNon, List.map_cons, List.map_nil, List.length_cons, List.length_nil, List.getElem?_cons_zero, List.getElem?_cons_succ, List.set_cons_zero, List.set_cons_succ, List.replicate, List.cons_append, List.nil_append, Option.bind_eq_bind, Option.bind_some, Option.map_some, Bool.not_true, Bool.not_false, if_true, if_false, reduceIte, Bool.false_eq_true, reduceCtorEq, Nat.reduceAdd, Nat.reduceSub, Nat.reduceLeDiff, zeroW, cellArg, Option.isSome_some, line_lit, Bool.and_self, Bool.true_and, Bool.and_true, Bool.false_and, Bool.and_false, Bool.or_true, Bool.true_or, Bool.or_false, Bool.false_or, Int.natAbs_natCast, Int.cast_ofNat_Int, Int.reduceLE, Int.reduceLT, Int.reduceEq, decide_true, decide_false, Nat.reduceLT, Nat.reduceEqDiff, List.length_nil, wipeE, eq_self, le, b_isN, b_isnotN, b_gtI, d, i4, p15, e15]
    · have d : decide ((m : Int) > (few R : Nat)) = true := decide_eq_true (by omega)
      have i4 : binD .ne (.bl true) (.bl true) = some (.bl false) := rfl
      simp only [if_neg hmf]
      simp only [envAt, evSs, evS, evE, evEs, evIf, evPart, evC, mkL, valsD, valD, pureL, ixW, ixD, setsE, unsetE, Pat.bind, Sh.bindL, dTy, isD, isNon, List.map_cons, List.map_nil, List.length_cons, List.length_nil, List.getElem?_cons_zero, List.getElem?_cons_succ, List.set_cons_zero, List.set_cons_succ, List.replicate, List.cons_append, List.nil_append, Option.bind_eq_bind, Option.bind_some, Option.map_some, Bool.not_true, Bool.not_false, if_true, if_false, reduceIte, Bool.false_eq_true, reduceCtorEq, Nat.reduceAdd, Nat.reduceSub, Nat.reduceLeDiff, zeroW, cellArg, Option.isSome_some, line_lit, Bool.and_self, Bool.true_and, Bool.and_true, Bool.false_and, Bool.and_false, Bool.or_true, Bool.true_or, Bool.or_false, Bool.false_or, Int.natAbs_natCast, Int.cast_ofNat_Int, Int.reduceLE, Int.reduceLT, Int.reduceEq, decide_true, decide_false, Nat.reduceLT, Nat.reduceEqDiff, List.length_nil, wipeE, eq_self, le, b_isN, b_isnotN, b_gtI, d, i4]
  refine g_nm (h1 := hcup c []) (w := .d (encP (bas R))) (by simp only [envAt, evSs, evS, evE, evEs, evIf, evPart, evC, mkL, valsD, valD, pureL, ixW, ixD, setsE, unsetE, Pat.bind, Sh.bindL, dTy, isD, isNon, List.map_cons, List.map_nil, List.length_cons, List.length_nil, List.getElem?_cons_zero, List.getElem?_cons_succ, List.set_cons_zero, List.set_cons_succ, List.replicate, List.cons_append, List.nil_append, Option.bind_eq_bind, Option.bind_some, Option.map_some, Bool.not_true, Bool.not_false, if_true, if_false, reduceIte, Bool.false_eq_true, reduceCtorEq, Nat.reduceAdd, Nat.reduceSub, Nat.reduceLeDiff, zeroW, cellArg, Option.isSome_some, line_lit, Bool.and_self, Bool.true_and, Bool.and_true, Bool.false_and, Bool.and_false, Bool.or_true, Bool.true_or, Bool.or_false, Bool.false_or, Int.natAbs_natCast, Int.cast_ofNat_Int, Int.reduceLE, Int.reduceLT, Int.reduceEq, decide_true, decide_false, Nat.reduceLT, Nat.reduceEqDiff, List.length_nil, wipeE, eq_self, le, p13, e13]) ?_
  refine g_nm e1 ?_
  refine g_nm (h1 := hcup c1 []) (w := .d (row ((bas R).getD x []))) (by simp only [envAt, evSs, evS, evE, evEs, evIf, evPart, evC, mkL, valsD, valD, pureL, ixW, setsE, unsetE, Pat.bind, Sh.bindL, dTy, isD, isNon, List.map_cons, List.map_nil, List.length_cons, List.length_nil, List.getElem?_cons_zero, List.getElem?_cons_succ, List.set_cons_zero, List.set_cons_succ, List.replicate, List.cons_append, List.nil_append, Option.bind_eq_bind, Option.bind_some, Option.map_some, Bool.not_true, Bool.not_false, if_true, if_false, reduceIte, Bool.false_eq_true, reduceCtorEq, Nat.reduceAdd, Nat.reduceSub, Nat.reduceLeDiff, zeroW, cellArg, Option.isSome_some, line_lit, Bool.and_self, Bool.true_and, Bool.and_true, Bool.false_and, Bool.and_false, Bool.or_true, Bool.true_or, Bool.or_false, Bool.false_or, Int.natAbs_natCast, Int.cast_ofNat_Int, Int.reduceLE, Int.reduceLT, Int.reduceEq, decide_true, decide_false, Nat.reduceLT, Nat.reduceEqDiff, List.length_nil, wipeE, eq_self, le, hat]) ?_
  refine g_nm hv1 ?_
  refine g_nm hv2 ?_
  exact g_s (s := l_law_0) hl0 rfl
end
end L73

/-! law 73: the law holds -/
namespace L73
open PySem PySem.Spec PyProof.Rows L2 Sh Shoe
/-- what is no paper -/
def odds (R : Rk) : List D := [.non, .lst ((bas R).map row), .tup ((bas R).map row ++ [.tup []]), .tup (((bas R).map row).drop 1 ++ [.lst (nats ((bas R).getD 0 []))]), .tup [.non], .tup [.tup [.int R.length]], .tup [.tup [.int (-1)]], .tup ((List.range R.length).map fun _ => D.tup [.bl true]), .tup [.int 0], .int 5]
theorem row_ty (r : List Nat) : dTy (row r) ≠ none := by simp [row, dTy]
section
variable {N : Nat} (hN : 10 ≤ N)
include hN
theorem odd_ok {k : Nat} {R : Rk} (o : RackOk R) : ∀ v ∈ odds R, runP (phi T G N (k + 3)) G N f_is_round_paper [encR R, .int 0, v] = some (.bl false) := by
  have h7 := o.seven
  have h1 := o.pos
  obtain ⟨b1, b2⟩ := bas_len o
  have nt : ∀ v : D, dTy v ≠ none → isD v .tuple = false → runP (phi T G N (k + 3)) G N f_is_round_paper [encR R, .int 0, v] = some (.bl false) := fun v a b => sp_irp_not (T := T) (N := N) (k := k) H5 H6 H7 H8 H9 H10 hN o (m := 0) (by omega) a b
  have rt : ∀ xs : List D, (∀ x ∈ xs, dTy x ≠ none) → (∃ x ∈ xs, tupB x 1 R.length = false) → xs.length ≤ 16 → runP (phi T G N (k + 3)) G N f_is_round_paper [encR R, .int 0, .tup xs] = some (.bl false) := fun xs a b c => sp_irp_rows (T := T) (N := N) (k := k) H5 H6 H7 H8 H9 H10 hN o (m := 0) (by omega) a (by
    obtain ⟨x, hx, e⟩ := b
    cases hq : xs.all fun x => tupB x 1 R.length with
    | false => rfl
    | true => rw [List.all_eq_true] at hq; have := hq x hx; rw [e] at this; cases this) (by rw [line_lit]; omega)
  have pt : ∀ rows : List (List D), (∀ r ∈ rows, ∃ x, r = [x] ∧ dTy x ≠ none ∧ wholeB x 0 (R.length - 1) = false) → 1 ≤ rows.length → rows.length ≤ 14 → runP (phi T G N (k + 3)) G N f_is_round_paper [encR R, .int 0, .tup (rows.map D.tup)] = some (.bl false) := fun rows a b c => by
    have hfl : rows.flatten.length = rows.length := by
      clear b c
      induction rows with
      | nil => rfl
      | cons r rows ih =>
        obtain ⟨x, rfl, _⟩ := a r List.mem_cons_self
        rw [List.flatten_cons, List.length_append, ih fun r hr => a r (List.mem_cons_of_mem _ hr), List.length_cons, List.length_cons, List.length_nil]; omega
    have hmem : ∀ y ∈ rows.flatten, dTy y ≠ none ∧ wholeB y 0 (R.length - 1) = false := fun y hy => by
      obtain ⟨r, hr, hyr⟩ := List.mem_flatten.mp hy
      obtain ⟨x, rfl, q⟩ := a r hr
      rw [List.mem_singleton.mp hyr]; exact q
    refine sp_irp_pegs (T := T) (N := N) (k := k) H5 H6 H7 H8 o (m := 0) (by omega) (fun r hr => ?_) c (by omega) (fun y hy => (hmem y hy).1) ?_
    · obtain ⟨x, rfl, _⟩ := a r hr
      simp; omega
    · cases hF : rows.flatten with
      | nil => rw [hF] at hfl; simp at hfl; omega
      | cons y ys =>
        rw [List.all_cons, (hmem y (by rw [hF]; exact List.mem_cons_self)).2, Bool.false_and]
  intro v hv
  simp only [odds, List.mem_cons, List.not_mem_nil, or_false] at hv
  rcases hv with rfl | rfl | rfl | rfl | rfl | rfl | rfl | rfl | rfl | rfl
  · exact nt _ (by simp [dTy]) rfl
  · exact nt _ (by simp [dTy]) rfl
  · refine rt _ (fun x hx => ?_) ⟨.tup [], by simp, by simp [tupB]⟩ (by simp; omega)
    rcases List.mem_append.mp hx with h | h
    · obtain ⟨r, _, rfl⟩ := List.mem_map.mp h; exact row_ty r
    · rw [List.mem_singleton.mp h]; simp [dTy]
  · refine rt _ (fun x hx => ?_) ⟨.lst (nats ((bas R).getD 0 [])), by simp, rfl⟩ (by simp; omega)
    rcases List.mem_append.mp hx with h | h
    · obtain ⟨r, _, rfl⟩ := List.mem_map.mp (List.mem_of_mem_drop h); exact row_ty r
    · rw [List.mem_singleton.mp h]; simp [dTy]
  · exact rt [.non] (fun x hx => by rw [List.mem_singleton.mp hx]; simp [dTy]) ⟨.non, by simp, rfl⟩ (by simp)
  · refine pt [[.int R.length]] (fun r hr => ⟨_, List.mem_singleton.mp hr, by simp [dTy], ?_⟩) (by simp) (by simp)
    show (decide ((0 : Int) ≤ R.length) && decide ((R.length : Int) ≤ R.length - 1)) = false
    rw [decide_eq_false (show ¬ ((R.length : Int) ≤ R.length - 1) by omega), Bool.and_false]
  · exact pt [[.int (-1)]] (fun r hr => ⟨_, List.mem_singleton.mp hr, by simp [dTy], rfl⟩) (by simp) (by simp)
  · have := pt ((List.range R.length).map fun _ => [D.bl true]) (fun r hr => by
      obtain ⟨_, _, rfl⟩ := List.mem_map.mp hr
      exact ⟨_, rfl, by simp [dTy], rfl⟩) (by rw [List.length_map, List.length_range]; omega) (by rw [List.length_map, List.length_range]; omega)
    rw [List.map_map] at this
    exact this
  · exact rt [.int 0] (fun x hx => by rw [List.mem_singleton.mp hx]; simp [dTy]) ⟨.int 0, by simp, rfl⟩ (by simp)
  · exact nt _ (by simp [dTy]) rfl
/-- a turn -/
theorem turn_e (scr : List Int) (t b8 : Option W) {c : Int × Int} (hc : cupOk c) : ∃ b8' c', cupOk c' ∧
    evSs (phi T G N 7) G N b_law_l2 (le scr t none none none none none b8 none none none none) (hcup c []) = some (.nx (le scr none none none none none none b8' none none none none) (hcup c' [])) := by
  have p4 : phi T G N 7 4 = .cell (runC (phi T G N 6) G N f_law_rack) := phi_c (fd := f_law_rack) rfl rfl
  have p11 : phi T G N 7 11 = .pure (runP (phi T G N 6) G N f_fewest) := phi_p (fd := f_fewest) rfl rfl
  have p14 : phi T G N 7 14 = .pure (runP (phi T G N 6) G N f_is_round_paper) := phi_p (fd := f_is_round_paper) rfl rfl
  obtain ⟨R, c1, o, hc1, e4⟩ := sp_law_rack (T := T) (N := N) (k := 4) HR rfl hc
  have e4' : evE (phi T G N 7) G (.call 4 (.cons (.var 1) (.cons (.lit (.int 7)) .nil))) (le scr t none none none none none b8 none none none none) (hcup c []) = some (.d (encR R), hcup c1 []) :=
    call_c (ws := [.ref 0, .d (.int 7)]) (by simp only [envAt, evSs, evS, evE, evEs, evIf, evPart, evC, mkL, valsD, valD, pureL, ixW, ixD, setsE, unsetE, Pat.bind, Sh.bindL, dTy, isD, isNon, List.map_cons, List.map_nil, List.length_cons, List.length_nil, List.getElem?_cons_zero, List.getElem?_cons_succ, List.set_cons_zero, List.set_cons_succ, List.replicate, List.cons_append, List.nil_append, Option.bind_eq_bind, Option.bind_some, Option.map_some, Bool.not_true, Bool.not_false, if_true, if_false, reduceIte, Bool.false_eq_true, reduceCtorEq, Nat.reduceAdd, Nat.reduceSub, Nat.reduceLeDiff, zeroW, cellArg, Option.isSome_some, line_lit, Bool.and_self, Bool.true_and, Bool.and_true, Bool.false_and, Bool.and_false, Bool.or_true, Bool.true_or, Bool.or_false, Bool.false_or, Int.natAbs_natCast, Int.cast_ofNat_Int, Int.reduceLE, Int.reduceLT, Int.reduceEq, decide_true, decide_false, Nat.reduceLT, Nat.reduceEqDiff, List.length_nil, wipeE, eq_self, le]) p4 rfl e4
  have e11 := sp_fewest (T := T) (N := N) (k := 3) H5 H6 H7 H8 H9 H10 hN o
  have h7 := o.seven
  obtain ⟨b1, b2⟩ := bas_len o
  have hfew : few R ≤ 7 := by unfold few; omega
  obtain ⟨env', h', el, b, c2, he, hh, hc2, hb⟩ := for_inv (Φ := phi T G N 7) (G := G) (N := N) (p := .nm 6) (it := .tup (.cons (.lit (.int 0)) (.cons (.var 4) (.cons (.bin .add (.var 4) (.lit (.int 1))) (.cons (.bif .max2 (.cons (.lit (.int 0)) (.cons (.bin .sub (.var 4) (.lit (.int 1))) .nil))) (.cons (.lit (.int 30)) .nil)))))) (body := b_law_l1)
    (env := le scr t (some (.d (encR R))) (some (.d (.int (few R : Nat)))) (some (.d (.int R.length))) none none b8 none none none none) (h := hcup c1 []) (h1 := hcup c1 []) (x := .tup (nats [0, few R, few R + 1, few R - 1, 30])) (fun (i : Nat) => D.int i)
    (fun rest env h => ∃ b c, env = le scr t (some (.d (encR R))) (some (.d (.int (few R : Nat)))) (some (.d (.int R.length))) none none b none none none none ∧ h = hcup c [] ∧ cupOk c ∧ (rest.length ≤ 4 → b = some (.d (encP (bas R)))))
    [0, few R, few R + 1, few R - 1, 30] (by
      have q1 : ((few R : Nat) : Int) + 1 = ((few R + 1 : Nat) : Int) := by push_cast; rfl
      have q2 : (if ((few R : Nat) : Int) - 1 > 0 then ((few R : Nat) : Int) - 1 else 0) = ((few R - 1 : Nat) : Int) := by split <;> omega
      simp only [envAt, evSs, evS, evE, evEs, evIf, evPart, evC, mkL, valsD, valD, pureL, ixW, ixD, setsE, unsetE, Pat.bind, Sh.bindL, dTy, isD, isNon, List.map_cons, List.map_nil, List.length_cons, List.length_nil, List.getElem?_cons_zero, List.getElem?_cons_succ, List.set_cons_zero, List.set_cons_succ, List.replicate, List.cons_append, List.nil_append, Option.bind_eq_bind, Option.bind_some, Option.map_some, Bool.not_true, Bool.not_false, if_true, if_false, reduceIte, Bool.false_eq_true, reduceCtorEq, Nat.reduceAdd, Nat.reduceSub, Nat.reduceLeDiff, zeroW, cellArg, Option.isSome_some, line_lit, Bool.and_self, Bool.true_and, Bool.and_true, Bool.false_and, Bool.and_false, Bool.or_true, Bool.true_or, Bool.or_false, Bool.false_or, Int.natAbs_natCast, Int.cast_ofNat_Int, Int.reduceLE, Int.reduceLT, Int.reduceEq, decide_true, decide_false, Nat.reduceLT, Nat.reduceEqDiff, List.length_nil, wipeE, eq_self, le, b_addI, b_subI, f_max, q1, q2, nats]) rfl ⟨b8, c1, rfl, rfl, hc1, fun h => by simp at h⟩
    (fun m rest env h hm ⟨b, c, he, hh, hc, _⟩ => by
      subst he; subst hh
      have hm30 : m ≤ 30 := by
        simp only [List.mem_cons, List.not_mem_nil, or_false] at hm
        omega
      obtain ⟨c', hc', e⟩ := many_e hN scr t none b none none none o hm30 hc
      exact ⟨_, _, _, rfl, e, some (.d (encP (bas R))), c', rfl, rfl, hc', fun _ => rfl⟩)
  have hb := hb (by simp)
  subst he; subst hh; subst hb
  refine ⟨some (.d (encP (bas R))), c2, hc2, ?_⟩
  have ho : evE (phi T G N 7) G (.mkl false (.disp (.cons (.lit .non) (.cons (.mkl false (.ofl (.var 8))) (.cons (.bin .add (.var 8) (.tup (.cons (.tup .nil) .nil))) (.cons (.bin .add (.sl (.var 8) (.cons (.lit (.int 1)) .nil) .nil) (.tup (.cons (.mkl false (.ofl (.ix (.var 8) (.lit (.int 0))))) .nil))) (.cons (.tup (.cons (.lit .non) .nil)) (.cons (.tup (.cons (.tup (.cons (.var 5) .nil)) .nil)) (.cons (.tup (.cons (.tup (.cons (.neg (.lit (.int 1))) .nil)) .nil)) (.cons (.bif .tuple (.cons c_law_2 .nil)) (.cons (.tup (.cons (.lit (.int 0)) .nil)) (.cons (.lit (.int 5)) .nil)))))))))))) (le scr t (some (.d (encR R))) (some (.d (.int (few R : Nat)))) (some (.d (.int R.length))) none none (some (.d (encP (bas R)))) none none none none) (hcup c2 []) = some (.d (.lst (odds R)), hcup c2 []) := by
    have hc2' : evE (phi T G N 7) G c_law_2 (le scr t (some (.d (encR R))) (some (.d (.int (few R : Nat)))) (some (.d (.int R.length))) none none (some (.d (encP (bas R)))) none none none none) (hcup c2 []) = some (.d (.lst ((List.range R.length).map fun _ => D.tup [.bl true])), hcup c2 []) :=
      comp_map (fun (i : Nat) => D.int i) (List.range R.length) (fun _ => D.tup [.bl true]) (rng_1 (i := R.length) (n := R.length) (by simp only [envAt, evSs, evS, evE, evEs, evIf, evPart, evC, mkL, valsD, valD, pureL, ixW, ixD, setsE, unsetE, Pat.bind, Sh.bindL, dTy, isD, isNon, List.map_cons, List.map_nil, List.length_cons, List.length_nil, List.getElem?_cons_zero, List.getElem?_cons_succ, List.set_cons_zero, List.set_cons_succ, List.replicate, List.cons_append, List.nil_append, Option.bind_eq_bind, Option.bind_some, Option.map_some, Bool.not_true, Bool.not_false, if_true, if_false, reduceIte, Bool.false_eq_true, reduceCtorEq, Nat.reduceAdd, Nat.reduceSub, Nat.reduceLeDiff, zeroW, cellArg, Option.isSome_some, line_lit, Bool.and_self, Bool.true_and, Bool.and_true, Bool.false_and, Bool.and_false, Bool.or_true, Bool.true_or, Bool.or_false, Bool.false_or, Int.natAbs_natCast, Int.cast_ofNat_Int, Int.reduceLE, Int.reduceLT, Int.reduceEq, decide_true, decide_false, Nat.reduceLT, Nat.reduceEqDiff, List.length_nil, wipeE, eq_self, le]) rfl (by omega)) rfl (fun i hi => ⟨_, rfl, by simp only [envAt, evSs, evS, evE, evEs, evIf, evPart, evC, mkL, valsD, valD, pureL, ixW, ixD, setsE, unsetE, Pat.bind, Sh.bindL, dTy, isD, isNon, List.map_cons, List.map_nil, List.length_cons, List.length_nil, List.getElem?_cons_zero, List.getElem?_cons_succ, List.set_cons_zero, List.set_cons_succ, List.replicate, List.cons_append, List.nil_append, Option.bind_eq_bind, Option.bind_some, Option.map_some, Bool.not_true, Bool.not_false, if_true, if_false, reduceIte, Bool.false_eq_true, reduceCtorEq, Nat.reduceAdd, Nat.reduceSub, Nat.reduceLeDiff, zeroW, cellArg, Option.isSome_some, line_lit, Bool.and_self, Bool.true_and, Bool.and_true, Bool.false_and, Bool.and_false, Bool.or_true, Bool.true_or, Bool.or_false, Bool.false_or, Int.natAbs_natCast, Int.cast_ofNat_Int, Int.reduceLE, Int.reduceLT, Int.reduceEq, decide_true, decide_false, Nat.reduceLT, Nat.reduceEqDiff, List.length_nil, wipeE, eq_self, le]⟩) (by rw [List.length_range, line_lit]; omega)
    have eP : encP (bas R) = .tup ((bas R).map row) := rfl
    have a1 : binD .add (.tup ((bas R).map row)) (.tup [.tup []]) = some (.tup ((bas R).map row ++ [.tup []])) := b_addT (by simp [line]; omega)
    have a2 : slD (.tup ((bas R).map row)) (some 1) none = some (.tup (((bas R).map row).drop 1)) := by rw [slD, cut_1n]
    have a3 : binD .add (.tup (((bas R).map row).drop 1)) (.tup [.lst (nats ((bas R).getD 0 []))]) = some (.tup (((bas R).map row).drop 1 ++ [.lst (nats ((bas R).getD 0 []))])) := b_addT (by simp [line]; omega)
    have a4 : atI ((bas R).map row) 0 = some (row ((bas R).getD 0 [])) := Sh.atI_nat (k := 0) (by rw [List.getElem?_map, List.getD_eq_getElem?_getD, List.getElem?_eq_getElem (show 0 < (bas R).length by omega)]; rfl)
    rw [eP] at hc2' ⊢
    simp only [le] at hc2'
    simp only [envAt, evSs, evS, evE, evEs, evIf, evPart, evC, mkL, valsD, valD, pureL, ixW, ixD, setsE, unsetE, Pat.bind, Sh.bindL, dTy, isD, isNon, List.map_cons, List.map_nil, List.length_cons, List.length_nil, List.getElem?_cons_zero, List.getElem?_cons_succ, List.set_cons_zero, List.set_cons_succ, List.replicate, List.cons_append, List.nil_append, Option.bind_eq_bind, Option.bind_some, Option.map_some, Bool.not_true, Bool.not_false, if_true, if_false, reduceIte, Bool.false_eq_true, reduceCtorEq, Nat.reduceAdd, Nat.reduceSub, Nat.reduceLeDiff, zeroW, cellArg, Option.isSome_some, line_lit, Bool.and_self, Bool.true_and, Bool.and_true, Bool.false_and, Bool.and_false, Bool.or_true, Bool.true_or, Bool.or_false, Bool.false_or, Int.natAbs_natCast, Int.cast_ofNat_Int, Int.reduceLE, Int.reduceLT, Int.reduceEq, decide_true, decide_false, Nat.reduceLT, Nat.reduceEqDiff, List.length_nil, wipeE, eq_self, le, hc2', pureL_ds, a1, a2, a3, a4, f_tupL, odds]
  have hc3 : evE (phi T G N 7) G c_law_3 (le scr t (some (.d (encR R))) (some (.d (.int (few R : Nat)))) (some (.d (.int R.length))) none none (some (.d (encP (bas R)))) none none none (some (.d (.lst (odds R))))) (hcup c2 []) = some (.d (.lst []), hcup c2 []) := by
    have := comp_filter (Φ := phi T G N 7) (G := G) (own := [18]) (p := .nm 18) (it := .var 14) (elt := .var 18) (c := (.bin .isnot (.call 14 (.cons (.var 3) (.cons (.lit (.int 0)) (.cons (.var 18) .nil)))) (.lit (.bl false)))) (env := le scr t (some (.d (encR R))) (some (.d (.int (few R : Nat)))) (some (.d (.int R.length))) none none (some (.d (encP (bas R)))) none none none (some (.d (.lst (odds R))))) (h := hcup c2 []) (h0 := hcup c2 []) (x := .lst (odds R)) (fun (d : D) => d) (odds R) (fun _ => false) (fun d => d) rfl (by rw [List.map_id']; rfl)
      (fun v hv => ⟨_, rfl, by
        have e14 := odd_ok hN (k := 3) o v hv
        have i1 : binD .isnot (.bl false) (.bl false) = some (.bl false) := rfl
        simp only [envAt, evSs, evS, evE, evEs, evIf, evPart, evC, mkL, valsD, valD, pureL, ixW, ixD, setsE, unsetE, Pat.bind, Sh.bindL, dTy, isD, isNon, List.map_cons, List.map_nil, List.length_cons, List.length_nil, List.getElem?_cons_zero, List.getElem?_cons_succ, List.set_cons_zero, List.set_cons_succ, List.replicate, List.cons_append, List.nil_append, Option.bind_eq_bind, Option.bind_some, Option.map_some, Bool.not_true, Bool.not_false, if_true, if_false, reduceIte, Bool.false_eq_true, reduceCtorEq, Nat.reduceAdd, Nat.reduceSub, Nat.reduceLeDiff, zeroW, cellArg, Option.isSome_some, line_lit, Bool.and_self, Bool.true_and, Bool.and_true, Bool.false_and, Bool.and_false, Bool.or_true, Bool.true_or, Bool.or_false, Bool.false_or, Int.natAbs_natCast, Int.cast_ofNat_Int, Int.reduceLE, Int.reduceLT, Int.reduceEq, decide_true, decide_false, Nat.reduceLT, Nat.reduceEqDiff, List.length_nil, wipeE, eq_self, le, p14, e14, i1], fun h => by cases h⟩) (by simp [odds, line])
    have e : ((odds R).filter fun _ => false) = [] := by simp
    rw [e] at this
    exact this
  unfold b_law_l2
  refine g_nm e4' ?_
  refine g_par (e1 := le scr t (some (.d (encR R))) (some (.d (.int (few R : Nat)))) (some (.d (.int R.length))) none none b8 none none none none) (h1 := hcup c1 []) (ws := [.d (.int (few R : Nat)), .d (.int R.length)]) (by simp only [envAt, evSs, evS, evE, evEs, evIf, evPart, evC, mkL, valsD, valD, pureL, ixW, ixD, setsE, unsetE, Pat.bind, Sh.bindL, dTy, isD, isNon, List.map_cons, List.map_nil, List.length_cons, List.length_nil, List.getElem?_cons_zero, List.getElem?_cons_succ, List.set_cons_zero, List.set_cons_succ, List.replicate, List.cons_append, List.nil_append, Option.bind_eq_bind, Option.bind_some, Option.map_some, Bool.not_true, Bool.not_false, if_true, if_false, reduceIte, Bool.false_eq_true, reduceCtorEq, Nat.reduceAdd, Nat.reduceSub, Nat.reduceLeDiff, zeroW, cellArg, Option.isSome_some, line_lit, Bool.and_self, Bool.true_and, Bool.and_true, Bool.false_and, Bool.and_false, Bool.or_true, Bool.true_or, Bool.or_false, Bool.false_or, Int.natAbs_natCast, Int.cast_ofNat_Int, Int.reduceLE, Int.reduceLT, Int.reduceEq, decide_true, decide_false, Nat.reduceLT, Nat.reduceEqDiff, List.length_nil, wipeE, eq_self, le, p11, e11, f_lenR]) rfl ?_
  refine g_s (s := l_law_1) el ?_
  refine g_nm ho ?_
  have i2 : binD .ne (.lst []) (.lst []) = some (.bl false) := rfl
  have hc3' : evE (phi T G N 7) G c_law_3 ((le scr t (some (.d (encR R))) (some (.d (.int (few R : Nat)))) (some (.d (.int R.length))) none none (some (.d (encP (bas R)))) none none none none).set 14 (some (.d (.lst (odds R))))) (hcup c2 []) = some (.d (.lst []), hcup c2 []) := hc3
  refine g_no (h1 := hcup c2 []) (by rw [ev_bin, hc3']; rfl) ?_
  rfl
end
/-- the rack of one peg -/
theorem lone_ok : RackOk [(0, 0)] := ⟨by decide, by decide, by decide, by decide, by decide⟩
theorem law_fin (ns : List Int) (hl : ns.length ≤ 63) : runP (phi T G 1000 7) G 1000 f_law [.scr ns] = some (.bl true) := by
  have hN : 10 ≤ 1000 := by decide
  have p0 : phi T G 1000 7 0 = .new (runN (phi T G 1000 6) G 1000 f_law_cup) := phi_n (fd := f_law_cup) rfl rfl
  have p12 : phi T G 1000 7 12 = .pure (runP (phi T G 1000 6) G 1000 f_round_paper) := phi_p (fd := f_round_paper) rfl rfl
  have p14 : phi T G 1000 7 14 = .pure (runP (phi T G 1000 6) G 1000 f_is_round_paper) := phi_p (fd := f_is_round_paper) rfl rfl
  have p1 : phi T G 1000 7 1 = .pure (runP (phi T G 1000 6) G 1000 fSame) := phi_p (fd := fSame) rfl rfl
  obtain ⟨ec, hc⟩ := cup_ok (nm := "_law_cup") (phi T G 1000 6) G 1000 (a := 83) (b := 317) (c := 4027) (d := 2077492809) (e := 167) hl (by decide) (b64_of (by decide)) (by decide) (by decide)
  have ec' : evE (phi T G 1000 7) G (.call 0 (.cons (.var 0) .nil)) [some (.d (.scr ns)), none, none, none, none, none, none, none, none, none, none, none, none, none, none, none, none, none, none] [] = some (.ref 0, hcup (cupOf 83 317 4027 2077492809 167 ns) []) :=
    call_new (ws := [.d (.scr ns)]) (ds := [.scr ns]) (by simp only [envAt, evSs, evS, evE, evEs, evIf, evPart, evC, mkL, valsD, valD, pureL, ixW, ixD, setsE, unsetE, Pat.bind, Sh.bindL, dTy, isD, isNon, List.map_cons, List.map_nil, List.length_cons, List.length_nil, List.getElem?_cons_zero, List.getElem?_cons_succ, List.set_cons_zero, List.set_cons_succ, List.replicate, List.cons_append, List.nil_append, Option.bind_eq_bind, Option.bind_some, Option.map_some, Bool.not_true, Bool.not_false, if_true, if_false, reduceIte, Bool.false_eq_true, reduceCtorEq, Nat.reduceAdd, Nat.reduceSub, Nat.reduceLeDiff, zeroW, cellArg, Option.isSome_some, line_lit, Bool.and_self, Bool.true_and, Bool.and_true, Bool.false_and, Bool.and_false, Bool.or_true, Bool.true_or, Bool.or_false, Bool.false_or, Int.natAbs_natCast, Int.cast_ofNat_Int, Int.reduceLE, Int.reduceLT, Int.reduceEq, decide_true, decide_false, Nat.reduceLT, Nat.reduceEqDiff, List.length_nil, wipeE, eq_self]) p0 rfl ec
  obtain ⟨env', h', el, b, c2, he, hh, hc2⟩ := for_inv (Φ := phi T G 1000 7) (G := G) (N := 1000) (p := .nm 2) (it := .rng (.cons (.lit (.int 6)) .nil)) (body := b_law_l2) (env := le ns none none none none none none none none none none none) (h := hcup (cupOf 83 317 4027 2077492809 167 ns) []) (h1 := hcup (cupOf 83 317 4027 2077492809 167 ns) []) (fun (i : Nat) => D.int i)
    (fun _ env h => ∃ b c, env = le ns none none none none none none b none none none none ∧ h = hcup c [] ∧ cupOk c) (List.range 6) (rng_1 (i := 6) (n := 6) (by simp only [envAt, evSs, evS, evE, evEs, evIf, evPart, evC, mkL, valsD, valD, pureL, ixW, ixD, setsE, unsetE, Pat.bind, Sh.bindL, dTy, isD, isNon, List.map_cons, List.map_nil, List.length_cons, List.length_nil, List.getElem?_cons_zero, List.getElem?_cons_succ, List.set_cons_zero, List.set_cons_succ, List.replicate, List.cons_append, List.nil_append, Option.bind_eq_bind, Option.bind_some, Option.map_some, Bool.not_true, Bool.not_false, if_true, if_false, reduceIte, Bool.false_eq_true, reduceCtorEq, Nat.reduceAdd, Nat.reduceSub, Nat.reduceLeDiff, zeroW, cellArg, Option.isSome_some, line_lit, Bool.and_self, Bool.true_and, Bool.and_true, Bool.false_and, Bool.and_false, Bool.or_true, Bool.true_or, Bool.or_false, Bool.false_or, Int.natAbs_natCast, Int.cast_ofNat_Int, Int.reduceLE, Int.reduceLT, Int.reduceEq, decide_true, decide_false, Nat.reduceLT, Nat.reduceEqDiff, List.length_nil, wipeE, eq_self]) rfl (by omega)) rfl ⟨none, _, rfl, rfl, hc⟩
    (fun i rest env h _ ⟨b, c, he, hh, hc⟩ => by
      subst he; subst hh
      obtain ⟨b', c', hc', e⟩ := turn_e hN ns (some (.d (.int i))) b hc
      exact ⟨_, _, _, rfl, e, b', c', rfl, rfl, hc'⟩)
  subst he; subst hh
  have r1 := sp_round_paper (T := T) (N := 1000) (k := 3) H5 H6 H7 H8 H9 H10 hN lone_ok (m := 0) (by omega)
  have r2 := sp_round_paper (T := T) (N := 1000) (k := 3) H5 H6 H7 H8 H9 H10 hN lone_ok (m := 1) (by omega)
  have hb : bas [(0, 0)] = [[0]] := by decide +kernel
  have hf : few [(0, 0)] = 0 := by decide +kernel
  rw [hf, hb, if_pos (Nat.le_refl _)] at r1
  rw [hf, if_neg (by omega)] at r2
  have r3 := sp_irp (T := T) (N := 1000) (k := 3) H5 H6 H7 H8 H9 lone_ok (m := 0) (by omega) (P := [[0]]) ⟨by simp, by simp, by simp, by simp⟩
  have hp : paperB [(0, 0)] 0 [[0]] = true := by decide +kernel
  rw [hp] at r3
  have r4 := sp_irp_rows (T := T) (N := 1000) (k := 3) H5 H6 H7 H8 H9 H10 hN lone_ok (m := 0) (by omega) (xs := [.tup [.int 0, .int 0]]) (fun x hx => by rw [List.mem_singleton.mp hx]; simp [dTy]) rfl (by simp [line])
  have eR : encR [(0, 0)] = .tup [.tup [.int 0, .int 0]] := rfl
  have eP : encP [[0]] = .tup [.tup [.int 0]] := rfl
  have n0 : ((0 : Nat) : Int) = 0 := rfl
  have n1 : ((1 : Nat) : Int) = 1 := rfl
  rw [eR, n0] at r1 r3 r4
  rw [eR, n1] at r2
  rw [eP] at r1 r3
  have r5 := same_ok (T := T) (G := G) (N := 1000) rfl 6 (.tup [.tup [.tup [.int 0]], .non, .bl true, .bl false]) (by simp [sm, smL, line]) (by simp [dep, depL]) 0
  refine run_rt (hh := hcup c2 []) rfl ?_
  show evSs _ G 1000 b_law [some (.d (.scr ns)), none, none, none, none, none, none, none, none, none, none, none, none, none, none, none, none, none, none] [] = _
  unfold b_law
  refine g_nm ec' ?_
  refine g_s (s := l_law_2) el ?_
  refine g_nm (h1 := hcup c2 []) (w := .d (.tup [.tup [.int 0, .int 0]])) (by simp only [envAt, evSs, evS, evE, evEs, evIf, evPart, evC, mkL, valsD, valD, pureL, ixW, ixD, setsE, unsetE, Pat.bind, Sh.bindL, dTy, isD, isNon, List.map_cons, List.map_nil, List.length_cons, List.length_nil, List.getElem?_cons_zero, List.getElem?_cons_succ, List.set_cons_zero, List.set_cons_succ, List.replicate, List.cons_append, List.nil_append, Option.bind_eq_bind, Option.bind_some, Option.map_some, Bool.not_true, Bool.not_false, if_true, if_false, reduceIte, Bool.false_eq_true, reduceCtorEq, Nat.reduceAdd, Nat.reduceSub, Nat.reduceLeDiff, zeroW, cellArg, Option.isSome_some, line_lit, Bool.and_self, Bool.true_and, Bool.and_true, Bool.false_and, Bool.and_false, Bool.or_true, Bool.true_or, Bool.or_false, Bool.false_or, Int.natAbs_natCast, Int.cast_ofNat_Int, Int.reduceLE, Int.reduceLT, Int.reduceEq, decide_true, decide_false, Nat.reduceLT, Nat.reduceEqDiff, List.length_nil, wipeE, eq_self, le]) ?_
  exact g_ret (by simp only [envAt, evSs, evS, evE, evEs, evIf, evPart, evC, mkL, valsD, valD, pureL, ixW, ixD, setsE, unsetE, Pat.bind, Sh.bindL, dTy, isD, isNon, List.map_cons, List.map_nil, List.length_cons, List.length_nil, List.getElem?_cons_zero, List.getElem?_cons_succ, List.set_cons_zero, List.set_cons_succ, List.replicate, List.cons_append, List.nil_append, Option.bind_eq_bind, Option.bind_some, Option.map_some, Bool.not_true, Bool.not_false, if_true, if_false, reduceIte, Bool.false_eq_true, reduceCtorEq, Nat.reduceAdd, Nat.reduceSub, Nat.reduceLeDiff, zeroW, cellArg, Option.isSome_some, line_lit, Bool.and_self, Bool.true_and, Bool.and_true, Bool.false_and, Bool.and_false, Bool.or_true, Bool.true_or, Bool.or_false, Bool.false_or, Int.natAbs_natCast, Int.cast_ofNat_Int, Int.reduceLE, Int.reduceLT, Int.reduceEq, decide_true, decide_false, Nat.reduceLT, Nat.reduceEqDiff, List.length_nil, wipeE, eq_self, le, p12, p14, p1, r1, r2, r3, r4, r5])
end L73

open PySem PySem.W PyProof.Rows
set_option maxHeartbeats 0 in
theorem PySem.Challenge.cw_leatheryard_k73_whole_round_papers_holds : PySem.Challenge.rw_leatheryard_k73_whole_round_papers.Holds := by
  w_on; o_law; k_head; (case hw => w_witness2)
  k_fill
  refine L2.walk_of (l := PySem.Challenge.rw_leatheryard_k73_whole_round_papers) (n := 63) (k := 8) (x := "script") (CX := fun _ => L2.CX0) (sp := fun w => Sh.spLaw _ 63) rfl (by decide) rfl ⟨rfl, by decide, by decide⟩ (fun w h Y => PySem.W.kIn_of Y) ?F (fun _ _ a ns hl hO hS => ⟨a, ns, rfl, Sh.sq_of hO hS, hl, fun _ => rfl⟩) (fun _ _ _ _ _ h => h)
  case F =>
    intro w mg fa h KX Gn hmg
    refine' L73.all_mk KX Gn hmg ?a0 ?l0 ?c0 ?k0 ?a1 ?l1 ?c1 ?k1 ?a2 ?l2 ?c2 ?k2 ?a3 ?l3 ?c3 ?k3 ?a4 ?l4 ?c4 ?k4 ?a5 ?l5 ?c5 ?k5 ?a6 ?l6 ?c6 ?k6 ?a7 ?l7 ?c7 ?k7 ?a8 ?l8 ?c8 ?k8 ?a9 ?l9 ?c9 ?k9 ?a10 ?l10 ?c10 ?k10 ?a11 ?l11 ?c11 ?k11 ?a12 ?l12 ?c12 ?k12 ?a13 ?l13 ?c13 ?k13 ?a14 ?l14 ?c14 ?k14 ?a15 ?l15 ?c15 ?k15 ?a16 ?l16 ?c16 ?k16 ?z0 ?z1 ?z2 ?z3 ?z4 ?z5 ?z6 ?z7 ?z8 ?z9 ?z10 ?z11 ?z12 ?z13 ?z14 ?z15 ?z16 ?z17 ?z18 ?z19 ?y0 ?y1 L73.law_fin
    (case a0 => k_is); (case l0 => k_is); (case c0 => k_is); (case k0 => k_is); (case a1 => k_is); (case l1 => k_is); (case c1 => k_is); (case k1 => k_is); (case a2 => k_is); (case l2 => k_is); (case c2 => k_is); (case k2 => k_is); (case a3 => k_is); (case l3 => k_is); (case c3 => k_is); (case k3 => k_is); (case a4 => k_is); (case l4 => k_is); (case c4 => k_is); (case k4 => k_is); (case a5 => k_is); (case l5 => k_is); (case c5 => k_is); (case k5 => k_is); (case a6 => k_is); (case l6 => k_is); (case c6 => k_is); (case k6 => k_is); (case a7 => k_is); (case l7 => k_is); (case c7 => k_is); (case k7 => k_is); (case a8 => k_is); (case l8 => k_is); (case c8 => k_is); (case k8 => k_is); (case a9 => k_is); (case l9 => k_is); (case c9 => k_is); (case k9 => k_is); (case a10 => k_is); (case l10 => k_is); (case c10 => k_is); (case k10 => k_is); (case a11 => k_is); (case l11 => k_is); (case c11 => k_is); (case k11 => k_is); (case a12 => k_is); (case l12 => k_is); (case c12 => k_is); (case k12 => k_is); (case a13 => k_is); (case l13 => k_is); (case c13 => k_is); (case k13 => k_is); (case a14 => k_is); (case l14 => k_is); (case c14 => k_is); (case k14 => k_is); (case a15 => k_is); (case l15 => k_is); (case c15 => k_is); (case k15 => k_is); (case a16 => k_is); (case l16 => k_is); (case c16 => k_is); (case k16 => k_is); (case z0 => k_is); (case z1 => k_is); (case z2 => k_is); (case z3 => k_is); (case z4 => k_is); (case z5 => k_is); (case z6 => k_is); (case z7 => k_is); (case z8 => k_is); (case z9 => k_is); (case z10 => k_is); (case z11 => k_is); (case z12 => k_is); (case z13 => k_is); (case z14 => k_is); (case z15 => k_is); (case z16 => k_is); (case z17 => k_is); (case z18 => k_is); (case z19 => k_is); (case y0 => k_is); (case y1 => k_is)

