import PyProof.Rows.All
import Wide.All
import OpenK.AllK
import Wide.FinOn
import HandS.ForMost
import HandS.ForExc
import HandS.Walk
import HandS.Zip
import HandS.Flow
import HandS.Wide
import HandS.TupAny
import HandS.TupMul
import HandS.TupLe
import HandS.Style
import HandS.IsInst
import HandS.Text
import HandS.Deep
import HandS.Conv
import HandS.More
import KE.GoesMore
import KE.GoesEnum
import HandS.Dict
import HandS.WordsExc
import KE.KStateDown
import HandS.Ends
import HandS.Words
import HandS.Defaults
import HandS.Head0
import HandS.Head1
import HandS.Head2
import HandS.HeadEnd
import HandS.HeadHook1
import HandS.HeadHook2
import PySem.Challenge.RW_firetogether_k63_trees_of_anything
set_option Elab.async false set_option linter.all false
set_option maxRecDepth 100000 set_option maxHeartbeats 4000000
section -- Fz1
namespace Fz
open PySem L2

/-! ### data: what a value is, by worth -/
inductive D where
  | non
  | bl (b : Bool)
  | int (i : Int)
  | str (s : Str)
  | tup (ds : List D)
  | lst (ds : List D)
  | scr (ns : List Int)
  | dct (kvs : List (D × D))
  | ins (c : Nat) (fs : List (Str × D))
  | fn (f : Nat)
  | cls (c : Nat)
  | exn (c : Nat)
  | ty (n : String)
  deriving Inhabited

/-- what a name owns: a part that nobody else holds, or a value by worth -/
inductive O where
  | val (d : D)
  | lst (os : List O)
  | dct (kvs : List (D × O))
  | ins (c : Nat) (fs : List (Str × O))
  deriving Inhabited

mutual
def O.fz : O → D
  | .val d => d
  | .lst os => .lst (O.fzs os)
  | .dct kvs => .dct (O.fzk kvs)
  | .ins c fs => .ins c (O.fzf fs)
def O.fzs : List O → List D
  | [] => []
  | o :: os => o.fz :: O.fzs os
def O.fzk : List (D × O) → List (D × D)
  | [] => []
  | (k, o) :: os => (k, o.fz) :: O.fzk os
def O.fzf : List (Str × O) → List (Str × D)
  | [] => []
  | (k, o) :: os => (k, o.fz) :: O.fzf os
end

/-- a key of a dict -/
def keyD : D → Option (List Key)
  | .tup ds => ds.mapM fun d => match d with
    | .int i => some (Sum.inl i)
    | .str s => some (Sum.inr s)
    | _ => none
  | _ => none
def key1 : D → Option Key
  | .int i => some (.inl i)
  | .str s => some (.inr s)
  | _ => none

/-- where the functions and classes stand -/
structure Tab where
  fn : Nat → Option Addr
  cls : Nat → Option Addr

abbrev Sub (G H : Hp) : Prop := ∀ b o, G b = some o → H b = some o

mutual
def RepD (K : PySem.W.Frag) (A : Tab) (G : Hp) : D → V → Prop
  | .non, v => v = .non
  | .bl b, v => v = .bl b
  | .int i, v => v = .int i
  | .str s, v => v = .str s
  | .tup ds, v => ∃ a xs, v = .ref a ∧ SqT K G a xs ∧ RepDs K A G ds xs
  | .lst ds, v => ∃ a xs, v = .ref a ∧ G a = some (.lst xs) ∧ RepDs K A G ds xs
  | .scr ns, v => ∃ a, v = .ref a ∧ SqL K G a (ns.map V.int)
  | .dct kvs, v => ∃ a, v = .ref a ∧ ((∃ xs, G a = some (.dK xs) ∧ RepK1 K A G kvs xs) ∨ (∃ xs, G a = some (.dT xs) ∧ RepKT K A G kvs xs))
  | .ins c fs, v => ∃ a C dx xs, v = .ref a ∧ A.cls c = some C ∧ G a = some (.ins C dx xs) ∧ G dx = some (.own a) ∧ RepFs K A G fs xs
  | .fn f, v => ∃ a, A.fn f = some a ∧ v = .ref a
  | .cls c, v => ∃ a, A.cls c = some a ∧ v = .ref a
  | .exn _, _ => False
  | .ty n, v => v = .ty n
def RepDs (K : PySem.W.Frag) (A : Tab) (G : Hp) : List D → List V → Prop
  | [], vs => vs = []
  | d :: ds, vs => ∃ x xs, vs = x :: xs ∧ RepD K A G d x ∧ RepDs K A G ds xs
def RepK1 (K : PySem.W.Frag) (A : Tab) (G : Hp) : List (D × D) → List (Key × V) → Prop
  | [], vs => vs = []
  | (k, d) :: ds, vs => ∃ q x xs, vs = (q, x) :: xs ∧ key1 k = some q ∧ RepD K A G d x ∧ RepK1 K A G ds xs
def RepKT (K : PySem.W.Frag) (A : Tab) (G : Hp) : List (D × D) → List (List Key × V) → Prop
  | [], vs => vs = []
  | (k, d) :: ds, vs => ∃ q x xs, vs = (q, x) :: xs ∧ keyD k = some q ∧ RepD K A G d x ∧ RepKT K A G ds xs
def RepFs (K : PySem.W.Frag) (A : Tab) (G : Hp) : List (Str × D) → List (Str × V) → Prop
  | [], vs => vs = []
  | (k, d) :: ds, vs => ∃ x xs, vs = (k, x) :: xs ∧ RepD K A G d x ∧ RepFs K A G ds xs
end

theorem Rd.sub {G G' : Hp} {a : Addr} {u : HO} (s : Sub G G') (h : Rd G a u) : Rd G' a u := by
  rcases h with h | ⟨o, h⟩
  · exact .inl (s _ _ h)
  · exact .inr ⟨o, s _ _ h⟩
theorem SqT.sub {K : PySem.W.Frag} {G G' : Hp} {a : Addr} {xs : List V} (s : Sub G G') (h : SqT K G a xs) : SqT K G' a xs := h.imp (Rd.sub s) id
theorem SqL.sub {K : PySem.W.Frag} {G G' : Hp} {a : Addr} {xs : List V} (s : Sub G G') (h : SqL K G a xs) : SqL K G' a xs := h.imp (Rd.sub s) id

section
variable {K : PySem.W.Frag} {A : Tab} {G G' : Hp}
mutual
theorem RepD.sub (s : Sub G G') : ∀ {d : D} {v : V}, RepD K A G d v → RepD K A G' d v
  | .non, v, h => h
  | .bl b, v, h => h
  | .int i, v, h => h
  | .str _, v, h => h
  | .tup ds, v, h => by
    obtain ⟨a, xs, e, q, r⟩ := h
    exact ⟨a, xs, e, SqT.sub s q, RepDs.sub s r⟩
  | .lst ds, v, h => by
    obtain ⟨a, xs, e, q, r⟩ := h
    exact ⟨a, xs, e, s _ _ q, RepDs.sub s r⟩
  | .scr ns, v, h => by
    obtain ⟨a, e, q⟩ := h
    exact ⟨a, e, SqL.sub s q⟩
  | .dct kvs, v, h => by
    obtain ⟨a, e, ⟨xs, q, r⟩ | ⟨xs, q, r⟩⟩ := h
    · exact ⟨a, e, .inl ⟨xs, s _ _ q, RepK1.sub s r⟩⟩
    · exact ⟨a, e, .inr ⟨xs, s _ _ q, RepKT.sub s r⟩⟩
  | .ins c fs, v, h => by
    obtain ⟨a, C, dx, xs, e, hc, q, q2, r⟩ := h
    exact ⟨a, C, dx, xs, e, hc, s _ _ q, s _ _ q2, RepFs.sub s r⟩
  | .fn f, v, h => h
  | .cls c, v, h => h
  | .exn _, _, h => h.elim
  | .ty n, v, h => h
theorem RepDs.sub (s : Sub G G') : ∀ {ds : List D} {vs : List V}, RepDs K A G ds vs → RepDs K A G' ds vs
  | [], _, h => h
  | d :: ds, _, h => by
    obtain ⟨x, xs, e, h1, h2⟩ := h
    exact ⟨x, xs, e, RepD.sub s h1, RepDs.sub s h2⟩
theorem RepK1.sub (s : Sub G G') : ∀ {ds : List (D × D)} {vs : List (Key × V)}, RepK1 K A G ds vs → RepK1 K A G' ds vs
  | [], _, h => h
  | (k, d) :: ds, _, h => by
    obtain ⟨q, x, xs, e, hq, h1, h2⟩ := h
    exact ⟨q, x, xs, e, hq, RepD.sub s h1, RepK1.sub s h2⟩
theorem RepKT.sub (s : Sub G G') : ∀ {ds : List (D × D)} {vs : List (List Key × V)}, RepKT K A G ds vs → RepKT K A G' ds vs
  | [], _, h => h
  | (k, d) :: ds, _, h => by
    obtain ⟨q, x, xs, e, hq, h1, h2⟩ := h
    exact ⟨q, x, xs, e, hq, RepD.sub s h1, RepKT.sub s h2⟩
theorem RepFs.sub (s : Sub G G') : ∀ {ds : List (Str × D)} {vs : List (Str × V)}, RepFs K A G ds vs → RepFs K A G' ds vs
  | [], _, h => h
  | (k, d) :: ds, _, h => by
    obtain ⟨x, xs, e, h1, h2⟩ := h
    exact ⟨x, xs, e, RepD.sub s h1, RepFs.sub s h2⟩
end

theorem RepDs.length : ∀ {ds : List D} {vs : List V}, RepDs K A G ds vs → ds.length = vs.length
  | [], _, h => by cases h; rfl
  | d :: ds, _, h => by
    obtain ⟨x, xs, rfl, h1, h2⟩ := h
    simp [RepDs.length h2]
theorem RepDs.get : ∀ {ds : List D} {vs : List V}, RepDs K A G ds vs → ∀ {i : Nat} {d : D}, ds[i]? = some d → ∃ v, vs[i]? = some v ∧ RepD K A G d v
  | [], _, h, _, _, e => by simp at e
  | d :: ds, _, h, 0, d', e => by
    obtain ⟨x, xs, rfl, h1, h2⟩ := h
    simp at e; subst e
    exact ⟨x, rfl, h1⟩
  | d :: ds, _, h, i + 1, d', e => by
    obtain ⟨x, xs, rfl, h1, h2⟩ := h
    simp at e
    obtain ⟨v, hv, r⟩ := h2.get e
    exact ⟨v, by simpa using hv, r⟩
theorem RepDs.get' : ∀ {ds : List D} {vs : List V}, RepDs K A G ds vs → ∀ {i : Nat} {v : V}, vs[i]? = some v → ∃ d, ds[i]? = some d ∧ RepD K A G d v
  | [], _, h, i, v, e => by cases h; simp at e
  | d :: ds, _, h, 0, v, e => by
    obtain ⟨x, xs, rfl, h1, h2⟩ := h
    simp at e; subst e
    exact ⟨d, rfl, h1⟩
  | d :: ds, _, h, i + 1, v, e => by
    obtain ⟨x, xs, rfl, h1, h2⟩ := h
    simp at e
    obtain ⟨d', hv, r⟩ := h2.get' e
    exact ⟨d', by simpa using hv, r⟩
theorem RepDs.append : ∀ {ds es : List D} {vs ws : List V}, RepDs K A G ds vs → RepDs K A G es ws → RepDs K A G (ds ++ es) (vs ++ ws)
  | [], _, _, _, h, g => by cases h; exact g
  | d :: ds, _, _, _, h, g => by
    obtain ⟨x, xs, rfl, h1, h2⟩ := h
    exact ⟨x, _, rfl, h1, h2.append g⟩
theorem RepDs.take : ∀ {ds : List D} {vs : List V} (n : Nat), RepDs K A G ds vs → RepDs K A G (ds.take n) (vs.take n)
  | _, _, 0, _ => by simp [RepDs]
  | [], _, n + 1, h => by cases h; simp [RepDs]
  | d :: ds, _, n + 1, h => by
    obtain ⟨x, xs, rfl, h1, h2⟩ := h
    exact ⟨x, _, rfl, h1, h2.take n⟩
theorem RepDs.drop : ∀ {ds : List D} {vs : List V} (n : Nat), RepDs K A G ds vs → RepDs K A G (ds.drop n) (vs.drop n)
  | _, _, 0, h => h
  | [], _, n + 1, h => by cases h; simp [RepDs]
  | d :: ds, _, n + 1, h => by
    obtain ⟨x, xs, rfl, h1, h2⟩ := h
    exact h2.drop n
theorem RepDs.single {d : D} {v : V} (h : RepD K A G d v) : RepDs K A G [d] [v] := ⟨v, [], rfl, h, rfl⟩
theorem RepDs.set : ∀ {ds : List D} {vs : List V}, RepDs K A G ds vs → ∀ {d : D} {v : V} (i : Nat), RepD K A G d v → RepDs K A G (ds.set i d) (vs.set i v)
  | [], _, h, _, _, _, _ => by cases h; simp [RepDs]
  | d :: ds, _, h, d', v', 0, r => by
    obtain ⟨x, xs, rfl, h1, h2⟩ := h
    exact ⟨v', xs, rfl, r, h2⟩
  | d :: ds, _, h, d', v', i + 1, r => by
    obtain ⟨x, xs, rfl, h1, h2⟩ := h
    exact ⟨x, _, rfl, h1, h2.set i r⟩
end

/-! ### owned parts, and where they stand -/
abbrev Fp := List Addr
mutual
def RepO (K : PySem.W.Frag) (A : Tab) (G H : Hp) : O → Fp → V → Prop
  | .val d, F, v => F = [] ∧ RepD K A G d v
  | .lst os, F, v => ∃ a xs F', v = .ref a ∧ H a = some (.lst xs) ∧ F = a :: F' ∧ RepOs K A G H os F' xs
  | .dct kvs, F, v => ∃ a F', v = .ref a ∧ F = a :: F' ∧ ((∃ xs, H a = some (.dK xs) ∧ RepOK1 K A G H kvs F' xs) ∨ (∃ xs, H a = some (.dT xs) ∧ RepOKT K A G H kvs F' xs))
  | .ins c fs, F, v => ∃ a C dx xs F', v = .ref a ∧ A.cls c = some C ∧ H a = some (.ins C dx xs) ∧ H dx = some (.own a) ∧ F = a :: dx :: F' ∧ RepOFs K A G H fs F' xs
def RepOs (K : PySem.W.Frag) (A : Tab) (G H : Hp) : List O → Fp → List V → Prop
  | [], F, vs => F = [] ∧ vs = []
  | o :: os, F, vs => ∃ F1 F2 x xs, F = F1 ++ F2 ∧ vs = x :: xs ∧ RepO K A G H o F1 x ∧ RepOs K A G H os F2 xs
def RepOK1 (K : PySem.W.Frag) (A : Tab) (G H : Hp) : List (D × O) → Fp → List (Key × V) → Prop
  | [], F, vs => F = [] ∧ vs = []
  | (k, o) :: os, F, vs => ∃ F1 F2 q x xs, F = F1 ++ F2 ∧ vs = (q, x) :: xs ∧ key1 k = some q ∧ RepO K A G H o F1 x ∧ RepOK1 K A G H os F2 xs
def RepOKT (K : PySem.W.Frag) (A : Tab) (G H : Hp) : List (D × O) → Fp → List (List Key × V) → Prop
  | [], F, vs => F = [] ∧ vs = []
  | (k, o) :: os, F, vs => ∃ F1 F2 q x xs, F = F1 ++ F2 ∧ vs = (q, x) :: xs ∧ keyD k = some q ∧ RepO K A G H o F1 x ∧ RepOKT K A G H os F2 xs
def RepOFs (K : PySem.W.Frag) (A : Tab) (G H : Hp) : List (Str × O) → Fp → List (Str × V) → Prop
  | [], F, vs => F = [] ∧ vs = []
  | (k, o) :: os, F, vs => ∃ F1 F2 x xs, F = F1 ++ F2 ∧ vs = (k, x) :: xs ∧ RepO K A G H o F1 x ∧ RepOFs K A G H os F2 xs
end

section
variable {K : PySem.W.Frag} {A : Tab} {G G' H H' : Hp}
mutual
/-- an owned part stays while its objects do -/
theorem RepO.keep (s : Sub G G') : ∀ {o : O} {F : Fp} {v : V}, (∀ b ∈ F, H' b = H b) → RepO K A G H o F v → RepO K A G' H' o F v
  | .val d, F, v, k, h => ⟨h.1, RepD.sub s h.2⟩
  | .lst os, F, v, k, h => by
    obtain ⟨a, xs, F', e, q, rfl, r⟩ := h
    exact ⟨a, xs, F', e, by rw [k a (by simp)]; exact q, rfl, RepOs.keep s (fun b hb => k b (by simp [hb])) r⟩
  | .dct kvs, F, v, k, h => by
    obtain ⟨a, F', e, rfl, ⟨xs, q, r⟩ | ⟨xs, q, r⟩⟩ := h
    · exact ⟨a, F', e, rfl, .inl ⟨xs, by rw [k a (by simp)]; exact q, RepOK1.keep s (fun b hb => k b (by simp [hb])) r⟩⟩
    · exact ⟨a, F', e, rfl, .inr ⟨xs, by rw [k a (by simp)]; exact q, RepOKT.keep s (fun b hb => k b (by simp [hb])) r⟩⟩
  | .ins c fs, F, v, k, h => by
    obtain ⟨a, C, dx, xs, F', e, hc, q, q2, rfl, r⟩ := h
    exact ⟨a, C, dx, xs, F', e, hc, by rw [k a (by simp)]; exact q, by rw [k dx (by simp)]; exact q2, rfl, RepOFs.keep s (fun b hb => k b (by simp [hb])) r⟩
theorem RepOs.keep (s : Sub G G') : ∀ {os : List O} {F : Fp} {vs : List V}, (∀ b ∈ F, H' b = H b) → RepOs K A G H os F vs → RepOs K A G' H' os F vs
  | [], F, vs, k, h => h
  | o :: os, F, vs, k, h => by
    obtain ⟨F1, F2, x, xs, rfl, e, r1, r2⟩ := h
    exact ⟨F1, F2, x, xs, rfl, e, RepO.keep s (fun b hb => k b (by simp [hb])) r1, RepOs.keep s (fun b hb => k b (by simp [hb])) r2⟩
theorem RepOK1.keep (s : Sub G G') : ∀ {os : List (D × O)} {F : Fp} {vs : List (Key × V)}, (∀ b ∈ F, H' b = H b) → RepOK1 K A G H os F vs → RepOK1 K A G' H' os F vs
  | [], F, vs, k, h => h
  | (_, o) :: os, F, vs, k, h => by
    obtain ⟨F1, F2, q, x, xs, rfl, e, hq, r1, r2⟩ := h
    exact ⟨F1, F2, q, x, xs, rfl, e, hq, RepO.keep s (fun b hb => k b (by simp [hb])) r1, RepOK1.keep s (fun b hb => k b (by simp [hb])) r2⟩
theorem RepOKT.keep (s : Sub G G') : ∀ {os : List (D × O)} {F : Fp} {vs : List (List Key × V)}, (∀ b ∈ F, H' b = H b) → RepOKT K A G H os F vs → RepOKT K A G' H' os F vs
  | [], F, vs, k, h => h
  | (_, o) :: os, F, vs, k, h => by
    obtain ⟨F1, F2, q, x, xs, rfl, e, hq, r1, r2⟩ := h
    exact ⟨F1, F2, q, x, xs, rfl, e, hq, RepO.keep s (fun b hb => k b (by simp [hb])) r1, RepOKT.keep s (fun b hb => k b (by simp [hb])) r2⟩
theorem RepOFs.keep (s : Sub G G') : ∀ {os : List (Str × O)} {F : Fp} {vs : List (Str × V)}, (∀ b ∈ F, H' b = H b) → RepOFs K A G H os F vs → RepOFs K A G' H' os F vs
  | [], F, vs, k, h => h
  | (_, o) :: os, F, vs, k, h => by
    obtain ⟨F1, F2, x, xs, rfl, e, r1, r2⟩ := h
    exact ⟨F1, F2, x, xs, rfl, e, RepO.keep s (fun b hb => k b (by simp [hb])) r1, RepOFs.keep s (fun b hb => k b (by simp [hb])) r2⟩
end
mutual
/-- .. read by worth, in any part of the heap that holds what it leans on -/
theorem RepO.view (s : Sub G G') : ∀ {o : O} {F : Fp} {v : V}, (∀ b ∈ F, ∀ x, H b = some x → G' b = some x) → RepO K A G H o F v → RepD K A G' o.fz v
  | .val d, F, v, k, h => RepD.sub s h.2
  | .lst os, F, v, k, h => by
    obtain ⟨a, xs, F', e, q, rfl, r⟩ := h
    exact ⟨a, xs, e, k a (by simp) _ q, RepOs.view s (fun b hb => k b (by simp [hb])) r⟩
  | .dct kvs, F, v, k, h => by
    obtain ⟨a, F', e, rfl, ⟨xs, q, r⟩ | ⟨xs, q, r⟩⟩ := h
    · exact ⟨a, e, .inl ⟨xs, k a (by simp) _ q, RepOK1.view s (fun b hb => k b (by simp [hb])) r⟩⟩
    · exact ⟨a, e, .inr ⟨xs, k a (by simp) _ q, RepOKT.view s (fun b hb => k b (by simp [hb])) r⟩⟩
  | .ins c fs, F, v, k, h => by
    obtain ⟨a, C, dx, xs, F', e, hc, q, q2, rfl, r⟩ := h
    exact ⟨a, C, dx, xs, e, hc, k a (by simp) _ q, k dx (by simp) _ q2, RepOFs.view s (fun b hb => k b (by simp [hb])) r⟩
theorem RepOs.view (s : Sub G G') : ∀ {os : List O} {F : Fp} {vs : List V}, (∀ b ∈ F, ∀ x, H b = some x → G' b = some x) → RepOs K A G H os F vs → RepDs K A G' (O.fzs os) vs
  | [], F, vs, k, h => h.2
  | o :: os, F, vs, k, h => by
    obtain ⟨F1, F2, x, xs, rfl, e, r1, r2⟩ := h
    exact ⟨x, xs, e, RepO.view s (fun b hb => k b (by simp [hb])) r1, RepOs.view s (fun b hb => k b (by simp [hb])) r2⟩
theorem RepOK1.view (s : Sub G G') : ∀ {os : List (D × O)} {F : Fp} {vs : List (Key × V)}, (∀ b ∈ F, ∀ x, H b = some x → G' b = some x) → RepOK1 K A G H os F vs → RepK1 K A G' (O.fzk os) vs
  | [], F, vs, k, h => h.2
  | (_, o) :: os, F, vs, k, h => by
    obtain ⟨F1, F2, q, x, xs, rfl, e, hq, r1, r2⟩ := h
    exact ⟨q, x, xs, e, hq, RepO.view s (fun b hb => k b (by simp [hb])) r1, RepOK1.view s (fun b hb => k b (by simp [hb])) r2⟩
theorem RepOKT.view (s : Sub G G') : ∀ {os : List (D × O)} {F : Fp} {vs : List (List Key × V)}, (∀ b ∈ F, ∀ x, H b = some x → G' b = some x) → RepOKT K A G H os F vs → RepKT K A G' (O.fzk os) vs
  | [], F, vs, k, h => h.2
  | (_, o) :: os, F, vs, k, h => by
    obtain ⟨F1, F2, q, x, xs, rfl, e, hq, r1, r2⟩ := h
    exact ⟨q, x, xs, e, hq, RepO.view s (fun b hb => k b (by simp [hb])) r1, RepOKT.view s (fun b hb => k b (by simp [hb])) r2⟩
theorem RepOFs.view (s : Sub G G') : ∀ {os : List (Str × O)} {F : Fp} {vs : List (Str × V)}, (∀ b ∈ F, ∀ x, H b = some x → G' b = some x) → RepOFs K A G H os F vs → RepFs K A G' (O.fzf os) vs
  | [], F, vs, k, h => h.2
  | (_, o) :: os, F, vs, k, h => by
    obtain ⟨F1, F2, x, xs, rfl, e, r1, r2⟩ := h
    exact ⟨x, xs, e, RepO.view s (fun b hb => k b (by simp [hb])) r1, RepOFs.view s (fun b hb => k b (by simp [hb])) r2⟩
end
end
end Fz
end

section -- Fz2
namespace Fz
open PySem L2

/-! ### names' values, what an expression hands on -/
abbrev En := List (Option O)
inductive Res (α : Type) where
  | ok (a : α)
  | exc (c : Nat) (e : En)
  | stuck
inductive Sel where
  | ix (k : Nat)
  | key (d : D)
  | at (f : Str)
inductive B where
  | slot (i : Nat)
  | nest (i : Nat) (p : List Sel)
  | tmp (o : O)

def Res.bind {α β : Type} (r : Res α) (f : α → Res β) : Res β := match r with
  | .ok a => f a
  | .exc c e => .exc c e
  | .stuck => .stuck
@[simp] theorem Res.bind_ok {α β : Type} (a : α) (f : α → Res β) : (Res.ok a).bind f = f a := rfl
@[simp] theorem Res.bind_exc {α β : Type} (c : Nat) (e : En) (f : α → Res β) : (Res.exc c e : Res α).bind f = .exc c e := rfl
@[simp] theorem Res.bind_stuck {α β : Type} (f : α → Res β) : (Res.stuck : Res α).bind f = .stuck := rfl
def Res.ofO {α : Type} (o : Option α) : Res α := match o with
  | some a => .ok a
  | none => .stuck
@[simp] theorem Res.ofO_some {α : Type} (a : α) : Res.ofO (some a) = .ok a := rfl
@[simp] theorem Res.ofO_none {α : Type} : Res.ofO (none : Option α) = .stuck := rfl

def Res.wp {α : Type} (r : Res α) (Q : α → Prop) (E : Nat → En → Prop) : Prop := match r with
  | .ok a => Q a
  | .exc c e => E c e
  | .stuck => False
theorem Res.wp_bind {α β : Type} {r : Res α} {f : α → Res β} {Q : β → Prop} {E : Nat → En → Prop} : (r.bind f).wp Q E = r.wp (fun a => (f a).wp Q E) E := by
  cases r <;> rfl
theorem Res.wp_mono {α : Type} {r : Res α} {Q Q' : α → Prop} {E E' : Nat → En → Prop} (h : r.wp Q E) (h1 : ∀ a, Q a → Q' a) (h2 : ∀ c e, E c e → E' c e) : r.wp Q' E' := by
  cases r with
  | ok a => exact h1 a h
  | exc c e => exact h2 c e h
  | stuck => exact h
theorem Res.wp_ofO {α : Type} {o : Option α} {Q : α → Prop} {E : Nat → En → Prop} (h : (Res.ofO o).wp Q E) : ∃ a, o = some a ∧ Q a := by
  cases o with
  | none => exact h.elim
  | some a => exact ⟨a, rfl, h⟩

/-! ### states -/
structure StOk (K : PySem.W.Frag) (A : Tab) (G H : Hp) (σ : St) (env : En) (Fs : Nat → Fp) : Prop where
  sub : Sub G H
  len : σ.length = env.length
  at_ : ∀ i o, env[i]? = some (some o) → ∃ v, σ[i]? = some (some v) ∧ RepO K A G H o (Fs i) v
  nd : ∀ i, (Fs i).Nodup
  dj : ∀ i j b, b ∈ Fs i → b ∈ Fs j → i = j
  own : ∀ i b, b ∈ Fs i → G b = none ∧ H b ≠ none
structure TOk (G H : Hp) (Fs : Nat → Fp) (T : Fp) : Prop where
  nd : T.Nodup
  dj : ∀ i b, b ∈ T → b ∉ Fs i
  own : ∀ b, b ∈ T → G b = none ∧ H b ≠ none
structure Stp (G H : Hp) (Fs : Nat → Fp) (G' H' : Hp) (Fs' : Nat → Fp) (T : Fp) : Prop where
  g : Sub G G'
  keep : ∀ b x, H b = some x → (∀ i, b ∉ Fs i) → H' b = some x
  gnew : ∀ b x, G' b = some x → G b = some x ∨ (∃ i, b ∈ Fs i) ∨ H b = none
  fnew : ∀ b, ((∃ i, b ∈ Fs' i) ∨ b ∈ T) → (∃ i, b ∈ Fs i) ∨ H b = none
/-- the slots that are not spoken of stay -/
def Same' (occ : Nat → Bool) (H : Hp) (env : En) (Fs : Nat → Fp) (H' : Hp) (env' : En) (Fs' : Nat → Fp) : Prop :=
  ∀ i, occ i = false → Fs' i = Fs i ∧ (∀ b ∈ Fs i, H' b = H b) ∧ env'[i]? = env[i]?

theorem TOk.nil {G H : Hp} {Fs : Nat → Fp} : TOk G H Fs [] := ⟨by simp, by simp, by simp⟩
theorem Stp.refl {G H : Hp} {Fs : Nat → Fp} : Stp G H Fs G H Fs [] :=
  ⟨fun _ _ h => h, fun _ _ h _ => h, fun _ _ h => .inl h, fun b h => h.elim .inl (fun z => nomatch z)⟩
theorem Same'.refl {occ : Nat → Bool} {H : Hp} {env : En} {Fs : Nat → Fp} : Same' occ H env Fs H env Fs := fun _ _ => ⟨rfl, fun _ _ => rfl, rfl⟩
theorem Same'.trans {o1 o2 : Nat → Bool} {H H1 H2 : Hp} {env env1 env2 : En} {Fs Fs1 Fs2 : Nat → Fp} (a : Same' o1 H env Fs H1 env1 Fs1) (b : Same' o2 H1 env1 Fs1 H2 env2 Fs2) :
    Same' (fun i => o1 i || o2 i) H env Fs H2 env2 Fs2 := fun i h => by
  simp only [Bool.or_eq_false_iff] at h
  obtain ⟨f1, k1, e1⟩ := a i h.1
  obtain ⟨f2, k2, e2⟩ := b i h.2
  exact ⟨f2.trans f1, fun c hc => (k2 c (by rw [f1]; exact hc)).trans (k1 c hc), e2.trans e1⟩
theorem Same'.mono {o1 o2 : Nat → Bool} {H H1 : Hp} {env env1 : En} {Fs Fs1 : Nat → Fp} (a : Same' o1 H env Fs H1 env1 Fs1) (h : ∀ i, o2 i = false → o1 i = false) : Same' o2 H env Fs H1 env1 Fs1 :=
  fun i hi => a i (h i hi)
/-- one step, then another: the first one's temporary part T stays -/
theorem Stp.trans {G H G1 H1 G2 H2 : Hp} {Fs Fs1 Fs2 : Nat → Fp} {T T2 : Fp} (a : Stp G H Fs G1 H1 Fs1 T) (tk : TOk G1 H1 Fs1 T) (b : Stp G1 H1 Fs1 G2 H2 Fs2 T2) : Stp G H Fs G2 H2 Fs2 (T ++ T2) := by
  refine ⟨fun c x h => b.g _ _ (a.g _ _ h), fun c x h hn => ?_, fun c x h => ?_, fun c h => ?_⟩
  · have e1 := a.keep c x h hn
    refine b.keep c x e1 fun i hi => ?_
    rcases a.fnew c (.inl ⟨i, hi⟩) with ⟨j, q⟩ | q
    · exact hn j q
    · rw [h] at q; cases q
  · rcases b.gnew c x h with q | ⟨i, q⟩ | q
    · exact a.gnew c x q
    · exact .inr (a.fnew c (.inl ⟨i, q⟩))
    · cases e : H c with
      | none => exact .inr (.inr rfl)
      | some y =>
        by_cases hn : ∃ i, c ∈ Fs i
        · exact .inr (.inl hn)
        · have := a.keep c y e fun i hi => hn ⟨i, hi⟩
          rw [q] at this; cases this
  · have go : ((∃ i, c ∈ Fs1 i) ∨ H1 c = none) → (∃ i, c ∈ Fs i) ∨ H c = none := fun z => by
      rcases z with ⟨i, q⟩ | q
      · exact a.fnew c (.inl ⟨i, q⟩)
      · cases e : H c with
        | none => exact .inr rfl
        | some y =>
          by_cases hn : ∃ i, c ∈ Fs i
          · exact .inl hn
          · have := a.keep c y e fun i hi => hn ⟨i, hi⟩
            rw [q] at this; cases this
    rcases h with ⟨i, q⟩ | q
    · exact go (b.fnew c (.inl ⟨i, q⟩))
    · rcases List.mem_append.mp q with q | q
      · exact a.fnew c (.inr q)
      · exact go (b.fnew c (.inr q))
theorem Stp.drop {G H G1 H1 : Hp} {Fs Fs1 : Nat → Fp} {T T' : Fp} (a : Stp G H Fs G1 H1 Fs1 T) (h : ∀ b ∈ T', b ∈ T) : Stp G H Fs G1 H1 Fs1 T' :=
  ⟨a.g, a.keep, a.gnew, fun b z => a.fnew b (z.imp id (h b))⟩
/-- a temporary part stays through another step -/
theorem TOk.step {G1 H1 G2 H2 : Hp} {Fs1 Fs2 : Nat → Fp} {T T2 : Fp} (tk : TOk G1 H1 Fs1 T) (b : Stp G1 H1 Fs1 G2 H2 Fs2 T2) (t2 : TOk G2 H2 Fs2 T2) : TOk G2 H2 Fs2 (T ++ T2) ∧ ∀ c ∈ T, H2 c = H1 c := by
  have same : ∀ c ∈ T, H2 c = H1 c := fun c hc => by
    cases e : H1 c with
    | none => exact absurd e (tk.own c hc).2
    | some x => exact b.keep c x e fun i hi => tk.dj i c hc hi
  refine ⟨⟨?_, ?_, ?_⟩, same⟩
  · refine List.nodup_append.mpr ⟨tk.nd, t2.nd, fun c hc d hd e => ?_⟩
    subst e
    rcases b.fnew c (.inr hd) with ⟨i, q⟩ | q
    · exact tk.dj i c hc q
    · exact (tk.own c hc).2 q
  · intro i c hc hi
    rcases List.mem_append.mp hc with hc | hc
    · rcases b.fnew c (.inl ⟨i, hi⟩) with ⟨j, q⟩ | q
      · exact tk.dj j c hc q
      · exact (tk.own c hc).2 q
    · exact t2.dj i c hc hi
  · intro c hc
    rcases List.mem_append.mp hc with hc | hc
    · refine ⟨?_, by rw [same c hc]; exact (tk.own c hc).2⟩
      cases e : G2 c with
      | none => rfl
      | some x =>
        rcases b.gnew c x e with q | ⟨i, q⟩ | q
        · rw [(tk.own c hc).1] at q; cases q
        · exact absurd q (tk.dj i c hc)
        · exact absurd q (tk.own c hc).2
    · exact t2.own c hc

/-! ### parts of parts -/
def O.sub : O → Sel → Option O
  | .lst os, .ix k => os[k]?
  | .ins _ fs, .at f => fs.lookup f
  | _, _ => none
def O.follow : O → List Sel → Option O
  | o, [] => some o
  | o, s :: p => match o.sub s with
    | some o' => o'.follow p
    | none => none
def fset (f : Str) (o : O) : List (Str × O) → List (Str × O)
  | [] => []
  | (g, x) :: r => if f = g then (g, o) :: r else (g, x) :: fset f o r
def O.put : O → List Sel → O → O
  | _, [], o2 => o2
  | .lst os, .ix k :: p, o2 => match os[k]? with
    | some o => .lst (os.set k (o.put p o2))
    | none => .lst os
  | .ins c fs, .at f :: p, o2 => match fs.lookup f with
    | some o => .ins c (fset f (o.put p o2) fs)
    | none => .ins c fs
  | o, _ :: _, _ => o

section
variable {K : PySem.W.Frag} {A : Tab} {G H : Hp}
theorem RepOs.at_ : ∀ {os : List O} {F : Fp} {vs : List V}, RepOs K A G H os F vs → ∀ {k : Nat} {o : O}, os[k]? = some o → ∃ v F1 F' F2, vs[k]? = some v ∧ F = F1 ++ F' ++ F2 ∧ RepO K A G H o F' v ∧
    ∀ {G2 H2 : Hp} {Fn : Fp} {o2 : O}, Sub G G2 → (∀ b ∈ F1 ++ F2, H2 b = H b) → RepO K A G2 H2 o2 Fn v → RepOs K A G2 H2 (os.set k o2) (F1 ++ Fn ++ F2) vs
  | [], _, _, _, k, o, e => by simp at e
  | x :: os, F, vs, h, 0, o, e => by
    obtain ⟨F1, F2, v, ws, rfl, rfl, r1, r2⟩ := h
    simp at e; subst e
    refine ⟨v, [], F1, F2, rfl, by simp, r1, fun {G2 H2 Fn o2} s k r => ?_⟩
    exact ⟨Fn, F2, v, ws, by simp, rfl, r, RepOs.keep s (fun b hb => k b (by simp [hb])) r2⟩
  | x :: os, F, vs, h, k + 1, o, e => by
    obtain ⟨F1, F2, v, ws, rfl, rfl, r1, r2⟩ := h
    simp at e
    obtain ⟨v', A1, F', A2, hv, hF, r, pu⟩ := RepOs.at_ r2 e
    refine ⟨v', F1 ++ A1, F', A2, by simpa using hv, by rw [hF]; simp, r, fun {G2 H2 Fn o2} s k r' => ?_⟩
    exact ⟨F1, A1 ++ Fn ++ A2, v, ws, by simp, rfl, RepO.keep s (fun b hb => k b (by simp [hb])) r1, pu s (fun b hb => k b (by simp at hb ⊢; rcases hb with z | z <;> simp [z])) r'⟩
theorem RepOFs.at_ : ∀ {fs : List (Str × O)} {F : Fp} {vs : List (Str × V)}, RepOFs K A G H fs F vs → ∀ {f : Str} {o : O}, fs.lookup f = some o → ∃ v F1 F' F2, vs.lookup f = some v ∧ F = F1 ++ F' ++ F2 ∧ RepO K A G H o F' v ∧
    ∀ {G2 H2 : Hp} {Fn : Fp} {o2 : O}, Sub G G2 → (∀ b ∈ F1 ++ F2, H2 b = H b) → RepO K A G2 H2 o2 Fn v → RepOFs K A G2 H2 (fset f o2 fs) (F1 ++ Fn ++ F2) vs
  | [], _, _, _, f, o, e => by simp at e
  | (g, x) :: fs, F, vs, h, f, o, e => by
    obtain ⟨F1, F2, v, ws, rfl, rfl, r1, r2⟩ := h
    by_cases hg : f = g
    · subst hg
      rw [List.lookup_cons_self] at e
      cases e
      refine ⟨v, [], F1, F2, by rw [List.lookup_cons_self], by simp, r1, fun {G2 H2 Fn o2} s k r => ?_⟩
      unfold fset
      rw [if_pos rfl]
      exact ⟨Fn, F2, v, ws, by simp, rfl, r, RepOFs.keep s (fun b hb => k b (by simp [hb])) r2⟩
    · have hgb : (f == g) = false := by simpa using hg
      rw [List.lookup_cons, hgb] at e
      obtain ⟨v', A1, F', A2, hv, hF, r, pu⟩ := RepOFs.at_ r2 e
      refine ⟨v', F1 ++ A1, F', A2, by rw [List.lookup_cons, hgb]; exact hv, by rw [hF]; simp, r, fun {G2 H2 Fn o2} s k r' => ?_⟩
      unfold fset
      rw [if_neg hg]
      exact ⟨F1, A1 ++ Fn ++ A2, v, ws, by simp, rfl, RepO.keep s (fun b hb => k b (by simp [hb])) r1, pu s (fun b hb => k b (by simp at hb ⊢; rcases hb with z | z <;> simp [z])) r'⟩
theorem RepO.sub_ : ∀ {o : O} {F : Fp} {v : V} {s : Sel} {o' : O}, RepO K A G H o F v → o.sub s = some o' → ∃ v' F1 F' F2, F = F1 ++ F' ++ F2 ∧ RepO K A G H o' F' v' ∧
    ∀ {G2 H2 : Hp} {Fn : Fp} {o2 : O}, Sub G G2 → (∀ b ∈ F1 ++ F2, H2 b = H b) → RepO K A G2 H2 o2 Fn v' → RepO K A G2 H2 (o.put [s] o2) (F1 ++ Fn ++ F2) v
  | .lst os, F, v, .ix k, o', h, e => by
    obtain ⟨a, xs, F0, rfl, q, rfl, r⟩ := h
    have e' : os[k]? = some o' := e
    obtain ⟨v', F1, F', F2, hv, rfl, r', pu⟩ := RepOs.at_ r e'
    refine ⟨v', a :: F1, F', F2, by simp, r', fun {G2 H2 Fn o2} s kk r2 => ?_⟩
    simp only [O.put, e']
    exact ⟨a, xs, _, rfl, by rw [kk a (by simp)]; exact q, by simp, pu s (fun b hb => kk b (by simp at hb ⊢; rcases hb with z | z <;> simp [z])) r2⟩
  | .ins c fs, F, v, .at f, o', h, e => by
    obtain ⟨a, C, dx, xs, F0, rfl, hc, q, q2, rfl, r⟩ := h
    have e' : fs.lookup f = some o' := e
    obtain ⟨v', F1, F', F2, hv, rfl, r', pu⟩ := RepOFs.at_ r e'
    refine ⟨v', a :: dx :: F1, F', F2, by simp, r', fun {G2 H2 Fn o2} s kk r2 => ?_⟩
    simp only [O.put, e']
    exact ⟨a, C, dx, xs, _, rfl, hc, by rw [kk a (by simp)]; exact q, by rw [kk dx (by simp)]; exact q2, by simp, pu s (fun b hb => kk b (by simp at hb ⊢; rcases hb with z | z <;> simp [z])) r2⟩
  | .val _, _, _, _, _, _, e => by cases e
  | .dct _, _, _, s, _, _, e => by cases s <;> cases e
  | .lst _, _, _, .key _, _, _, e => by cases e
  | .lst _, _, _, .at _, _, _, e => by cases e
  | .ins _ _, _, _, .ix _, _, _, e => by cases e
  | .ins _ _, _, _, .key _, _, _, e => by cases e
end

/-- what an expression's answer stands for: T is its own part -/
def NestOk (K : PySem.W.Frag) (A : Tab) (G H : Hp) (σ : St) (env : En) (Fs : Nat → Fp) (i : Nat) (p : List Sel) (v : V) : Prop :=
  ∃ o o' F1 F' F2, env[i]? = some (some o) ∧ o.follow p = some o' ∧ Fs i = F1 ++ F' ++ F2 ∧ RepO K A G H o' F' v ∧
    ∀ {G2 H2 : Hp} {Fn : Fp} {o2 : O}, Sub G G2 → (∀ b ∈ F1 ++ F2, H2 b = H b) → RepO K A G2 H2 o2 Fn v → ∀ v0, σ[i]? = some (some v0) → RepO K A G2 H2 (o.put p o2) (F1 ++ Fn ++ F2) v0
def BorOk (K : PySem.W.Frag) (A : Tab) (G H : Hp) (σ : St) (env : En) (Fs : Nat → Fp) (T : Fp) (v : V) : B → Prop
  | .slot i => T = [] ∧ σ[i]? = some (some v)
  | .nest i p => T = [] ∧ NestOk K A G H σ env Fs i p v
  | .tmp o => RepO K A G H o T v
def BorsOk (K : PySem.W.Frag) (A : Tab) (G H : Hp) (σ : St) (env : En) (Fs : Nat → Fp) : Fp → List V → List B → Prop
  | T, vs, [] => T = [] ∧ vs = []
  | T, vs, b :: bs => ∃ T1 T2 x xs, T = T1 ++ T2 ∧ vs = x :: xs ∧ BorOk K A G H σ env Fs T1 x b ∧ BorsOk K A G H σ env Fs T2 xs bs
/-- an answer that stays while what comes next speaks of the slots occ -/
def stable (occ : Nat → Bool) : B → Bool
  | .nest i _ => !occ i
  | _ => true

/-- an answer's slot is among those spoken of -/
def BIn (occ : Nat → Bool) : B → Prop
  | .slot i => occ i = true
  | .nest i _ => occ i = true
  | .tmp _ => True
theorem BIn.mono {o1 o2 : Nat → Bool} (h : ∀ i, o1 i = true → o2 i = true) {b : B} (x : BIn o1 b) : BIn o2 b := by
  cases b with
  | slot i => exact h i x
  | nest i p => exact h i x
  | tmp o => trivial
def SemE (K : PySem.W.Frag) (A : Tab) (W : WX) (occ : Nat → Bool) (t : TE) (f : En → Res (B × En)) : Prop :=
  ∀ (G H : Hp) (σ : St) (env : En) (Fs : Nat → Fp) (Q : VK), StOk K A G H σ env Fs →
    (f env).wp (fun r => ∀ v G' H' Fs' T, Stp G H Fs G' H' Fs' T → StOk K A G' H' σ r.2 Fs' → Same' occ H env Fs H' r.2 Fs' → TOk G' H' Fs' T → BorOk K A G' H' σ r.2 Fs' T v r.1 → BIn occ r.1 → Q v H')
      (fun c env' => ∀ G' H' Fs' C d, Stp G H Fs G' H' Fs' [] → StOk K A G' H' σ env' Fs' → Same' occ H env Fs H' env' Fs' → A.cls c = some C → W (.ref C) d σ H') → t σ H Q
def SemA (K : PySem.W.Frag) (A : Tab) (W : WX) (occ : Nat → Bool) (t : TA) (f : En → Res (List B × En)) : Prop :=
  ∀ (G H : Hp) (σ : St) (env : En) (Fs : Nat → Fp) (Q : List V → Hp → Prop), StOk K A G H σ env Fs →
    (f env).wp (fun r => ∀ vs G' H' Fs' T, Stp G H Fs G' H' Fs' T → StOk K A G' H' σ r.2 Fs' → Same' occ H env Fs H' r.2 Fs' → TOk G' H' Fs' T → BorsOk K A G' H' σ r.2 Fs' T vs r.1 → (∀ b ∈ r.1, BIn occ b) → Q vs H')
      (fun c env' => ∀ G' H' Fs' C d, Stp G H Fs G' H' Fs' [] → StOk K A G' H' σ env' Fs' → Same' occ H env Fs H' env' Fs' → A.cls c = some C → W (.ref C) d σ H') → t σ H Q

def evsNil : En → Res (List B × En) := fun env => .ok ([], env)
def evsCons (occ2 : Nat → Bool) (f : En → Res (B × En)) (g : En → Res (List B × En)) : En → Res (List B × En) := fun env =>
  (f env).bind fun r => (g r.2).bind fun q => if stable occ2 r.1 = true then .ok (r.1 :: q.1, q.2) else .stuck

section
variable {K : PySem.W.Frag} {A : Tab} {W : WX} {occ occ1 occ2 : Nat → Bool}
theorem BorOk.step {G1 H1 G2 H2 : Hp} {σ : St} {env1 env2 : En} {Fs1 Fs2 : Nat → Fp} {T T2 : Fp} {v : V} {b : B} (st : Stp G1 H1 Fs1 G2 H2 Fs2 T2) (so : StOk K A G2 H2 σ env2 Fs2) (sm : Same' occ2 H1 env1 Fs1 H2 env2 Fs2)
    (hs : stable occ2 b = true) (k : ∀ c ∈ T, H2 c = H1 c) (_so1 : StOk K A G1 H1 σ env1 Fs1) (h : BorOk K A G1 H1 σ env1 Fs1 T v b) : BorOk K A G2 H2 σ env2 Fs2 T v b := by
  cases b with
  | slot i =>
    exact h
  | tmp o => exact RepO.keep st.g k h
  | nest i p =>
    obtain ⟨e, o, o', F1, F', F2, ho, hf, hF, r, pu⟩ := h
    have hoc : occ2 i = false := by simpa [stable] using hs
    obtain ⟨f2, k2, e2⟩ := sm i hoc
    have k2' : ∀ b ∈ F1 ++ F' ++ F2, H2 b = H1 b := fun b hb => k2 b (by rw [hF]; exact hb)
    refine ⟨e, o, o', F1, F', F2, e2.trans ho, hf, f2.trans hF, RepO.keep st.g (fun b hb => k2' b (by simp [hb])) r, fun {G3 H3 Fn o2} s k3 r3 v0 hv0 => ?_⟩
    refine pu (fun c x z => s _ _ (st.g _ _ z)) (fun b hb => (k3 b hb).trans (k2' b ?_)) r3 v0 hv0
    rcases List.mem_append.mp hb with z | z <;> simp [z]
theorem semA_nil : SemA K A W occ tNil evsNil := by
  intro G H σ env Fs Q so h
  exact h [] G H Fs [] .refl so .refl .nil ⟨rfl, rfl⟩ (by simp)
theorem semA_cons {t1 : TE} {t2 : TA} {f : En → Res (B × En)} {g : En → Res (List B × En)} (h1 : SemE K A W occ1 t1 f) (h2 : SemA K A W occ2 t2 g) :
    SemA K A W (fun i => occ1 i || occ2 i) (tCons t1 t2) (evsCons occ2 f g) := by
  intro G H σ env Fs Q so h
  refine h1 G H σ env Fs _ so ?_
  have h' := h
  unfold evsCons at h'
  rw [Res.wp_bind] at h'
  refine Res.wp_mono h' (fun r hr v G1 H1 Fs1 T st1 so1 sm1 tk1 b1 i1 => ?_) fun c env' he G' H' Fs' C d s1 s2 s3 s4 => he G' H' Fs' C d s1 s2 (s3.mono fun i hi => by simp at hi; exact hi.1) s4
  refine h2 G1 H1 σ r.2 Fs1 _ so1 ?_
  cases eg : g r.2 with
  | stuck => rw [eg] at hr; exact hr.elim
  | exc c e =>
    rw [eg] at hr
    intro G' H' Fs' C d s1 s2 s3 s4
    exact hr G' H' Fs' C d ((st1.trans tk1 s1).drop (by simp)) s2 (sm1.trans s3) s4
  | ok q =>
    rw [eg] at hr
    have hr' : (if stable occ2 r.1 = true then (Res.ok (r.1 :: q.1, q.2) : Res (List B × En)) else .stuck).wp _ _ := hr
    by_cases hst : stable occ2 r.1 = true
    · rw [if_pos hst] at hr'
      intro vs G2 H2 Fs2 T2 st2 so2 sm2 tk2 b2 i2
      obtain ⟨tk, same⟩ := tk1.step st2 tk2
      exact hr' (v :: vs) G2 H2 Fs2 (T ++ T2) (st1.trans tk1 st2) so2 (sm1.trans sm2) tk ⟨T, T2, v, vs, rfl, rfl, b1.step st2 so2 sm2 hst same so1, b2⟩ (fun b hb => by
        rcases List.mem_cons.mp hb with rfl | hb
        · exact i1.mono fun i h => by simp [h]
        · exact (i2 b hb).mono fun i h => by simp [h])
    · rw [if_neg hst] at hr'
      exact hr'.elim
end
end Fz
end

section -- Fz3
namespace Fz
open PySem L2

def upf (Fs : Nat → Fp) (i : Nat) (F : Fp) : Nat → Fp := fun j => if j = i then F else Fs j
theorem upf_same {Fs : Nat → Fp} {i : Nat} {F : Fp} : upf Fs i F i = F := by simp [upf]
theorem upf_ne {Fs : Nat → Fp} {i j : Nat} {F : Fp} (h : j ≠ i) : upf Fs i F j = Fs j := by simp [upf, h]
def frz (G H : Hp) (F : Fp) : Hp := fun b => if b ∈ F then H b else G b

section
variable {K : PySem.W.Frag} {A : Tab} {G H : Hp} {σ : St} {env : En} {Fs : Nat → Fp}
theorem StOk.slot (so : StOk K A G H σ env Fs) {i : Nat} {o : O} (e : env[i]? = some (some o)) {v : V} (hv : σ[i]? = some (some v)) : RepO K A G H o (Fs i) v := by
  obtain ⟨v', h1, h2⟩ := so.at_ i o e
  rw [hv] at h1; cases h1
  exact h2
/-- a slot's part is replaced: v's object stays where it is; Fn is younger or was the slot's -/
theorem StOk.put {G' H' : Hp} {i : Nat} {o : O} {F : Fp} (so : StOk K A G H σ env Fs) (hi : i < env.length) (sub : Sub G' H') (g : Sub G G') (hr : ∃ v, σ[i]? = some (some v) ∧ RepO K A G' H' o F v) (nd : F.Nodup)
    (hF : ∀ b ∈ F, (b ∈ Fs i ∨ H b = none) ∧ G' b = none ∧ H' b ≠ none)
    (gn : ∀ b, G b = none → G' b ≠ none → b ∈ Fs i ∨ H b = none) (k : ∀ b, b ∉ Fs i → H b ≠ none → H' b = H b) : StOk K A G' H' σ (env.set i (some o)) (upf Fs i F) := by
  have djF : ∀ j b, j ≠ i → b ∈ Fs j → b ∉ F := fun j b hj hb hf => by
    rcases (hF b hf).1 with z | z
    · exact hj (so.dj j i b hb z)
    · exact (so.own j b hb).2 z
  refine ⟨sub, by rw [List.length_set]; exact so.len, fun j o' e => ?_, fun j => ?_, fun j l b hj hl => ?_, fun j b hb => ?_⟩
  · by_cases hj : j = i
    · subst hj
      rw [List.getElem?_set_self hi] at e
      cases e
      rw [upf_same]; exact hr
    · rw [List.getElem?_set_ne (Ne.symm hj)] at e
      obtain ⟨v, h1, h2⟩ := so.at_ j o' e
      refine ⟨v, h1, ?_⟩
      rw [upf_ne hj]
      exact RepO.keep g (fun b hb => k b (fun z => hj (so.dj j i b hb z)) (so.own j b hb).2) h2
  · by_cases hj : j = i
    · subst hj; rw [upf_same]; exact nd
    · rw [upf_ne hj]; exact so.nd j
  · by_cases h1 : j = i
    · by_cases h2 : l = i
      · rw [h1, h2]
      · rw [h1, upf_same] at hj
        rw [upf_ne h2] at hl
        exact absurd hj (djF l b h2 hl)
    · rw [upf_ne h1] at hj
      by_cases h2 : l = i
      · rw [h2, upf_same] at hl
        exact absurd hl (djF j b h1 hj)
      · rw [upf_ne h2] at hl
        exact so.dj j l b hj hl
  · by_cases hj : j = i
    · subst hj; rw [upf_same] at hb; exact (hF b hb).2
    · rw [upf_ne hj] at hb
      have nF : b ∉ Fs i := fun z => hj (so.dj j i b hb z)
      obtain ⟨g0, h0⟩ := so.own j b hb
      refine ⟨?_, by rw [k b nF h0]; exact h0⟩
      cases e : G' b with
      | none => rfl
      | some x =>
        rcases gn b g0 (by rw [e]; simp) with z | z
        · exact absurd z nF
        · exact absurd z h0

theorem frz_sub {F : Fp} (h : ∀ b ∈ F, G b = none) : Sub G (frz G H F) := fun b o e => by
  unfold frz
  split
  · rename_i hb; rw [h b hb] at e; cases e
  · exact e
theorem frz_le {F : Fp} (s : Sub G H) : Sub (frz G H F) H := fun b o e => by
  unfold frz at e
  split at e
  · exact e
  · exact s _ _ e

/-- an owned part becomes a value by worth -/
theorem freeze_nest {i : Nat} {p : List Sel} {v : V} {o o' : O} (so : StOk K A G H σ env Fs) (nk : NestOk K A G H σ env Fs i p v) (e : env[i]? = some (some o)) (ef : o.follow p = some o') :
    ∃ G' Fs', Stp G H Fs G' H Fs' [] ∧ StOk K A G' H σ (env.set i (some (o.put p (.val o'.fz)))) Fs' ∧ RepD K A G' o'.fz v ∧ ∀ j, j ≠ i → Fs' j = Fs j := by
  obtain ⟨o1, o2, F1, F', F2, e1, ef1, hF, r, pu⟩ := nk
  rw [e] at e1; cases e1
  rw [ef] at ef1; cases ef1
  obtain ⟨v0, hv0, r0⟩ := so.at_ i o e
  have hi : i < env.length := (List.getElem?_eq_some_iff.mp e).1
  have inF : ∀ b ∈ F1 ++ F' ++ F2, G b = none ∧ H b ≠ none := fun b hb => so.own i b (by rw [hF]; exact hb)
  have s1 : Sub G (frz G H F') := frz_sub fun b hb => (inF b (by simp [hb])).1
  have nd := so.nd i
  rw [hF] at nd
  have nd1 : (F1 ++ F2).Nodup := by
    rw [List.append_assoc] at nd
    have := List.nodup_append.mp nd
    refine List.nodup_append.mpr ⟨this.1, (List.nodup_append.mp this.2.1).2.1, fun a ha b hb => this.2.2 a ha b (by simp [hb])⟩
  have dj : ∀ b ∈ F1 ++ F2, b ∉ F' := fun b hb hb' => by
    rw [List.append_assoc] at nd
    have h1 := List.nodup_append.mp nd
    rcases List.mem_append.mp hb with z | z
    · exact h1.2.2 b z b (by simp [hb']) rfl
    · exact (List.nodup_append.mp h1.2.1).2.2 b hb' b z rfl
  have rd : RepD K A (frz G H F') o'.fz v := RepO.view s1 (fun b hb x e => by unfold frz; rw [if_pos hb]; exact e) r
  have rp : RepO K A (frz G H F') H (o.put p (.val o'.fz)) (F1 ++ [] ++ F2) v0 := pu (o2 := .val o'.fz) (Fn := []) s1 (fun _ _ => rfl) ⟨rfl, rd⟩ v0 hv0
  rw [List.append_nil] at rp
  refine ⟨frz G H F', upf Fs i (F1 ++ F2), ⟨s1, fun b x h _ => h, fun b x h => ?_, fun b h => ?_⟩, so.put hi (frz_le so.sub) s1 ⟨v0, hv0, rp⟩ nd1 (fun b hb => ⟨.inl ?_, ?_, ?_⟩) (fun b h1 h2 => ?_) (fun _ _ _ => rfl), rd, fun j hj => upf_ne hj⟩
  · unfold frz at h
    split at h
    · rename_i hb; exact .inr (.inl ⟨i, by rw [hF]; simp [hb]⟩)
    · exact .inl h
  · rcases h with ⟨j, h⟩ | h
    · by_cases hj : j = i
      · subst hj
        rw [upf_same] at h
        exact .inl ⟨j, by rw [hF]; rcases List.mem_append.mp h with z | z <;> simp [z]⟩
      · rw [upf_ne hj] at h
        exact .inl ⟨j, h⟩
    · cases h
  · rw [hF]; rcases List.mem_append.mp hb with z | z <;> simp [z]
  · unfold frz
    rw [if_neg (dj b hb)]
    exact (inF b (by rcases List.mem_append.mp hb with z | z <;> simp [z])).1
  · exact (inF b (by rcases List.mem_append.mp hb with z | z <;> simp [z])).2
  · unfold frz at h2
    split at h2
    · rename_i hb; exact .inl (by rw [hF]; simp [hb])
    · exact absurd h1 h2
theorem nest_nil {i : Nat} {v : V} {o : O} (so : StOk K A G H σ env Fs) (e : env[i]? = some (some o)) (hv : σ[i]? = some (some v)) : NestOk K A G H σ env Fs i [] v := by
  refine ⟨o, o, [], Fs i, [], e, rfl, by simp, so.slot e hv, fun {G2 H2 Fn o2} _ _ r v0 hv0 => ?_⟩
  rw [hv] at hv0; cases hv0
  simpa [O.put] using r

def tou (i : Nat) : B → Bool
  | .slot j => decide (j = i)
  | .nest j _ => decide (j = i)
  | .tmp _ => false
/-! ### what an answer is worth; what it lends; what it gives away -/
def vw (env : En) : B → Option D
  | .slot i => match env[i]? with
    | some (some o) => some o.fz
    | _ => none
  | .nest i p => match env[i]? with
    | some (some o) => match o.follow p with
      | some o' => some o'.fz
      | none => none
    | _ => none
  | .tmp o => some o.fz
def vws (env : En) : List B → Option (List D)
  | [] => some []
  | b :: bs => match vw env b, vws env bs with
    | some d, some ds => some (d :: ds)
    | _, _ => none
theorem vw_ok {T : Fp} {v : V} {b : B} {d : D} (so : StOk K A G H σ env Fs) (h : BorOk K A G H σ env Fs T v b) (e : vw env b = some d) : RepD K A H d v := by
  cases b with
  | slot i =>
    simp only [vw] at e
    split at e
    · rename_i o ho
      cases e
      exact RepO.view so.sub (fun _ _ _ h => h) (so.slot ho h.2)
    · cases e
  | nest i p =>
    obtain ⟨_, o, o', F1, F', F2, ho, hf, hF, r, _⟩ := h
    simp only [vw, ho, hf] at e
    cases e
    exact RepO.view so.sub (fun _ _ _ h => h) r
  | tmp o =>
    cases e
    exact RepO.view so.sub (fun _ _ _ h => h) h
theorem vws_ok : ∀ {bs : List B} {T : Fp} {vs : List V} {ds : List D}, StOk K A G H σ env Fs → BorsOk K A G H σ env Fs T vs bs → vws env bs = some ds → RepDs K A H ds vs
  | [], T, vs, ds, so, h, e => by
    cases e
    exact h.2
  | b :: bs, T, vs, ds, so, h, e => by
    obtain ⟨T1, T2, x, xs, rfl, rfl, h1, h2⟩ := h
    unfold vws at e
    split at e
    · rename_i d ds' e1 e2
      cases e
      exact ⟨x, xs, rfl, vw_ok so h1 e1, vws_ok so h2 e2⟩
    · cases e

def tk (env : En) : B → Option (O × En)
  | .slot i => match env[i]? with
    | some (some (.val d)) => some (.val d, env)
    | some (some o) => some (.val o.fz, env.set i (some (.val o.fz)))
    | _ => none
  | .nest i p => match env[i]? with
    | some (some o) => match o.follow p with
      | some o' => some (.val o'.fz, env.set i (some (o.put p (.val o'.fz))))
      | none => none
    | _ => none
  | .tmp o => some (o, env)
/-- what a taking leaves -/
structure TkOk (K : PySem.W.Frag) (A : Tab) (G H : Hp) (σ : St) (env : En) (Fs : Nat → Fp) (T : Fp) (v : V) (b : B) (o : O) (env' : En) (G' : Hp) (Fs' : Nat → Fp) (T' : Fp) : Prop where
  st : Stp G H Fs G' H Fs' []
  so : StOk K A G' H σ env' Fs'
  tko : TOk G' H Fs' T'
  r : RepO K A G' H o T' v
  t : List.Sublist T' T
  far : ∀ i, tou i b = false → Fs' i = Fs i ∧ env'[i]? = env[i]?
theorem TOk.stp0 {G1 H1 G2 : Hp} {Fs1 Fs2 : Nat → Fp} {T : Fp} (tk : TOk G1 H1 Fs1 T) (b : Stp G1 H1 Fs1 G2 H1 Fs2 []) : TOk G2 H1 Fs2 T := by
  have := (tk.step b .nil).1
  rw [List.append_nil] at this
  exact this
theorem tk_ok {T : Fp} {v : V} {b : B} {o : O} {env' : En} (so : StOk K A G H σ env Fs) (tko : TOk G H Fs T) (h : BorOk K A G H σ env Fs T v b) (e : tk env b = some (o, env')) : ∃ G' Fs' T', TkOk K A G H σ env Fs T v b o env' G' Fs' T' := by
  cases b with
  | slot i =>
    simp only [tk] at e
    split at e
    · rename_i d hd
      cases e
      have r := so.slot hd h.2
      refine ⟨G, Fs, [], .refl, so, .nil, ⟨rfl, r.2⟩, List.nil_sublist _, fun _ _ => ⟨rfl, rfl⟩⟩
    · rename_i o' hd ho
      cases e
      obtain ⟨G', Fs', s1, s2, s3, s4⟩ := freeze_nest so (nest_nil so ho h.2) ho rfl
      exact ⟨G', Fs', [], s1, s2, .nil, ⟨rfl, s3⟩, List.nil_sublist _, fun j hj => by
        have hji : i ≠ j := by simpa [tou] using hj
        exact ⟨s4 j (Ne.symm hji), List.getElem?_set_ne hji⟩⟩
    · cases e
  | nest i p =>
    simp only [tk] at e
    split at e
    · rename_i o' ho
      split at e
      · rename_i o2 hf
        cases e
        obtain ⟨G', Fs', s1, s2, s3, s4⟩ := freeze_nest so h.2 ho hf
        exact ⟨G', Fs', [], s1, s2, .nil, ⟨rfl, s3⟩, List.nil_sublist _, fun j hj => by
          have hji : i ≠ j := by simpa [tou] using hj
          exact ⟨s4 j (Ne.symm hji), List.getElem?_set_ne hji⟩⟩
      · cases e
    · cases e
  | tmp o' =>
    cases e
    exact ⟨G, Fs, T, .refl, so, tko, h, List.Sublist.refl _, fun _ _ => ⟨rfl, rfl⟩⟩

def notNest : B → Bool
  | .nest _ _ => false
  | _ => true
theorem BorOk.stp0 {G' : Hp} {env' : En} {Fs' : Nat → Fp} {T : Fp} {v : V} {b : B} (st : Stp G H Fs G' H Fs' []) (hn : notNest b = true) (h : BorOk K A G H σ env Fs T v b) : BorOk K A G' H σ env' Fs' T v b := by
  cases b with
  | slot i => exact h
  | tmp o => exact RepO.keep st.g (fun _ _ => rfl) h
  | nest i p => cases hn
theorem BorsOk.stp0 {G' : Hp} {env' : En} {Fs' : Nat → Fp} (st : Stp G H Fs G' H Fs' []) : ∀ {bs : List B} {T : Fp} {vs : List V}, bs.all notNest = true → BorsOk K A G H σ env Fs T vs bs → BorsOk K A G' H σ env' Fs' T vs bs
  | [], _, _, _, h => h
  | b :: bs, _, _, hn, h => by
    obtain ⟨T1, T2, x, xs, rfl, rfl, h1, h2⟩ := h
    simp only [List.all_cons, Bool.and_eq_true] at hn
    exact ⟨T1, T2, x, xs, rfl, rfl, h1.stp0 st hn.1, BorsOk.stp0 st hn.2 h2⟩
theorem TOk.sub {T T' : Fp} (t : TOk G H Fs T) (h : List.Sublist T' T) : TOk G H Fs T' := ⟨t.nd.sublist h, fun i b hb => t.dj i b (h.subset hb), fun b hb => t.own b (h.subset hb)⟩
theorem Stp.trans0 {G1 H1 G2 H2 : Hp} {Fs1 Fs2 : Nat → Fp} {T2 : Fp} (a : Stp G H Fs G1 H1 Fs1 []) (b : Stp G1 H1 Fs1 G2 H2 Fs2 T2) : Stp G H Fs G2 H2 Fs2 T2 := by
  have := a.trans .nil b
  simpa using this

/-! taking several -/
def tks (env : En) : List B → Option (List O × En)
  | [] => some ([], env)
  | b :: bs => match tk env b with
    | some (o, env1) => match tks env1 bs with
      | some (os, env2) => if bs.all notNest = true then some (o :: os, env2) else none
      | none => none
    | none => none
theorem tks_ok : ∀ {bs : List B} {G : Hp} {env : En} {Fs : Nat → Fp} {T : Fp} {vs : List V} {os : List O} {env' : En}, StOk K A G H σ env Fs → TOk G H Fs T → BorsOk K A G H σ env Fs T vs bs → tks env bs = some (os, env') →
    ∃ G' Fs' T', Stp G H Fs G' H Fs' [] ∧ StOk K A G' H σ env' Fs' ∧ TOk G' H Fs' T' ∧ RepOs K A G' H os T' vs ∧ List.Sublist T' T ∧ ∀ i, bs.any (tou i) = false → Fs' i = Fs i ∧ env'[i]? = env[i]?
  | [], G, env, Fs, T, vs, os, env', so, tko, h, e => by
    cases e
    obtain ⟨rfl, rfl⟩ := h
    exact ⟨G, Fs, [], .refl, so, .nil, ⟨rfl, rfl⟩, List.Sublist.refl _, fun _ _ => ⟨rfl, rfl⟩⟩
  | b :: bs, G, env, Fs, T, vs, os, env', so, tko, h, e => by
    obtain ⟨T1, T2, x, xs, rfl, rfl, h1, h2⟩ := h
    simp only [tks] at e
    split at e
    · rename_i o env1 e1
      split at e
      · rename_i os' env2 e2
        split at e
        · rename_i ok
          cases e
          have t1 := tko.sub (List.sublist_append_left T1 T2)
          have t2 := tko.sub (List.sublist_append_right T1 T2)
          obtain ⟨G1, Fs1, T1', K1⟩ := tk_ok so t1 h1 e1
          have h2' : BorsOk K A G1 H σ env1 Fs1 T2 xs bs := BorsOk.stp0 K1.st ok h2
          have t2' : TOk G1 H Fs1 T2 := t2.stp0 K1.st
          obtain ⟨G2, Fs2, T2', st2, so2, tk2, r2, sl2, far2⟩ := tks_ok K1.so t2' h2' e2
          refine ⟨G2, Fs2, T1' ++ T2', K1.st.trans0 st2, so2, ?_, ⟨T1', T2', x, xs, rfl, rfl, RepO.keep st2.g (fun _ _ => rfl) K1.r, r2⟩, K1.t.append sl2, fun i hi => by
            simp only [List.any_cons, Bool.or_eq_false_iff] at hi
            obtain ⟨a1, a2⟩ := K1.far i hi.1
            obtain ⟨b1, b2⟩ := far2 i hi.2
            exact ⟨b1.trans a1, b2.trans a2⟩⟩
          have ta : TOk G2 H Fs2 T1' := K1.tko.stp0 st2
          refine ⟨tko.nd.sublist (K1.t.append sl2), fun i c hc => ?_, fun c hc => ?_⟩
          · rcases List.mem_append.mp hc with z | z
            · exact ta.dj i c z
            · exact tk2.dj i c z
          · rcases List.mem_append.mp hc with z | z
            · exact ta.own c z
            · exact tk2.own c z
        · cases e
      · cases e
    · cases e

/-! ### lending: the things within, by worth -/
def isVal : O → Bool
  | .val _ => true
  | _ => false
def O.flat : O → Bool
  | .val _ => true
  | .lst os => os.all isVal
  | _ => false
def RepL (K : PySem.W.Frag) (A : Tab) (G H : Hp) (d : D) (v : V) : Prop := RepD K A G d v ∨ ∃ ds a xs, d = .lst ds ∧ v = .ref a ∧ H a = some (.lst xs) ∧ RepDs K A G ds xs
def RepLs (K : PySem.W.Frag) (A : Tab) (G H : Hp) : List D → List V → Prop
  | [], vs => vs = []
  | d :: ds, vs => ∃ x xs, vs = x :: xs ∧ RepL K A G H d x ∧ RepLs K A G H ds xs
theorem RepOs.flat : ∀ {os : List O} {F : Fp} {vs : List V}, os.all isVal = true → RepOs K A G H os F vs → F = [] ∧ RepDs K A G (O.fzs os) vs
  | [], F, vs, _, h => ⟨h.1, h.2⟩
  | o :: os, F, vs, hn, h => by
    obtain ⟨F1, F2, x, xs, rfl, rfl, h1, h2⟩ := h
    simp only [List.all_cons, Bool.and_eq_true] at hn
    obtain ⟨rfl, r⟩ := RepOs.flat hn.2 h2
    cases o with
    | val d => exact ⟨by rw [h1.1]; rfl, x, xs, rfl, h1.2, r⟩
    | lst _ => cases hn.1
    | dct _ => cases hn.1
    | ins _ _ => cases hn.1
theorem RepO.flat {o : O} {F : Fp} {v : V} (hf : o.flat = true) (h : RepO K A G H o F v) : RepL K A G H o.fz v := by
  cases o with
  | val d => exact .inl h.2
  | lst os =>
    obtain ⟨a, xs, F', e, q, rfl, r⟩ := h
    exact .inr ⟨_, a, xs, rfl, e, q, (RepOs.flat hf r).2⟩
  | dct _ => cases hf
  | ins _ _ => cases hf
def ln (env : En) : B → Option (D × En)
  | .slot i => match env[i]? with
    | some (some o) => if o.flat = true then some (o.fz, env) else some (o.fz, env.set i (some (.val o.fz)))
    | _ => none
  | .nest i p => match env[i]? with
    | some (some o) => match o.follow p with
      | some o' => if o'.flat = true then some (o'.fz, env) else some (o'.fz, env.set i (some (o.put p (.val o'.fz))))
      | none => none
    | _ => none
  | .tmp o => some (o.fz, env)
theorem RepL.keep {G' : Hp} {d : D} {v : V} (s : Sub G G') (h : RepL K A G H d v) : RepL K A G' H d v := by
  rcases h with h | ⟨ds, a, xs, e1, e2, e3, r⟩
  · exact .inl (RepD.sub s h)
  · exact .inr ⟨ds, a, xs, e1, e2, e3, RepDs.sub s r⟩
theorem RepL.view {d : D} {v : V} (s : Sub G H) (h : RepL K A G H d v) : RepD K A H d v := by
  rcases h with h | ⟨ds, a, xs, rfl, e2, e3, r⟩
  · exact RepD.sub s h
  · exact ⟨a, xs, e2, e3, RepDs.sub s r⟩
theorem ln_ok {T : Fp} {v : V} {b : B} {d : D} {env' : En} (so : StOk K A G H σ env Fs) (tko : TOk G H Fs T) (h : BorOk K A G H σ env Fs T v b) (e : ln env b = some (d, env')) :
    ∃ G' Fs', Stp G H Fs G' H Fs' [] ∧ StOk K A G' H σ env' Fs' ∧ (RepL K A G' H d v ∨ (∃ o, b = .tmp o ∧ d = o.fz ∧ RepO K A G' H o T v)) ∧ ∀ i, tou i b = false → Fs' i = Fs i ∧ env'[i]? = env[i]? := by
  cases b with
  | slot i =>
    simp only [ln] at e
    split at e
    · rename_i o ho
      split at e
      · rename_i hf
        cases e
        exact ⟨G, Fs, .refl, so, .inl (RepO.flat hf (so.slot ho h.2)), fun _ _ => ⟨rfl, rfl⟩⟩
      · cases e
        obtain ⟨G', Fs', s1, s2, s3, s4⟩ := freeze_nest so (nest_nil so ho h.2) ho rfl
        exact ⟨G', Fs', s1, s2, .inl (.inl s3), fun j hj => by
          have hji : i ≠ j := by simpa [tou] using hj
          exact ⟨s4 j (Ne.symm hji), List.getElem?_set_ne hji⟩⟩
    · cases e
  | nest i p =>
    simp only [ln] at e
    split at e
    · rename_i o' ho
      split at e
      · rename_i o2 hf
        split at e
        · rename_i hfl
          cases e
          obtain ⟨_, o, o', F1, F', F2, ho1, hf1, hF, r, _⟩ := h
          rw [ho] at ho1; cases ho1
          rw [hf] at hf1; cases hf1
          exact ⟨G, Fs, .refl, so, .inl (RepO.flat hfl r), fun _ _ => ⟨rfl, rfl⟩⟩
        · cases e
          obtain ⟨G', Fs', s1, s2, s3, s4⟩ := freeze_nest so h.2 ho hf
          exact ⟨G', Fs', s1, s2, .inl (.inl s3), fun j hj => by
            have hji : i ≠ j := by simpa [tou] using hj
            exact ⟨s4 j (Ne.symm hji), List.getElem?_set_ne hji⟩⟩
      · cases e
    · cases e
  | tmp o' =>
    cases e
    exact ⟨G, Fs, .refl, so, .inr ⟨o', rfl, rfl, h⟩, fun _ _ => ⟨rfl, rfl⟩⟩

/-- a temporary part becomes one by worth -/
theorem freeze_tmp {G0 H0 : Hp} {Fs0 : Nat → Fp} {T T2 : Fp} {v : V} {o : O} (st : Stp G0 H0 Fs0 G H Fs (T ++ T2)) (so : StOk K A G H σ env Fs) (tko : TOk G H Fs (T ++ T2)) (h : RepO K A G H o T v) :
    Stp G0 H0 Fs0 (frz G H T) H Fs T2 ∧ StOk K A (frz G H T) H σ env Fs ∧ TOk (frz G H T) H Fs T2 ∧ Sub G (frz G H T) ∧ RepD K A (frz G H T) o.fz v := by
  have s1 : Sub G (frz G H T) := frz_sub fun b hb => (tko.own b (by simp [hb])).1
  have nd := List.nodup_append.mp tko.nd
  refine ⟨⟨fun b x e => s1 _ _ (st.g _ _ e), st.keep, fun b x e => ?_, fun b hb => st.fnew b (hb.imp id fun z => by simp [z])⟩, ⟨frz_le so.sub, so.len, fun i o e => ?_, so.nd, so.dj, fun i b hb => ⟨?_, (so.own i b hb).2⟩⟩, ⟨nd.2.1, fun i b hb => tko.dj i b (by simp [hb]), fun b hb => ⟨?_, (tko.own b (by simp [hb])).2⟩⟩, s1, ?_⟩
  · unfold frz at e
    split at e
    · rename_i hb
      rcases st.fnew b (.inr (by simp [hb])) with z | z
      · exact .inr (.inl z)
      · exact .inr (.inr z)
    · exact st.gnew b x e
  · obtain ⟨v, h1, h2⟩ := so.at_ i o e
    exact ⟨v, h1, RepO.keep s1 (fun _ _ => rfl) h2⟩
  · unfold frz
    rw [if_neg (fun z => tko.dj i b (by simp [z]) hb)]
    exact (so.own i b hb).1
  · unfold frz
    rw [if_neg (fun z => nd.2.2 b z b hb rfl)]
    exact (tko.own b (by simp [hb])).1
  · exact RepO.view s1 (fun b hb x e => by unfold frz; rw [if_pos hb]; exact e) h
def lns (env : En) : List B → Option (List D × En)
  | [] => some ([], env)
  | b :: bs => match ln env b with
    | some (d, env1) => match lns env1 bs with
      | some (ds, env2) => if bs.all notNest = true then some (d :: ds, env2) else none
      | none => none
    | none => none
theorem RepLs.len {H : Hp} : ∀ {ds : List D} {vs : List V}, RepLs K A G H ds vs → ds.length = vs.length
  | [], _, h => by cases h; rfl
  | d :: ds, _, h => by
    obtain ⟨x, xs, rfl, h1, h2⟩ := h
    simp [RepLs.len h2]
theorem lns_ok {G0 H0 : Hp} {Fs0 : Nat → Fp} : ∀ {bs : List B} {G : Hp} {env : En} {Fs : Nat → Fp} {T : Fp} {vs : List V} {ds : List D} {env' : En}, Stp G0 H0 Fs0 G H Fs T → StOk K A G H σ env Fs → TOk G H Fs T → BorsOk K A G H σ env Fs T vs bs →
    lns env bs = some (ds, env') → ∃ G' Fs', Stp G0 H0 Fs0 G' H Fs' [] ∧ StOk K A G' H σ env' Fs' ∧ RepLs K A G' H ds vs ∧ Sub G G' ∧ ∀ i, bs.any (tou i) = false → Fs' i = Fs i ∧ env'[i]? = env[i]?
  | [], G, env, Fs, T, vs, ds, env', st, so, tko, h, e => by
    cases e
    obtain ⟨rfl, rfl⟩ := h
    exact ⟨G, Fs, st, so, rfl, fun _ _ h => h, fun _ _ => ⟨rfl, rfl⟩⟩
  | b :: bs, G, env, Fs, T, vs, ds, env', st, so, tko, h, e => by
    obtain ⟨T1, T2, x, xs, rfl, rfl, h1, h2⟩ := h
    simp only [lns] at e
    split at e
    · rename_i d env1 e1
      split at e
      · rename_i ds' env2 e2
        split at e
        · rename_i ok
          cases e
          have t1 := tko.sub (List.sublist_append_left T1 T2)
          have t2 := tko.sub (List.sublist_append_right T1 T2)
          have go : ∃ G1 Fs1, Stp G0 H0 Fs0 G1 H Fs1 T2 ∧ StOk K A G1 H σ env1 Fs1 ∧ TOk G1 H Fs1 T2 ∧ RepL K A G1 H d x ∧ BorsOk K A G1 H σ env1 Fs1 T2 xs bs ∧ Sub G G1 ∧ ∀ i, tou i b = false → Fs1 i = Fs i ∧ env1[i]? = env[i]? := by
            obtain ⟨G1, Fs1, s1, so1, r, far⟩ := ln_ok so t1 h1 e1
            rcases r with r | ⟨o, rfl, rfl, r⟩
            · refine ⟨G1, Fs1, ?_, so1, t2.stp0 s1, r, BorsOk.stp0 s1 ok h2, s1.g, far⟩
              have := st.trans tko s1
              exact this.drop fun b hb => by simp [hb]
            · cases e1
              obtain ⟨a1, a2, a3, a4, a5⟩ := freeze_tmp st so tko (show RepO K A G H o T1 x from h1)
              refine ⟨frz G H T1, Fs, a1, a2, a3, .inl a5, ?_, a4, fun _ _ => ⟨rfl, rfl⟩⟩
              have hs : ∀ {bs : List B} {T : Fp} {vs : List V}, bs.all notNest = true → BorsOk K A G H σ env Fs T vs bs → BorsOk K A (frz G H T1) H σ env Fs T vs bs := by
                intro bs
                induction bs with
                | nil => intro T vs _ h; exact h
                | cons b bs ih =>
                  intro T vs hn h
                  obtain ⟨T1', T2', x, xs, rfl, rfl, h1, h2⟩ := h
                  simp only [List.all_cons, Bool.and_eq_true] at hn
                  refine ⟨T1', T2', x, xs, rfl, rfl, ?_, ih hn.2 h2⟩
                  cases b with
                  | slot i => exact h1
                  | tmp o => exact RepO.keep a4 (fun _ _ => rfl) h1
                  | nest i p => cases hn.1
              exact hs ok h2
          obtain ⟨G1, Fs1, s1, so1, tk1, r1, b1, g1, far1⟩ := go
          obtain ⟨G2, Fs2, s2, so2, r2, g2, far2⟩ := lns_ok s1 so1 tk1 b1 e2
          exact ⟨G2, Fs2, s2, so2, ⟨x, xs, rfl, r1.keep g2, r2⟩, fun c y z => g2 _ _ (g1 _ _ z), fun i hi => by
            simp only [List.any_cons, Bool.or_eq_false_iff] at hi
            obtain ⟨a1, a2⟩ := far1 i hi.1
            obtain ⟨b1, b2⟩ := far2 i hi.2
            exact ⟨b1.trans a1, b2.trans a2⟩⟩
        · cases e
      · cases e
    · cases e
end
end Fz
end

section -- Fz4
namespace Fz
open PySem L2

/-! ### what an operation adds: the heap grows -/
structure GrowT (K : PySem.W.Frag) (A : Tab) (G H : Hp) (T0 : Fp) (o : O) (T : Fp) (w : V) (G2 H2 : Hp) : Prop where
  g : Sub G G2
  h : Sub H H2
  s : Sub G2 H2
  gn : ∀ b x, G2 b = some x → G b = some x ∨ b ∈ T0 ∨ H b = none
  r : RepO K A G2 H2 o T w
  nd : T.Nodup
  t : ∀ b ∈ T, (b ∈ T0 ∨ H b = none) ∧ G2 b = none ∧ H2 b ≠ none
abbrev Grow (K : PySem.W.Frag) (A : Tab) (G H : Hp) (o : O) (T : Fp) (w : V) (G2 H2 : Hp) : Prop := GrowT K A G H [] o T w G2 H2
def sc : D → V → Prop
  | .non, v => v = .non
  | .bl b, v => v = .bl b
  | .int i, v => v = .int i
  | .str s, v => v = .str s
  | .ty n, v => v = .ty n
  | _, _ => False
section
variable {K : PySem.W.Frag} {A : Tab} {G H : Hp}
theorem sc.rep {d : D} {v : V} (h : sc d v) : RepD K A G d v := by
  cases d <;> first | exact h | exact h.elim
theorem Grow.old {d : D} {w : V} (s : Sub G H) (r : RepD K A G d w) : Grow K A G H (.val d) [] w G H :=
  ⟨fun _ _ h => h, fun _ _ h => h, s, fun _ _ h => .inl h, ⟨rfl, r⟩, by simp, by simp⟩
theorem Grow.sc {d : D} {w : V} (s : Sub G H) (r : sc d w) : Grow K A G H (.val d) [] w G H := .old s r.rep
theorem upd_sub {H : Hp} {p : Addr} {u : HO} (hp : H p = none) : Sub H (upd H p u) := fun b o e => by
  rw [upd_ne (ne_of_none e hp)]; exact e
theorem sub_none {G H : Hp} (s : Sub G H) {p : Addr} (hp : H p = none) : G p = none := by
  cases e : G p with
  | none => rfl
  | some x => rw [s _ _ e] at hp; cases hp
theorem Grow.tup {es : List D} {ws : List V} {p : Addr} (s : Sub G H) (r : RepDs K A G es ws) (hp : H p = none) : Grow K A G H (.val (.tup es)) [] (.ref p) (upd G p (.tup ws)) (upd H p (.tup ws)) := by
  have gp := sub_none s hp
  refine ⟨upd_sub gp, upd_sub hp, fun b o e => ?_, fun b o e => ?_, ⟨rfl, p, ws, rfl, .inl (.inl upd_same), RepDs.sub (upd_sub gp) r⟩, by simp, by simp⟩
  · by_cases hb : b = p
    · subst hb; rw [upd_same] at e ⊢; exact e
    · rw [upd_ne hb] at e ⊢; exact s _ _ e
  · by_cases hb : b = p
    · subst hb; exact .inr (.inr hp)
    · rw [upd_ne hb] at e; exact .inl e
theorem Grow.put {o : O} {T : Fp} {p : Addr} {u : HO} (s : Sub G H) (hp : H p = none) (r : RepO K A G (upd H p u) o (p :: T) (.ref p)) (nd : (p :: T).Nodup) (hT : ∀ b ∈ T, H b = none ∧ G b = none ∧ upd H p u b ≠ none) : Grow K A G H o (p :: T) (.ref p) G (upd H p u) := by
  refine ⟨fun _ _ h => h, upd_sub hp, fun b o e => upd_sub hp _ _ (s _ _ e), fun _ _ e => .inl e, r, nd, fun b hb => ?_⟩
  rcases List.mem_cons.mp hb with rfl | hb
  · exact ⟨.inr hp, sub_none s hp, by rw [upd_same]; simp⟩
  · exact ⟨.inr (hT b hb).1, (hT b hb).2⟩
theorem RepDs.vals : ∀ {es : List D} {ws : List V} {H : Hp}, RepDs K A G es ws → RepOs K A G H (es.map .val) [] ws
  | [], _, _, h => ⟨rfl, h⟩
  | e :: es, _, H, h => by
    obtain ⟨x, xs, rfl, h1, h2⟩ := h
    exact ⟨[], [], x, xs, rfl, rfl, ⟨rfl, h1⟩, RepDs.vals h2⟩
theorem Grow.lst {es : List D} {ws : List V} {p : Addr} (s : Sub G H) (r : RepDs K A G es ws) (hp : H p = none) : Grow K A G H (.lst (es.map .val)) [p] (.ref p) G (upd H p (.lst ws)) :=
  .put s hp ⟨p, ws, [], rfl, upd_same, rfl, r.vals⟩ (by simp) (by simp)
theorem Stp.low {G0 H0 : Hp} {Fs0 Fs : Nat → Fp} {T : Fp} (st : Stp G0 H0 Fs0 G H Fs T) : ∀ b, H b = none → (∃ i, b ∈ Fs0 i) ∨ H0 b = none := fun b hb => by
  cases e : H0 b with
  | none => exact .inr rfl
  | some x =>
    by_cases hn : ∃ i, b ∈ Fs0 i
    · exact .inl hn
    · have := st.keep b x e fun i hi => hn ⟨i, hi⟩
      rw [hb] at this; cases this
theorem GrowT.stp {G0 H0 : Hp} {Fs0 Fs : Nat → Fp} {o : O} {T0 T : Fp} {w : V} {G2 H2 : Hp} (st : Stp G0 H0 Fs0 G H Fs T0) (gr : GrowT K A G H T0 o T w G2 H2) : Stp G0 H0 Fs0 G2 H2 Fs T := by
  refine ⟨fun b x e => gr.g _ _ (st.g _ _ e), fun b x e hn => gr.h _ _ (st.keep b x e hn), fun b x e => ?_, fun b hb => ?_⟩
  · rcases gr.gn b x e with z | z | z
    · exact st.gnew b x z
    · exact .inr (st.fnew b (.inr z))
    · exact .inr (st.low b z)
  · rcases hb with z | z
    · exact st.fnew b (.inl z)
    · rcases (gr.t b z).1 with q | q
      · exact st.fnew b (.inr q)
      · exact st.low b q
theorem GrowT.so {σ : St} {env : En} {Fs : Nat → Fp} {o : O} {T0 T : Fp} {w : V} {G2 H2 : Hp} (so : StOk K A G H σ env Fs) (t0 : TOk G H Fs T0) (gr : GrowT K A G H T0 o T w G2 H2) : StOk K A G2 H2 σ env Fs ∧ TOk G2 H2 Fs T ∧ ∀ i, ∀ b ∈ Fs i, H2 b = H b := by
  have same : ∀ i, ∀ b ∈ Fs i, H2 b = H b := fun i b hb => by
    cases e : H b with
    | none => exact absurd e (so.own i b hb).2
    | some x => exact gr.h _ _ e
  refine ⟨⟨gr.s, so.len, fun i o e => ?_, so.nd, so.dj, fun i b hb => ⟨?_, by rw [same i b hb]; exact (so.own i b hb).2⟩⟩, ⟨gr.nd, fun i b hb hi => ?_, fun b hb => (gr.t b hb).2⟩, same⟩
  · obtain ⟨v, h1, h2⟩ := so.at_ i o e
    exact ⟨v, h1, RepO.keep gr.g (same i) h2⟩
  · cases e : G2 b with
    | none => rfl
    | some x =>
      rcases gr.gn b x e with z | z | z
      · rw [(so.own i b hb).1] at z; cases z
      · exact absurd hb (t0.dj i b z)
      · exact absurd z (so.own i b hb).2
  · rcases (gr.t b hb).1 with z | z
    · exact t0.dj i b z hi
    · exact (so.own i b hi).2 z
end

/-! ### operations on answers -/
/-- by worth alone -/
def opV (g : List D → Option D) (fs : En → Res (List B × En)) : En → Res (B × En) := fun env =>
  (fs env).bind fun r => (Res.ofO (vws r.2 r.1)).bind fun ds => (Res.ofO (g ds)).bind fun d => .ok (.tmp (.val d), r.2)
/-- the things within go along -/
def opL (g : List D → Option O) (fs : En → Res (List B × En)) : En → Res (B × En) := fun env =>
  (fs env).bind fun r => (Res.ofO (lns r.2 r.1)).bind fun q => (Res.ofO (g q.1)).bind fun o => .ok (.tmp o, q.2)
/-- the things themselves go along -/
def opT (g : List O → Option O) (fs : En → Res (List B × En)) : En → Res (B × En) := fun env =>
  (fs env).bind fun r => (Res.ofO (tks r.2 r.1)).bind fun q => (Res.ofO (g q.1)).bind fun o => .ok (.tmp o, q.2)

section
variable {K : PySem.W.Frag} {A : Tab} {W : WX} {occ occ1 occ2 : Nat → Bool}
theorem semV {t : TA} {fs : En → Res (List B × En)} {r : List V → Hp → VK → Prop} {g : List D → Option D} (h : SemA K A W occ t fs)
    (hr : ∀ (H : Hp) (vs : List V) (ds : List D) (d : D) (Q : VK), RepDs K A H ds vs → g ds = some d → (∀ w, sc d w → Q w H) → r vs H Q) : SemE K A W occ (tCB r t) (opV g fs) := by
  intro G H σ env Fs Q so hq
  refine h G H σ env Fs _ so ?_
  unfold opV at hq
  rw [Res.wp_bind] at hq
  refine Res.wp_mono hq (fun r1 hr1 vs G' H' Fs' T st so' sm tk b bi => ?_) fun c e he => he
  rw [Res.wp_bind] at hr1
  obtain ⟨ds, e1, hr1⟩ := Res.wp_ofO hr1
  rw [Res.wp_bind] at hr1
  obtain ⟨d, e2, hr1⟩ := Res.wp_ofO hr1
  exact hr H' vs ds d Q (vws_ok so' b e1) e2 fun w hw => hr1 w G' H' Fs' [] (st.drop (by simp)) so' sm .nil ⟨rfl, hw.rep⟩ trivial
theorem bin_tou {bs : List B} (h : ∀ b ∈ bs, BIn occ b) {i : Nat} (hi : occ i = false) : bs.any (tou i) = false := by
  rw [List.any_eq_false]
  intro b hb
  have := h b hb
  cases b with
  | slot j =>
    intro q
    have e : j = i := by simpa [tou] using q
    subst e
    have : occ j = true := this
    rw [hi] at this; cases this
  | nest j p =>
    intro q
    have e : j = i := by simpa [tou] using q
    subst e
    have : occ j = true := this
    rw [hi] at this; cases this
  | tmp o => simp [tou]
theorem semL {t : TA} {fs : En → Res (List B × En)} {r : List V → Hp → VK → Prop} {g : List D → Option O} (h : SemA K A W occ t fs)
    (hr : ∀ (G H : Hp) (vs : List V) (ds : List D) (o : O) (Q : VK), Sub G H → RepLs K A G H ds vs → g ds = some o → (∀ w T G2 H2, Grow K A G H o T w G2 H2 → Q w H2) → r vs H Q) : SemE K A W occ (tCB r t) (opL g fs) := by
  intro G H σ env Fs Q so hq
  refine h G H σ env Fs _ so ?_
  unfold opL at hq
  rw [Res.wp_bind] at hq
  refine Res.wp_mono hq (fun r1 hr1 vs G' H' Fs' T st so' sm tk b bi => ?_) fun c e he => he
  rw [Res.wp_bind] at hr1
  obtain ⟨q, e1, hr1⟩ := Res.wp_ofO hr1
  rw [Res.wp_bind] at hr1
  obtain ⟨o, e2, hr1⟩ := Res.wp_ofO hr1
  obtain ⟨G1, Fs1, st1, so1, r1', _, far⟩ := lns_ok st so' tk b e1
  refine hr G1 H' vs q.1 o Q so1.sub r1' e2 fun w T2 G2 H2 gr => ?_
  obtain ⟨so2, tk2, same⟩ := GrowT.so so1 .nil gr
  refine hr1 w G2 H2 Fs1 T2 (GrowT.stp st1 gr) so2 (fun i hi => ?_) tk2 gr.r trivial
  obtain ⟨f1, k1, e1⟩ := sm i hi
  obtain ⟨f2, e2⟩ := far i (bin_tou bi hi)
  refine ⟨f2.trans f1, fun c hc => ?_, e2.trans e1⟩
  rw [same i c (by rw [f2, f1]; exact hc)]
  exact k1 c hc
theorem semT {t : TA} {fs : En → Res (List B × En)} {r : List V → Hp → VK → Prop} {g : List O → Option O} (h : SemA K A W occ t fs)
    (hr : ∀ (G H : Hp) (vs : List V) (os : List O) (T0 : Fp) (o : O) (Q : VK), Sub G H → RepOs K A G H os T0 vs → T0.Nodup → (∀ b ∈ T0, G b = none ∧ H b ≠ none) → g os = some o → (∀ w T G2 H2, GrowT K A G H T0 o T w G2 H2 → Q w H2) → r vs H Q) : SemE K A W occ (tCB r t) (opT g fs) := by
  intro G H σ env Fs Q so hq
  refine h G H σ env Fs _ so ?_
  unfold opT at hq
  rw [Res.wp_bind] at hq
  refine Res.wp_mono hq (fun r1 hr1 vs G' H' Fs' T st so' sm tk b bi => ?_) fun c e he => he
  rw [Res.wp_bind] at hr1
  obtain ⟨q, e1, hr1⟩ := Res.wp_ofO hr1
  rw [Res.wp_bind] at hr1
  obtain ⟨o, e2, hr1⟩ := Res.wp_ofO hr1
  obtain ⟨G1, Fs1, T1, st1, so1, tk1, r1', sl, far⟩ := tks_ok so' tk b e1
  refine hr G1 H' vs q.1 T1 o Q so1.sub r1' tk1.nd tk1.own e2 fun w T2 G2 H2 gr => ?_
  obtain ⟨so2, tk2, same⟩ := GrowT.so so1 tk1 gr
  have st2 : Stp G H Fs G1 H' Fs1 T1 := (st.trans tk st1).drop fun b hb => by simp [sl.subset hb]
  refine hr1 w G2 H2 Fs1 T2 (GrowT.stp st2 gr) so2 (fun i hi => ?_) tk2 gr.r trivial
  obtain ⟨f1, k1, e1⟩ := sm i hi
  obtain ⟨f2, e2⟩ := far i (bin_tou bi hi)
  refine ⟨f2.trans f1, fun c hc => ?_, e2.trans e1⟩
  rw [same i c (by rw [f2, f1]; exact hc)]
  exact k1 c hc

/-! ### displays -/
theorem RepOs.fzs_view {G2 : Hp} {os : List O} {T0 : Fp} {vs : List V} {G H : Hp} (s : Sub G G2) (k : ∀ b ∈ T0, ∀ x, H b = some x → G2 b = some x) (h : RepOs K A G H os T0 vs) : RepDs K A G2 (O.fzs os) vs := RepOs.view s k h
def mkTup (os : List O) : Option O := if os.length ≤ sizeLine then some (.val (.tup (O.fzs os))) else none
def mkLst (os : List O) : Option O := if os.length ≤ sizeLine then some (.lst os) else none
theorem RepOs.len {G H : Hp} : ∀ {os : List O} {T : Fp} {vs : List V}, RepOs K A G H os T vs → os.length = vs.length
  | [], _, _, h => by rw [h.2]; rfl
  | o :: os, _, _, h => by
    obtain ⟨F1, F2, x, xs, rfl, rfl, h1, h2⟩ := h
    simp [RepOs.len h2]
theorem sem_tup {t : TA} {fs : En → Res (List B × En)} (h : SemA K A W occ t fs) : SemE K A W occ (tTup t) (opT mkTup fs) := by
  refine semT (r := fun xs H1 Q => xs.length ≤ sizeLine ∧ ∀ p, H1 p = none → Q (.ref p) (upd H1 p (.tup xs))) h fun G H vs os T0 o Q s ro nd ow e k => ?_
  unfold mkTup at e
  split at e
  · rename_i hl
    cases e
    refine ⟨by rw [← ro.len]; exact hl, fun p hp => ?_⟩
    have gp := sub_none s hp
    have s1 : Sub G (frz G H T0) := frz_sub fun b hb => (ow b hb).1
    have fp : frz G H T0 p = none := by
      unfold frz
      split
      · exact hp
      · exact gp
    have rd : RepDs K A (frz G H T0) (O.fzs os) vs := RepOs.view s1 (fun b hb x e => by unfold frz; rw [if_pos hb]; exact e) ro
    have gr := Grow.tup (frz_le s) rd hp
    refine k (.ref p) [] _ _ ⟨fun b x e => gr.g _ _ (s1 _ _ e), gr.h, gr.s, fun b x e => ?_, gr.r, gr.nd, by simp⟩
    rcases gr.gn b x e with z | z | z
    · unfold frz at z
      split at z
      · rename_i hb; exact .inr (.inl hb)
      · exact .inl z
    · cases z
    · exact .inr (.inr z)
  · cases e
theorem sem_lst {t : TA} {fs : En → Res (List B × En)} (h : SemA K A W occ t fs) : SemE K A W occ (tLst t) (opT mkLst fs) := by
  refine semT (r := fun xs H1 Q => xs.length ≤ sizeLine ∧ ∀ p, H1 p = none → Q (.ref p) (upd H1 p (.lst xs))) h fun G H vs os T0 o Q s ro nd ow e k => ?_
  unfold mkLst at e
  split at e
  · rename_i hl
    cases e
    refine ⟨by rw [← ro.len]; exact hl, fun p hp => ?_⟩
    have np : ∀ b ∈ T0, b ≠ p := fun b hb z => (ow b hb).2 (by rw [z]; exact hp)
    refine k (.ref p) (p :: T0) G _ ⟨fun _ _ h => h, upd_sub hp, fun b x e => upd_sub hp _ _ (s _ _ e), fun _ _ e => .inl e, ⟨p, vs, T0, rfl, upd_same, rfl, RepOs.keep (fun _ _ h => h) (fun b hb => upd_ne (np b hb)) ro⟩, List.nodup_cons.mpr ⟨fun z => np p z rfl, nd⟩, fun b hb => ?_⟩
    rcases List.mem_cons.mp hb with rfl | hb
    · exact ⟨.inr hp, sub_none s hp, by rw [upd_same]; simp⟩
    · exact ⟨.inl hb, (ow b hb).1, by rw [upd_ne (np b hb)]; exact (ow b hb).2⟩
  · cases e
end
end Fz
end

section -- Fz5
namespace Fz
open PySem L2

/-! ### operations of two, by worth -/
def OpOk (X : Cx) (A : Tab) (f : Value → Value → Sem Value) (g : D → D → Option O) : Prop :=
  ∃ r : R2, OpR X f r ∧ ∀ (G H : Hp) (x y : V) (d e : D) (o : O) (Q : VK), Sub G H → RepL X.K A G H d x → RepL X.K A G H e y → g d e = some o → (∀ w T G2 H2, Grow X.K A G H o T w G2 H2 → Q w H2) → r x y H Q
theorem OpOk.or {X : Cx} {A : Tab} {f : Value → Value → Sem Value} {g g1 g2 : D → D → Option O} (h1 : OpOk X A f g1) (h2 : OpOk X A f g2) (h : ∀ d e o, g d e = some o → g1 d e = some o ∨ g2 d e = some o) : OpOk X A f g := by
  obtain ⟨r1, o1, k1⟩ := h1
  obtain ⟨r2, o2, k2⟩ := h2
  refine ⟨fun x y H Q => r1 x y H Q ∨ r2 x y H Q, o1.or o2, fun G H x y d e o Q s rx ry hg k => ?_⟩
  rcases h d e o hg with z | z
  · exact .inl (k1 G H x y d e o Q s rx ry z k)
  · exact .inr (k2 G H x y d e o Q s rx ry z k)

section
variable {K : PySem.W.Frag} {A : Tab} {G H : Hp}
theorem RepL.int {i : Int} {v : V} (h : RepL K A G H (.int i) v) : v = .int i := by
  rcases h with h | ⟨_, _, _, e, _⟩
  · exact h
  · cases e
theorem RepL.bl {i : Bool} {v : V} (h : RepL K A G H (.bl i) v) : v = .bl i := by
  rcases h with h | ⟨_, _, _, e, _⟩
  · exact h
  · cases e
theorem RepL.non {v : V} (h : RepL K A G H .non v) : v = .non := by
  rcases h with h | ⟨_, _, _, e, _⟩
  · exact h
  · cases e
theorem RepL.str {i : Str} {v : V} (h : RepL K A G H (.str i) v) : v = .str i := by
  rcases h with h | ⟨_, _, _, e, _⟩
  · exact h
  · cases e
theorem RepL.tup {ds : List D} {v : V} (h : RepL K A G H (.tup ds) v) : ∃ a xs, v = .ref a ∧ SqT K G a xs ∧ RepDs K A G ds xs := by
  rcases h with h | ⟨_, _, _, e, _⟩
  · exact h
  · cases e
theorem RepL.lst {ds : List D} {v : V} (s : Sub G H) (h : RepL K A G H (.lst ds) v) : ∃ a xs, v = .ref a ∧ H a = some (.lst xs) ∧ RepDs K A G ds xs := by
  rcases h with ⟨a, xs, e, q, r⟩ | ⟨_, a, xs, e, e2, q, r⟩
  · exact ⟨a, xs, e, s _ _ q, r⟩
  · cases e
    exact ⟨a, xs, e2, q, r⟩
end
/-! ints -/
def b2 (f : Int → Int → Option Int) : D → D → Option O
  | .int i, .int j => (f i j).map fun k => .val (.int k)
  | _, _ => none
theorem OpOk.int {X : Cx} {A : Tab} {f : Value → Value → Sem Value} {C : Int → Int → Prop} {g : Int → Int → Int} {g' : Int → Int → Option Int} (ho : OpR X f (rI C fun i j => .int (g i j))) (h : ∀ i j k, g' i j = some k → C i j ∧ g i j = k) : OpOk X A f (b2 g') := by
  refine ⟨_, ho, fun G H x y d e o Q s rx ry hg k => ?_⟩
  cases d <;> cases e <;> try cases hg
  rename_i i j
  unfold b2 at hg
  obtain ⟨z, e1, e2⟩ := Option.map_eq_some_iff.mp hg
  cases e2
  obtain ⟨c, rfl⟩ := h i j z e1
  exact ⟨i, j, rx.int, ry.int, c, k _ _ _ _ (Grow.sc s rfl)⟩
theorem OpOk.int0 {X : Cx} {A : Tab} {f : Value → Value → Sem Value} {g : Int → Int → Int} (ho : OpR X f (rI0 fun i j => .int (g i j))) : OpOk X A f (b2 fun i j => some (g i j)) := by
  refine ⟨_, ho, fun G H x y d e o Q s rx ry hg k => ?_⟩
  cases d <;> cases e <;> try cases hg
  rename_i i j
  exact ⟨i, j, rx.int, ry.int, k _ _ _ _ (Grow.sc s rfl)⟩
def c2 (f : Int → Int → Bool) : D → D → Option O
  | .int i, .int j => some (.val (.bl (f i j)))
  | _, _ => none
theorem OpOk.cmp {X : Cx} {A : Tab} {f : Value → Value → Sem Value} {g : Int → Int → Bool} (ho : OpR X f (rI0 fun i j => .bl (g i j))) : OpOk X A f (c2 g) := by
  refine ⟨_, ho, fun G H x y d e o Q s rx ry hg k => ?_⟩
  cases d <;> cases e <;> try cases hg
  rename_i i j
  exact ⟨i, j, rx.int, ry.int, k _ _ _ _ (Grow.sc s rfl)⟩

/-! + -/
def addS : D → D → Option O
  | .str s, .str t => if s.length + t.length ≤ sizeLine then some (.val (.str (s ++ t))) else none
  | _, _ => none
def addT : D → D → Option O
  | .tup xs, .tup ys => if xs.length + ys.length ≤ sizeLine then some (.val (.tup (xs ++ ys))) else none
  | _, _ => none
def addL : D → D → Option O
  | .lst xs, .lst ys => if xs.length + ys.length ≤ sizeLine then some (.lst ((xs ++ ys).map .val)) else none
  | _, _ => none
section
variable {X : Cx} {A : Tab}
theorem ok_addS : OpOk X A (binaryOp .Add) addS := by
  refine ⟨_, op_add_str, fun G H x y d e o Q s rx ry hg k => ?_⟩
  cases d <;> cases e <;> try cases hg
  rename_i i j
  simp only [addS] at hg
  split at hg
  · rename_i hl
    cases hg
    exact ⟨i, j, rx.str, ry.str, hl, k _ _ _ _ (Grow.sc s rfl)⟩
  · cases hg
theorem ok_addT : OpOk X A (binaryOp .Add) addT := by
  refine ⟨_, op_catA, fun G H x y d e o Q s rx ry hg k => ?_⟩
  cases d <;> cases e <;> try cases hg
  rename_i i j
  simp only [addT] at hg
  split at hg
  · rename_i hl
    cases hg
    obtain ⟨a, xs, rfl, q1, r1⟩ := rx.tup
    obtain ⟨b, ys, rfl, q2, r2⟩ := ry.tup
    have l1 := r1.length
    have l2 := r2.length
    refine ⟨a, b, xs, ys, rfl, rfl, SqT.sub s q1, SqT.sub s q2, by omega, fun e => ?_, fun _ e => ?_, fun _ _ p hp => k _ _ _ _ (Grow.tup s (r1.append r2) hp)⟩
    · subst e
      cases i with
      | nil => exact k _ _ _ _ (Grow.old s ⟨b, ys, rfl, q2, r2⟩)
      | cons _ _ => simp at l1
    · subst e
      cases j with
      | nil => rw [List.append_nil] at k; exact k _ _ _ _ (Grow.old s ⟨a, xs, rfl, q1, r1⟩)
      | cons _ _ => simp at l2
  · cases hg
theorem ok_addL : OpOk X A (binaryOp .Add) addL := by
  refine ⟨_, op_cat, fun G H x y d e o Q s rx ry hg k => ?_⟩
  cases d <;> cases e <;> try cases hg
  rename_i i j
  simp only [addL] at hg
  split at hg
  · rename_i hl
    cases hg
    obtain ⟨a, xs, rfl, q1, r1⟩ := rx.lst s
    obtain ⟨b, ys, rfl, q2, r2⟩ := ry.lst s
    have l1 := r1.length
    have l2 := r2.length
    exact ⟨a, b, xs, ys, rfl, rfl, q1, q2, by omega, fun p hp => k _ _ _ _ (Grow.lst s (r1.append r2) hp)⟩
  · cases hg
def addD : D → D → Option O
  | .int i, .int j => some (.val (.int (i + j)))
  | .str s, .str t => if s.length + t.length ≤ sizeLine then some (.val (.str (s ++ t))) else none
  | .tup xs, .tup ys => if xs.length + ys.length ≤ sizeLine then some (.val (.tup (xs ++ ys))) else none
  | .lst xs, .lst ys => if xs.length + ys.length ≤ sizeLine then some (.lst ((xs ++ ys).map .val)) else none
  | _, _ => none
theorem ok_add : OpOk X A (binaryOp .Add) addD := by
  refine .or (OpOk.int0 op_add) (.or (g := fun d e => (addS d e).or ((addT d e).or (addL d e))) ok_addS (.or (g := fun d e => (addT d e).or (addL d e)) ok_addT ok_addL fun d e o h => ?_) fun d e o h => ?_) fun d e o h => ?_
  · cases h1 : addT d e with
    | none => rw [h1] at h; exact .inr h
    | some x => rw [h1] at h; exact .inl h
  · cases h1 : addS d e with
    | none => rw [h1] at h; exact .inr h
    | some x => rw [h1] at h; exact .inl h
  · cases d <;> cases e <;> first | exact .inl h | (refine .inr ?_; simpa [addS, addT, addL, addD] using h) | cases h

/-! the other operators -/
instance : Decidable (CMulW i j) := inferInstanceAs (Decidable (_ < _))
instance : Decidable (CDivW i j) := inferInstanceAs (Decidable (_ ∧ _))
instance : Decidable (CPow i j) := inferInstanceAs (Decidable (_ ∧ _ ∧ _))
def mulI (i j : Int) : Option Int := if CMulW i j then some (i * j) else none
def fdivI (i j : Int) : Option Int := if CDivW i j then some (i / j) else none
def modI (i j : Int) : Option Int := if 0 < j then some (i % j) else none
def powI (i j : Int) : Option Int := if CPow i j then some (i ^ j.toNat) else none
def shlI (i j : Int) : Option Int := if CPow i j then some (i * 2 ^ j.toNat) else none
def mulT : D → D → Option O
  | .tup xs, .int k => if xs.length ≤ 1000 ∧ 2 ≤ k ∧ k ≤ 1000 ∧ xs ≠ [] then some (.val (.tup (List.replicate k.toNat xs).flatten)) else none
  | _, _ => none
def mulL : D → D → Option O
  | .lst xs, .int k => if -(2 ^ 63) ≤ k ∧ k < 2 ^ 63 ∧ xs.length * k.toNat ≤ sizeLine then some (.lst (((List.replicate k.toNat xs).flatten).map .val)) else none
  | _, _ => none
theorem ok_mulI : OpOk X A (binaryOp .Mult) (b2 mulI) := OpOk.int op_mulW fun i j k h => by
  unfold mulI at h
  split at h
  · rename_i c; cases h; exact ⟨c, rfl⟩
  · cases h
theorem ok_fdiv : OpOk X A (binaryOp .FloorDiv) (b2 fdivI) := OpOk.int op_fdivW fun i j k h => by
  unfold fdivI at h
  split at h
  · rename_i c; cases h; exact ⟨c, rfl⟩
  · cases h
theorem ok_mod : OpOk X A (binaryOp .Mod) (b2 modI) := OpOk.int op_mod fun i j k h => by
  unfold modI at h
  split at h
  · rename_i c; cases h; exact ⟨c, rfl⟩
  · cases h
theorem ok_pow : OpOk X A (binaryOp .Pow) (b2 powI) := OpOk.int op_pow fun i j k h => by
  unfold powI at h
  split at h
  · rename_i c; cases h; exact ⟨c, rfl⟩
  · cases h
theorem ok_shl : OpOk X A (binaryOp .LShift) (b2 shlI) := OpOk.int op_shl fun i j k h => by
  unfold shlI at h
  split at h
  · rename_i c; cases h; exact ⟨c, rfl⟩
  · cases h
theorem ok_sub : OpOk X A (binaryOp .Sub) (b2 fun i j => some (i - j)) := OpOk.int0 op_sub
theorem RepDs.flat {K : PySem.W.Frag} {G : Hp} {es : List D} {ws : List V} (r : RepDs K A G es ws) : ∀ n : Nat, RepDs K A G (List.replicate n es).flatten (List.replicate n ws).flatten
  | 0 => rfl
  | n + 1 => by
    rw [List.replicate_succ, List.replicate_succ, List.flatten_cons, List.flatten_cons]
    exact r.append (RepDs.flat r n)
theorem ok_mulT : OpOk X A (binaryOp .Mult) mulT := by
  refine ⟨_, op_repT, fun G H x y d e o Q s rx ry hg k => ?_⟩
  cases d <;> cases e <;> try cases hg
  rename_i i j
  simp only [mulT] at hg
  split at hg
  · rename_i hl
    cases hg
    obtain ⟨a, xs, rfl, q1, r1⟩ := rx.tup
    have l1 := r1.length
    refine ⟨a, j, xs, rfl, ry.int, SqT.sub s q1, fun z => ?_, hl.2.1, hl.2.2.1, by omega, fun p hp => k _ _ _ _ (Grow.tup s (RepDs.flat r1 _) hp)⟩
    subst z
    cases i with
    | nil => exact hl.2.2.2 rfl
    | cons _ _ => simp at l1
  · cases hg
theorem ok_mulL : OpOk X A (binaryOp .Mult) mulL := by
  refine ⟨_, op_rep, fun G H x y d e o Q s rx ry hg k => ?_⟩
  cases d <;> cases e <;> try cases hg
  rename_i i j
  simp only [mulL] at hg
  split at hg
  · rename_i hl
    cases hg
    obtain ⟨a, xs, rfl, q1, r1⟩ := rx.lst s
    have l1 := r1.length
    exact ⟨a, j, xs, rfl, ry.int, q1, hl.1, hl.2.1, by rw [← l1]; exact hl.2.2, fun p hp => k _ _ _ _ (Grow.lst s (RepDs.flat r1 _) hp)⟩
  · cases hg
def mulD : D → D → Option O
  | .int i, .int j => if CMulW i j then some (.val (.int (i * j))) else none
  | .tup xs, .int k => if xs.length ≤ 1000 ∧ 2 ≤ k ∧ k ≤ 1000 ∧ xs ≠ [] then some (.val (.tup (List.replicate k.toNat xs).flatten)) else none
  | .lst xs, .int k => if -(2 ^ 63) ≤ k ∧ k < 2 ^ 63 ∧ xs.length * k.toNat ≤ sizeLine then some (.lst (((List.replicate k.toNat xs).flatten).map .val)) else none
  | _, _ => none
theorem ok_mul : OpOk X A (binaryOp .Mult) mulD := by
  refine .or ok_mulI (.or (g := fun d e => (mulT d e).or (mulL d e)) ok_mulT ok_mulL fun d e o h => ?_) fun d e o h => ?_
  · cases h1 : mulT d e with
    | none => rw [h1] at h; exact .inr h
    | some x => rw [h1] at h; exact .inl h
  · cases d <;> cases e <;> first
      | (refine .inl ?_; simp only [mulD] at h; simp only [b2, mulI]; split at h <;> simp_all <;> done)
      | (refine .inr ?_; simpa [mulT, mulL, mulD] using h)
      | cases h
inductive Bop where
  | add | sub | mul | fdiv | mod | pow | shl
  deriving DecidableEq
def Bop.op : Bop → Operator
  | .add => .Add | .sub => .Sub | .mul => .Mult | .fdiv => .FloorDiv | .mod => .Mod | .pow => .Pow | .shl => .LShift
def binD : Bop → D → D → Option O
  | .add => addD
  | .sub => b2 fun i j => some (i - j)
  | .mul => mulD
  | .fdiv => b2 fdivI
  | .mod => b2 modI
  | .pow => b2 powI
  | .shl => b2 shlI
theorem ok_bin (op : Bop) : OpOk X A (binaryOp op.op) (binD op) := by
  cases op
  · exact ok_add
  · exact ok_sub
  · exact ok_mul
  · exact ok_fdiv
  · exact ok_mod
  · exact ok_pow
  · exact ok_shl
end
end Fz
end

section -- Fz6
namespace Fz
open PySem L2

/-! ### comparisons -/
mutual
def toPy : D → PyData
  | .non => .none
  | .bl b => .bool b
  | .int i => .int i
  | .str s => .str s
  | .tup ds => .tuple (toPys ds)
  | .lst ds => .list (toPys ds)
  | .scr _ => .dict []
  | .dct _ => .dict []
  | .ins _ _ => .dict []
  | .fn _ => .dict []
  | .cls _ => .dict []
  | .exn _ => .dict []
  | .ty _ => .dict []
def toPys : List D → List PyData
  | [] => []
  | d :: ds => toPy d :: toPys ds
end
section
variable {K : PySem.W.Frag} {A : Tab} {H : Hp}
mutual
theorem Dp.of : ∀ {d : D} {v : V}, RepD K A H d v → PyData.canLay0 (toPy d) = true → Dp K H v (toPy d)
  | .non, v, h, _ => by cases h; exact .non
  | .bl b, v, h, _ => by cases h; exact .bl _
  | .int i, v, h, _ => by cases h; exact .int _
  | .str _, v, h, _ => by cases h; exact .str _
  | .tup ds, v, h, c => by
    obtain ⟨a, xs, rfl, q, r⟩ := h
    exact .tup q (DpAll.of r c)
  | .lst ds, v, h, c => by
    obtain ⟨a, xs, rfl, q, r⟩ := h
    exact .lst (SqL.of q) (DpAll.of r c)
  | .scr _, _, _, c => by simp [toPy, PyData.canLay0] at c
  | .dct _, _, _, c => by simp [toPy, PyData.canLay0] at c
  | .ins _ _, _, _, c => by simp [toPy, PyData.canLay0] at c
  | .fn _, _, _, c => by simp [toPy, PyData.canLay0] at c
  | .cls _, _, _, c => by simp [toPy, PyData.canLay0] at c
  | .exn _, _, _, c => by simp [toPy, PyData.canLay0] at c
  | .ty _, _, _, c => by simp [toPy, PyData.canLay0] at c
theorem DpAll.of : ∀ {ds : List D} {vs : List V}, RepDs K A H ds vs → PyData.canLayAll0 (toPys ds) = true → DpAll K H vs (toPys ds)
  | [], vs, h, _ => by cases h; exact .nil
  | d :: ds, vs, h, c => by
    obtain ⟨x, xs, rfl, h1, h2⟩ := h
    simp only [toPys, PyData.canLayAll0, Bool.and_eq_true] at c
    exact .cons (Dp.of h1 c.1) (DpAll.of h2 c.2)
end
end
def eqP (d e : D) : Option Bool := if SeqAt.shaped (toPy d) = true ∧ SeqAt.shaped (toPy e) = true then some (PyData.eqv (toPy d) (toPy e)) else none
def eqS : D → D → Option Bool
  | .int i, .int j => some (decide (i = j))
  | .str i, .str j => some (decide (i = j))
  | .bl i, .bl j => some (decide (i = j))
  | .non, .non => some true
  | _, _ => none
def eqO (d e : D) : Option Bool := (eqS d e).or (eqP d e)
section
variable {X : Cx} {A : Tab}
theorem ok_eqS : OpOk X A (compareOp .Eq) (fun d e => (eqS d e).map fun b => .val (.bl b)) := by
  refine ⟨_, op_eq, fun G H x y d e o Q s rx ry hg k => ?_⟩
  cases d <;> cases e <;> try cases hg
  · cases rx.non; cases ry.non; exact ⟨rfl, k _ _ _ _ (Grow.sc s (by simp [sc]))⟩
  · cases rx.bl; cases ry.bl; exact ⟨rfl, k _ _ _ _ (Grow.sc s (by simp [sc]))⟩
  · cases rx.int; cases ry.int; exact ⟨rfl, k _ _ _ _ (Grow.sc s (by simp [sc]))⟩
  · cases rx.str; cases ry.str; exact ⟨rfl, k _ _ _ _ (Grow.sc s (by simp [sc]))⟩
theorem ok_neS : OpOk X A (compareOp .NotEq) (fun d e => (eqS d e).map fun b => .val (.bl (!b))) := by
  refine ⟨_, op_ne, fun G H x y d e o Q s rx ry hg k => ?_⟩
  cases d <;> cases e <;> try cases hg
  · cases rx.non; cases ry.non; exact ⟨rfl, k _ _ _ _ (Grow.sc s (by simp [sc]))⟩
  · cases rx.bl; cases ry.bl; exact ⟨rfl, k _ _ _ _ (Grow.sc s (by simp [sc]))⟩
  · cases rx.int; cases ry.int; exact ⟨rfl, k _ _ _ _ (Grow.sc s (by simp [sc]))⟩
  · cases rx.str; cases ry.str; exact ⟨rfl, k _ _ _ _ (Grow.sc s (by simp [sc]))⟩
theorem ok_eqP (hu : X.A.units + 64 < cLine) : OpOk X A (compareOp .Eq) (fun d e => (eqP d e).map fun b => .val (.bl b)) := by
  refine ⟨_, op_eqD hu, fun G H x y d e o Q s rx ry hg k => ?_⟩
  obtain ⟨b, e1, e2⟩ := Option.map_eq_some_iff.mp hg
  unfold eqP at e1
  split at e1
  · rename_i hs
    cases e1
    cases e2
    exact ⟨_, _, Dp.of (rx.view s) (SeqAt.canLay_of_shaped hs.1), Dp.of (ry.view s) (SeqAt.canLay_of_shaped hs.2), hs.1, hs.2, k _ _ _ _ (Grow.sc s rfl)⟩
  · cases e1
theorem ok_neP (hu : X.A.units + 64 < cLine) : OpOk X A (compareOp .NotEq) (fun d e => (eqP d e).map fun b => .val (.bl (!b))) := by
  refine ⟨_, op_neD hu, fun G H x y d e o Q s rx ry hg k => ?_⟩
  obtain ⟨b, e1, e2⟩ := Option.map_eq_some_iff.mp hg
  unfold eqP at e1
  split at e1
  · rename_i hs
    cases e1
    cases e2
    exact ⟨_, _, Dp.of (rx.view s) (SeqAt.canLay_of_shaped hs.1), Dp.of (ry.view s) (SeqAt.canLay_of_shaped hs.2), hs.1, hs.2, k _ _ _ _ (Grow.sc s rfl)⟩
  · cases e1
theorem ok_eq (hu : X.A.units + 64 < cLine) : OpOk X A (compareOp .Eq) (fun d e => (eqO d e).map fun b => .val (.bl b)) :=
  .or ok_eqS (ok_eqP hu) fun d e o h => by
    unfold eqO at h
    cases h1 : eqS d e with
    | none => rw [h1] at h; exact .inr h
    | some x => rw [h1] at h; exact .inl h
theorem ok_ne (hu : X.A.units + 64 < cLine) : OpOk X A (compareOp .NotEq) (fun d e => (eqO d e).map fun b => .val (.bl (!b))) :=
  .or ok_neS (ok_neP hu) fun d e o h => by
    unfold eqO at h
    cases h1 : eqS d e with
    | none => rw [h1] at h; exact .inr h
    | some x => rw [h1] at h; exact .inl h
/-! in -/
def flatD : D → Bool
  | .non => true | .bl _ => true | .int _ => true | .str _ => true
  | _ => false
def eqF : D → D → Bool
  | .non, .non => true
  | .bl a, .bl b => a == b
  | .bl a, .int b => (if a then 1 else 0) == b
  | .int a, .bl b => a == (if b then 1 else 0)
  | .int a, .int b => decide (a = b)
  | .str a, .str b => decide (a = b)
  | _, _ => false
def inSeq (d e : D) : Option Bool := match e with
  | .tup es => if flatD d = true ∧ es.all flatD = true then some (es.any fun x => eqF x d) else none
  | .lst es => if flatD d = true ∧ es.all flatD = true then some (es.any fun x => eqF x d) else none
  | _ => none
def sign1 : Str → Option Nat
  | ⟨⟨[c]⟩⟩ => some c
  | _ => none
def inSign (d e : D) : Option Bool := match d, e with
  | .str x, .str z => match sign1 x with
    | some c => some (decide (c ∈ z.cps.toList))
    | none => none
  | _, _ => none
def inStr (d e : D) : Option Bool := match d, e with
  | .str i, .str j => some (!(Builtin.Str.occurrences j i 0 j.length 1).isEmpty)
  | _, _ => none
theorem sign1_eq {x : Str} {c : Nat} (h : sign1 x = some c) : x = ⟨#[c]⟩ := by
  obtain ⟨⟨l⟩⟩ := x
  match l, h with
  | [c'], h => cases h; rfl
theorem RepD.flat {K : PySem.W.Frag} {H : Hp} {d : D} {v : V} (h : RepD K A H d v) (f : flatD d = true) : flatV v = true ∧ sc d v := by
  cases d <;> first | (cases h; exact ⟨rfl, rfl⟩) | cases f
theorem eqF_V {x y : D} {v w : V} (h : sc x v) (h' : sc y w) (fx : flatD x = true) (fy : flatD y = true) : eqV v w = eqF x y := by
  cases x <;> cases fx <;> cases y <;> cases fy <;> cases h <;> cases h' <;> first | rfl | (simp [eqV, eqF, Bool.beq_eq_decide_eq])
theorem RepDs.flats {K : PySem.W.Frag} {H : Hp} : ∀ {ds : List D} {vs : List V}, RepDs K A H ds vs → ds.all flatD = true → vs.all flatV = true ∧ ∀ {d : D} {v : V}, sc d v → flatD d = true → inV v vs = ds.any fun x => eqF x d
  | [], _, h, _ => by cases h; exact ⟨rfl, fun _ _ => rfl⟩
  | d :: ds, _, h, f => by
    obtain ⟨x, xs, rfl, h1, h2⟩ := h
    simp only [List.all_cons, Bool.and_eq_true] at f
    obtain ⟨a1, a2⟩ := h1.flat f.1
    obtain ⟨b1, b2⟩ := RepDs.flats h2 f.2
    refine ⟨by rw [List.all_cons, a1, b1]; rfl, fun {e v} hs hf => ?_⟩
    unfold inV
    rw [List.any_cons, List.any_cons, eqF_V a2 hs f.1 hf]
    congr 1
    exact b2 hs hf
theorem ok_inSeq {neg : Bool} {f : Value → Value → Sem Value} (ho : OpR X f (rIn X.K neg)) : OpOk X A f (fun d e => (inSeq d e).map fun b => .val (.bl (if neg then !b else b))) := by
  refine ⟨_, ho, fun G H x y d e o Q s rx ry hg k => ?_⟩
  obtain ⟨b, e1, e2⟩ := Option.map_eq_some_iff.mp hg
  cases e <;> try cases e1
  · rename_i es
    simp only [inSeq] at e1
    split at e1
    · rename_i hf
      cases e1
      cases e2
      obtain ⟨a, xs, rfl, q, r⟩ := ry.tup
      obtain ⟨f1, f2⟩ := (rx.view s).flat hf.1
      obtain ⟨g1, g2⟩ := r.flats hf.2
      exact ⟨a, xs, rfl, .inr (SqT.sub s q), f1, g1, k _ _ _ _ (Grow.sc s (by rw [g2 f2 hf.1]; exact rfl))⟩
    · cases e1
  · rename_i es
    simp only [inSeq] at e1
    split at e1
    · rename_i hf
      cases e1
      cases e2
      obtain ⟨a, xs, rfl, q, r⟩ := ry.lst s
      obtain ⟨f1, f2⟩ := (rx.view s).flat hf.1
      obtain ⟨g1, g2⟩ := r.flats hf.2
      exact ⟨a, xs, rfl, .inl (SqL.of q), f1, g1, k _ _ _ _ (Grow.sc s (by rw [g2 f2 hf.1]; exact rfl))⟩
    · cases e1
theorem ok_inSign : OpOk X A (compareOp .In) (fun d e => (inSign d e).map fun b => .val (.bl b)) := by
  refine ⟨_, op_in_sign, fun G H x y d e o Q s rx ry hg k => ?_⟩
  obtain ⟨b, e1, e2⟩ := Option.map_eq_some_iff.mp hg
  cases d <;> cases e <;> try cases e1
  simp only [inSign] at e1
  split at e1
  · rename_i c hc
    cases e1
    cases e2
    refine ⟨c, _, ?_, ry.str, k _ _ _ _ (Grow.sc s rfl)⟩
    rw [rx.str, sign1_eq hc]
  · cases e1
theorem ok_notInSign : OpOk X A (compareOp .NotIn) (fun d e => (inSign d e).map fun b => .val (.bl (!b))) := by
  refine ⟨_, op_notIn_sign, fun G H x y d e o Q s rx ry hg k => ?_⟩
  obtain ⟨b, e1, e2⟩ := Option.map_eq_some_iff.mp hg
  cases d <;> cases e <;> try cases e1
  simp only [inSign] at e1
  split at e1
  · rename_i c hc
    cases e1
    cases e2
    refine ⟨c, _, ?_, ry.str, k _ _ _ _ (Grow.sc s rfl)⟩
    rw [rx.str, sign1_eq hc]
  · cases e1
theorem ok_inStr : OpOk X A (compareOp .In) (fun d e => (inStr d e).map fun b => .val (.bl b)) := by
  refine ⟨_, op_in_str, fun G H x y d e o Q s rx ry hg k => ?_⟩
  cases d <;> cases e <;> try cases hg
  exact ⟨_, _, rx.str, ry.str, k _ _ _ _ (Grow.sc s rfl)⟩
theorem ok_notInStr : OpOk X A (compareOp .NotIn) (fun d e => (inStr d e).map fun b => .val (.bl (!b))) := by
  refine ⟨_, op_notin_str, fun G H x y d e o Q s rx ry hg k => ?_⟩
  cases d <;> cases e <;> try cases hg
  exact ⟨_, _, rx.str, ry.str, k _ _ _ _ (Grow.sc s rfl)⟩
def inO (d e : D) : Option Bool := (inSeq d e).or ((inSign d e).or (inStr d e))
theorem or_map {α β : Type} {a b : Option α} {f : α → β} {o : β} (h : (a.or b).map f = some o) : a.map f = some o ∨ b.map f = some o := by
  cases a with
  | none => exact .inr h
  | some x => exact .inl h
theorem ok_in : OpOk X A (compareOp .In) (fun d e => (inO d e).map fun b => .val (.bl b)) :=
  .or (ok_inSeq (neg := false) op_in_seq) (.or ok_inSign ok_inStr fun d e o h => or_map h) fun d e o h => or_map h
theorem ok_notIn : OpOk X A (compareOp .NotIn) (fun d e => (inO d e).map fun b => .val (.bl (!b))) :=
  .or (ok_inSeq (neg := true) op_notIn_seq) (.or ok_notInSign ok_notInStr fun d e o h => or_map h) fun d e o h => or_map h
/-! is -/
def isO (d e : D) : Option Bool := match e, d with
  | .non, .non => some true
  | .non, _ => some false
  | .bl b, .bl a => some (decide (a = b))
  | _, _ => none
end
end Fz
end

section -- Fz7
namespace Fz
open PySem L2

/-! ### built-ins -/
def CallOk (X : Cx) (A : Tab) (f : Value) (g : List D → Option O) : Prop :=
  ∃ r, CallR X f r ∧ ∀ (G H : Hp) (vs : List V) (ds : List D) (o : O) (Q : VK), Sub G H → RepLs X.K A G H ds vs → g ds = some o → (∀ w T G2 H2, Grow X.K A G H o T w G2 H2 → Q w H2) → r vs H Q
theorem CallR.or {X : Cx} {f : Value} {r r' : List V → Hp → VK → Prop} (h : CallR X f r) (h' : CallR X f r') : CallR X f (fun xs H Q => r xs H Q ∨ r' xs H Q) := by
  intro pins s σ H xs us Q I rv q
  rcases q with q | q
  · exact h pins s σ H xs us Q I rv q
  · exact h' pins s σ H xs us Q I rv q
theorem CallOk.or {X : Cx} {A : Tab} {f : Value} {g g1 g2 : List D → Option O} (h1 : CallOk X A f g1) (h2 : CallOk X A f g2) (h : ∀ ds o, g ds = some o → g1 ds = some o ∨ g2 ds = some o) : CallOk X A f g := by
  obtain ⟨r1, o1, k1⟩ := h1
  obtain ⟨r2, o2, k2⟩ := h2
  refine ⟨_, CallR.or o1 o2, fun G H vs ds o Q s r hg k => ?_⟩
  rcases h ds o hg with z | z
  · exact .inl (k1 G H vs ds o Q s r z k)
  · exact .inr (k2 G H vs ds o Q s r z k)
section
variable {K : PySem.W.Frag} {A : Tab} {G H : Hp}
theorem RepLs.one {d : D} {vs : List V} (h : RepLs K A G H [d] vs) : ∃ v, vs = [v] ∧ RepL K A G H d v := by
  obtain ⟨x, xs, rfl, h1, h2⟩ := h
  cases h2
  exact ⟨x, rfl, h1⟩
theorem RepLs.two {d e : D} {vs : List V} (h : RepLs K A G H [d, e] vs) : ∃ v w, vs = [v, w] ∧ RepL K A G H d v ∧ RepL K A G H e w := by
  obtain ⟨x, xs, rfl, h1, h2⟩ := h
  obtain ⟨y, rfl, h3⟩ := RepLs.one h2
  exact ⟨x, y, rfl, h1, h3⟩
end
/-- a built-in of one argument -/
def g1 (f : D → Option O) : List D → Option O
  | [d] => f d
  | _ => none
def g2 (f : D → D → Option O) : List D → Option O
  | [d, e] => f d e
  | _ => none
section
variable {X : Cx} {A : Tab}
theorem CallOk.one {f : Value} {r : List V → Hp → VK → Prop} {g : D → Option O} (ho : CallR X f r) (h : ∀ (G H : Hp) (v : V) (d : D) (o : O) (Q : VK), Sub G H → RepL X.K A G H d v → g d = some o → (∀ w T G2 H2, Grow X.K A G H o T w G2 H2 → Q w H2) → r [v] H Q) : CallOk X A f (g1 g) := by
  refine ⟨r, ho, fun G H vs ds o Q s rv hg k => ?_⟩
  match ds, hg with
  | [d], hg =>
    obtain ⟨v, rfl, r1⟩ := rv.one
    exact h G H v d o Q s r1 hg k
theorem CallOk.two {f : Value} {r : List V → Hp → VK → Prop} {g : D → D → Option O} (ho : CallR X f r) (h : ∀ (G H : Hp) (v w : V) (d e : D) (o : O) (Q : VK), Sub G H → RepL X.K A G H d v → RepL X.K A G H e w → g d e = some o → (∀ w T G2 H2, Grow X.K A G H o T w G2 H2 → Q w H2) → r [v, w] H Q) : CallOk X A f (g2 g) := by
  refine ⟨r, ho, fun G H vs ds o Q s rv hg k => ?_⟩
  match ds, hg with
  | [d, e], hg =>
    obtain ⟨v, w, rfl, r1, r2⟩ := rv.two
    exact h G H v w d e o Q s r1 r2 hg k
def lenD : D → Option O
  | .str s => if s.length ≤ sizeLine then some (.val (.int s.length)) else none
  | .tup ds => some (.val (.int ds.length))
  | .lst ds => some (.val (.int ds.length))
  | .scr ns => some (.val (.int ns.length))
  | _ => none
theorem ok_len : CallOk X A (.builtin "len") (g1 lenD) := by
  refine .one call_len fun G H v d o Q s rv hg k => ?_
  cases d <;> try cases hg
  · simp only [lenD] at hg
    split at hg
    · rename_i hl
      cases hg
      cases rv.str
      exact ⟨_, _, rfl, ⟨hl, rfl⟩, k _ _ _ _ (Grow.sc s rfl)⟩
    · cases hg
  · obtain ⟨a, xs, rfl, q, r⟩ := rv.tup
    exact ⟨_, xs.length, rfl, .inr ⟨xs, SqT.sub s q, rfl⟩, by rw [← r.length]; exact k _ _ _ _ (Grow.sc s rfl)⟩
  · obtain ⟨a, xs, rfl, q, r⟩ := rv.lst s
    exact ⟨_, xs.length, rfl, .inl ⟨xs, SqL.of q, rfl⟩, by rw [← r.length]; exact k _ _ _ _ (Grow.sc s rfl)⟩
  · rename_i ns
    rcases rv with ⟨a, rfl, q⟩ | ⟨_, _, _, e, _⟩
    · exact ⟨_, ns.length, rfl, .inl ⟨_, SqL.sub s q, by simp⟩, k _ _ _ _ (Grow.sc s rfl)⟩
    · cases e
def absD : D → Option O
  | .int i => some (.val (.int (if i < 0 then -i else i)))
  | _ => none
theorem ok_abs : CallOk X A (.builtin "abs") (g1 absD) := by
  refine .one call_abs fun G H v d o Q s rv hg k => ?_
  cases d <;> cases hg
  cases rv.int
  exact ⟨_, rfl, k _ _ _ _ (Grow.sc s rfl)⟩
def max2 : D → D → Option O
  | .int i, .int j => some (.val (.int (if j > i then j else i)))
  | _, _ => none
def min2 : D → D → Option O
  | .int i, .int j => some (.val (.int (if j < i then j else i)))
  | _, _ => none
theorem ok_max2 (hc : X.calm = true) : CallOk X A (.builtin "max") (g2 max2) := by
  refine .two (call_max2 hc) fun G H v w d e o Q s rv rw hg k => ?_
  cases d <;> cases e <;> cases hg
  cases rv.int
  cases rw.int
  exact ⟨_, _, rfl, k _ _ _ _ (Grow.sc s rfl)⟩
theorem ok_min2 (hc : X.calm = true) : CallOk X A (.builtin "min") (g2 min2) := by
  refine .two (call_min2 hc) fun G H v w d e o Q s rv rw hg k => ?_
  cases d <;> cases e <;> cases hg
  cases rv.int
  cases rw.int
  exact ⟨_, _, rfl, k _ _ _ _ (Grow.sc s rfl)⟩
def intD : D → Option O
  | .int i => some (.val (.int i))
  | .bl b => some (.val (.int (if b = true then 1 else 0)))
  | _ => none
theorem ok_int : CallOk X A (.type "int") (g1 intD) := by
  refine .one call_int1 fun G H v d o Q s rv hg k => ?_
  cases d <;> cases hg
  · cases rv.bl
    exact .inr ⟨_, rfl, k _ _ _ _ (Grow.sc s rfl)⟩
  · cases rv.int
    exact .inl ⟨_, rfl, k _ _ _ _ (Grow.sc s rfl)⟩
def bools : List D → Option (List Bool)
  | [] => some []
  | .bl b :: ds => (bools ds).map (b :: ·)
  | _ => none
theorem RepDs.bools {K : PySem.W.Frag} {G : Hp} : ∀ {ds : List D} {vs : List V} {bs : List Bool}, RepDs K A G ds vs → bools ds = some bs → vs = bs.map V.bl
  | [], _, bs, h, e => by cases h; cases e; rfl
  | d :: ds, _, bs, h, e => by
    obtain ⟨x, xs, rfl, h1, h2⟩ := h
    cases d <;> try cases e
    simp only [Fz.bools] at e
    obtain ⟨bs', e1, e2⟩ := Option.map_eq_some_iff.mp e
    subst e2
    cases h1
    rw [RepDs.bools h2 e1]
    rfl
def allD : D → Option O
  | .lst ds => (bools ds).map fun bs => .val (.bl (bs.all id))
  | _ => none
def anyD : D → Option O
  | .lst ds => (bools ds).map fun bs => .val (.bl (bs.any id))
  | _ => none
theorem ok_all (hc : X.calm = true) : CallOk X A (.builtin "all") (g1 allD) := by
  refine .one (cr_all hc) fun G H v d o Q s rv hg k => ?_
  cases d <;> try cases hg
  obtain ⟨bs, e1, e2⟩ := Option.map_eq_some_iff.mp hg
  subst e2
  obtain ⟨a, xs, rfl, q, r⟩ := rv.lst s
  exact ⟨a, bs, rfl, by rw [← r.bools e1]; exact SqL.of q, k _ _ _ _ (Grow.sc s rfl)⟩
theorem ok_any (hc : X.calm = true) : CallOk X A (.builtin "any") (g1 anyD) := by
  refine .one (cr_any hc) fun G H v d o Q s rv hg k => ?_
  cases d <;> try cases hg
  obtain ⟨bs, e1, e2⟩ := Option.map_eq_some_iff.mp hg
  subst e2
  obtain ⟨a, xs, rfl, q, r⟩ := rv.lst s
  exact ⟨a, bs, rfl, by rw [← r.bools e1]; exact SqL.of q, k _ _ _ _ (Grow.sc s rfl)⟩
def tupleD : D → Option O
  | .lst ds => some (.val (.tup ds))
  | .tup ds => some (.val (.tup ds))
  | _ => none
theorem ok_tuple : CallOk X A (.type "tuple") (g1 tupleD) := by
  refine .one call_tuple_of fun G H v d o Q s rv hg k => ?_
  cases d <;> cases hg
  · obtain ⟨a, xs, rfl, q, r⟩ := rv.tup
    exact ⟨a, xs, rfl, .inr ⟨SqT.sub s q, k _ _ _ _ (Grow.old s ⟨a, xs, rfl, q, r⟩)⟩⟩
  · obtain ⟨a, xs, rfl, q, r⟩ := rv.lst s
    exact ⟨a, xs, rfl, .inl ⟨SqL.of q, fun l hl => k _ _ _ _ (Grow.tup s r hl)⟩⟩
def listD : D → Option O
  | .lst ds => some (.lst (ds.map .val))
  | .tup ds => some (.lst (ds.map .val))
  | .scr ns => some (.lst (ns.map fun n => .val (.int n)))
  | _ => none
theorem RepDs.ints {K : PySem.W.Frag} {G : Hp} : ∀ ns : List Int, RepDs K A G (ns.map .int) (ns.map V.int)
  | [] => rfl
  | n :: ns => ⟨_, _, rfl, rfl, RepDs.ints ns⟩
theorem ok_list : CallOk X A (.type "list") (g1 listD) := by
  refine .one call_list_of fun G H v d o Q s rv hg k => ?_
  cases d <;> cases hg
  · obtain ⟨a, xs, rfl, q, r⟩ := rv.tup
    exact ⟨a, xs, rfl, .inr (SqT.sub s q), fun l hl => k _ _ _ _ (Grow.lst s r hl)⟩
  · obtain ⟨a, xs, rfl, q, r⟩ := rv.lst s
    exact ⟨a, xs, rfl, .inl (SqL.of q), fun l hl => k _ _ _ _ (Grow.lst s r hl)⟩
  · rename_i ns
    rcases rv with ⟨a, rfl, q⟩ | ⟨_, _, _, e, _⟩
    · refine ⟨a, _, rfl, .inl (SqL.sub s q), fun l hl => ?_⟩
      have gr := Grow.lst s (RepDs.ints (K := X.K) (A := A) (G := G) ns) hl
      rw [List.map_map] at gr
      exact k _ _ _ _ gr
    · cases e
/-! isinstance -/
def tyN : D → Option String
  | .non => some "NoneType" | .bl _ => some "bool" | .int _ => some "int" | .str _ => some "str" | .tup _ => some "tuple" | .lst _ => some "list" | .scr _ => some "list" | .dct _ => some "dict"
  | _ => none
def isiB (t T : String) : Option Bool := if t ∈ ["NoneType", "bool", "int", "str", "tuple", "list", "dict"] ∧ T ∈ ["int", "bool", "str", "tuple", "list", "dict"] then some (decide (t = T ∨ (t = "bool" ∧ T = "int"))) else none
theorem isiB_kit {t T : String} {b : Bool} (h : isiB t T = some b) : kitB t T = some b := by
  unfold isiB at h
  split at h
  · rename_i hm
    have all : ∀ t ∈ ["NoneType", "bool", "int", "str", "tuple", "list", "dict"], ∀ T ∈ ["int", "bool", "str", "tuple", "list", "dict"], kitB t T = some (decide (t = T ∨ (t = "bool" ∧ T = "int"))) := by decide +kernel
    rw [all t hm.1 T hm.2]
    exact h
  · cases h
theorem RepD.tyX {K : PySem.W.Frag} {H : Hp} {d : D} {v : V} {t : String} (h : RepD K A H d v) (e : tyN d = some t) : TyX K H v (.type t) := by
  cases d <;> cases e
  · cases h; exact .base .non
  · cases h; exact .base (.bl _)
  · cases h; exact .base (.int _)
  · cases h; exact .base (.str _)
  · obtain ⟨a, xs, rfl, q, r⟩ := h
    rcases q with (q | ⟨o, q⟩) | ⟨o, its, n, e1, e2, _⟩
    · exact .base (.tup q)
    · exact .fTuple q
    · exact .kTuple e1 e2
  · obtain ⟨a, xs, rfl, q, r⟩ := h
    exact .base (.lst q)
  · obtain ⟨a, rfl, q⟩ := h
    rcases q with (q | ⟨o, q⟩) | ⟨o, its, n, e1, e2, _⟩
    · exact .base (.lst q)
    · exact .base (.frz q)
    · exact .kList e1 e2
  · obtain ⟨a, rfl, ⟨xs, q, r⟩ | ⟨xs, q, r⟩⟩ := h
    · exact .base (.dK q)
    · exact .base (.dT q)
def isiD : D → D → Option O
  | d, .ty T => (tyN d).bind fun t => (isiB t T).map fun b => .val (.bl b)
  | _, _ => none
theorem ok_isi : CallOk X A (.builtin "isinstance") (g2 isiD) := by
  refine .two call_isi fun G H v w d e o Q s rv rw hg k => ?_
  cases e <;> try cases hg
  simp only [isiD] at hg
  obtain ⟨t, e1, hg⟩ := Option.bind_eq_some_iff.mp hg
  obtain ⟨b, e2, hg⟩ := Option.map_eq_some_iff.mp hg
  cases hg
  have rw' := rw.view s
  cases rw'
  exact ⟨v, _, .type t, _, b, rfl, .ty _, (rv.view s).tyX e1, kit_ty (isiB_kit e2), k _ _ _ _ (Grow.sc s rfl)⟩
end
end Fz
end

section -- Fz8
namespace Fz
open PySem L2

/-! ### the program's trees -/
def notStar : Expr → Bool
  | .Starred .. => false
  | _ => true
def notSlice : Expr → Bool
  | .Slice .. => false
  | _ => true
def notCall0 : Expr → Bool
  | .Call _ [] _ _ => false
  | _ => true
/-- a tree whose test is its value's truth -/
def plainT : Expr → Bool
  | .Name .. => true
  | .Constant .. => true
  | .Call .. => true
  | .Attribute .. => true
  | .Subscript .. => true
  | .BinOp .. => true
  | .List .. => true
  | .Tuple .. => true
  | _ => false
theorem star_cons {e : Expr} {es : List Expr} {env : Env} (h : notStar e = true) : starEach (e :: es) env = (false, eval e env) :: starEach es env := by
  cases e <;> first | rfl | cases h
theorem star_any {env : Env} {pos : Pos} : ∀ {es : List Expr}, es.all notStar = true → (backTo pos (starEach es env)).any (·.1) = false
  | [], _ => rfl
  | e :: es, h => by
    simp only [List.all_cons, Bool.and_eq_true] at h
    rw [star_cons h.1]
    have := star_any (env := env) (pos := pos) h.2
    simpa [backTo] using this
theorem star_len {env : Env} : ∀ {es : List Expr}, (starEach es env).length = es.length
  | [] => rfl
  | e :: es => by cases e <;> simp [starEach, star_len (es := es)]
theorem star_all {env : Env} {pos : Pos} : ∀ {es : List Expr}, es.all notStar = true → (backTo pos (starEach es env)).all (fun x => !x.1) = true
  | [], _ => rfl
  | e :: es, h => by
    simp only [List.all_cons, Bool.and_eq_true] at h
    rw [star_cons h.1]
    have := star_all (env := env) (pos := pos) h.2
    simpa [backTo] using this
theorem plainIx {b : Expr} (h : notSlice b = true) : PlainIx b := by
  intro o i
  cases b <;> first | rfl | cases h
theorem attr_base {o : Expr} {m : Str} {env : Env} {whole : Sem Value} (h : notCall0 o = true) : attributeBase o m env whole = whole := by
  cases o <;> try rfl
  rename_i f as ks p
  cases as with
  | nil => cases h
  | cons a as => cases f <;> rfl
theorem plain_true {e : Expr} {env : Env} (h : plainT e = true) : ∀ whole, isTrue e env whole = (do let v ← whole; standAt e.pos; holding [v] (truthy v)) := by
  intro whole
  cases e <;> first | rfl | cases h

/-! ### judgements -/
def ExE (X : Cx) (A : Tab) (W : WX) (occ : Nat → Bool) (e : Expr) (f : En → Res (B × En)) : Prop := ∃ t, PE X e t ∧ SemE X.K A W occ t f
def ExA (X : Cx) (A : Tab) (W : WX) (occ : Nat → Bool) (es : List Expr) (f : En → Res (List B × En)) : Prop := ∃ t, PA X es t ∧ SemA X.K A W occ t f
def SemT (K : PySem.W.Frag) (A : Tab) (W : WX) (occ : Nat → Bool) (t : TT) (f : En → Res (Bool × En)) : Prop :=
  ∀ (G H : Hp) (σ : St) (env : En) (Fs : Nat → Fp) (Q : Bool → Hp → Prop), StOk K A G H σ env Fs →
    (f env).wp (fun r => ∀ G' H' Fs', Stp G H Fs G' H' Fs' [] → StOk K A G' H' σ r.2 Fs' → Same' occ H env Fs H' r.2 Fs' → Q r.1 H')
      (fun c env' => ∀ G' H' Fs' C d, Stp G H Fs G' H' Fs' [] → StOk K A G' H' σ env' Fs' → Same' occ H env Fs H' env' Fs' → A.cls c = some C → W (.ref C) d σ H') → t σ H Q
def ExT (X : Cx) (A : Tab) (W : WX) (occ : Nat → Bool) (e : Expr) (f : En → Res (Bool × En)) : Prop := ∃ t, PT X e t ∧ SemT X.K A W occ t f
/-- .. of and, or, whatever the whole is -/
def ExW (X : Cx) (A : Tab) (W : WX) (occ : Nat → Bool) (e : Expr) (f : En → Res (Bool × En)) : Prop := ∃ t, PW X e t ∧ SemT X.K A W occ t f

section
variable {X : Cx} {A : Tab} {W : WX} {occ occ1 occ2 occ3 : Nat → Bool} {pos : Pos} {a b c e : Expr} {es : List Expr} {fa fb fc : En → Res (B × En)} {fs : En → Res (List B × En)}

theorem SemE.mono {K : PySem.W.Frag} {t : TE} {f : En → Res (B × En)} (h : SemE K A W occ1 t f) (ho : ∀ i, occ1 i = true → occ2 i = true) : SemE K A W occ2 t f := by
  have ho' : ∀ i, occ2 i = false → occ1 i = false := fun i hi => by
    cases q : occ1 i with
    | false => rfl
    | true => rw [ho i q] at hi; cases hi
  intro G H σ env Fs Q so hq
  exact h G H σ env Fs Q so (Res.wp_mono hq (fun r hr v G' H' Fs' T s1 s2 s3 s4 s5 s6 => hr v G' H' Fs' T s1 s2 (s3.mono ho') s4 s5 (s6.mono ho)) fun c e he G' H' Fs' C d s1 s2 s3 => he G' H' Fs' C d s1 s2 (s3.mono ho'))
theorem SemT.mono {K : PySem.W.Frag} {t : TT} {f : En → Res (Bool × En)} (h : SemT K A W occ1 t f) (ho : ∀ i, occ1 i = true → occ2 i = true) : SemT K A W occ2 t f := by
  have ho' : ∀ i, occ2 i = false → occ1 i = false := fun i hi => by
    cases q : occ1 i with
    | false => rfl
    | true => rw [ho i q] at hi; cases hi
  intro G H σ env Fs Q so hq
  exact h G H σ env Fs Q so (Res.wp_mono hq (fun r hr G' H' Fs' s1 s2 s3 => hr G' H' Fs' s1 s2 (s3.mono ho')) fun c e he G' H' Fs' C d s1 s2 s3 => he G' H' Fs' C d s1 s2 (s3.mono ho'))

/-! names, constants -/
def evName (i : Nat) : En → Res (B × En) := fun env => match env[i]? with
  | some (some _) => .ok (.slot i, env)
  | _ => .stuck
theorem ex_name {i : Nat} {x : Str} (hN : X.N[i]? = some x) (hv : Vis X.env.scope x) (h1 : (x == ("__debug__" : Str)) = false) (h2 : (x == ("__classdict__" : Str)) = false) (ho : occ i = true) : ExE X A W occ (.Name x pos) (evName i) := by
  refine ⟨_, pe_var hN hv h1 h2, fun G H σ env Fs Q so hq => ?_⟩
  unfold evName at hq
  split at hq
  · rename_i o e
    obtain ⟨v, hv, _⟩ := so.at_ i o e
    exact ⟨v, hv, hq v G H Fs [] .refl so .refl .nil ⟨rfl, hv⟩ ho⟩
  · exact hq.elim
def evC (d : D) : En → Res (B × En) := fun env => .ok (.tmp (.val d), env)
theorem sem_c {K : PySem.W.Frag} {d : D} {v : V} (h : ∀ G, RepD K A G d v) : SemE K A W occ (tC v) (evC d) := fun G H σ env Fs Q so hq => hq v G H Fs [] .refl so .refl .nil ⟨rfl, h G⟩ trivial
theorem ex_int {i : Int} {j : Nat} : ExE X A W occ (.Constant (.int i) j pos) (evC (.int i)) := ⟨_, pe_int, sem_c fun _ => rfl⟩
theorem ex_bl {b : Bool} {j : Nat} : ExE X A W occ (.Constant (.bool b) j pos) (evC (.bl b)) := ⟨_, pe_bl, sem_c fun _ => rfl⟩
theorem ex_non {j : Nat} : ExE X A W occ (.Constant .none j pos) (evC .non) := ⟨_, pe_non, sem_c fun _ => rfl⟩
theorem ex_str {s : Str} {j : Nat} : ExE X A W occ (.Constant (.str s) j pos) (evC (.str s)) := ⟨_, pe_str, sem_c fun _ => rfl⟩
theorem ex_glob {x : Str} {v : V} {u : Value} {d : D} (hg : Gl X x) (hm : X.mg x = some u) (r : RelV v u) (h : ∀ G, RepD X.K A G d v) (hd : (x == ("__debug__" : Str)) = false) : ExE X A W occ (.Name x pos) (evC d) := ⟨_, pe_glob hg hm r hd, sem_c h⟩
theorem ex_ty {x : Str} {n : String} (hg : Gl X x) (hm : X.mg x = none) (hv : bootBuiltins x = some (.type n)) (hn : x ≠ "__name__") (hd : (x == ("__debug__" : Str)) = false) : ExE X A W occ (.Name x pos) (evC (.ty n)) :=
  ⟨_, pe_bltn (v := .ty n) hg hm hv rfl hn hd, sem_c fun _ => rfl⟩

/-! argument lists -/
theorem ea_nil : ExA X A W occ [] evsNil := ⟨_, pa_nil, semA_nil⟩
theorem ea_cons (h1 : ExE X A W occ1 e fa) (h2 : ExA X A W occ2 es fs) (hs : notStar e = true) : ExA X A W (fun i => occ1 i || occ2 i) (e :: es) (evsCons occ2 fa fs) := by
  obtain ⟨t1, p1, s1⟩ := h1
  obtain ⟨t2, p2, s2⟩ := h2
  exact ⟨_, pa_cons p1 p2 (star_cons hs), semA_cons s1 s2⟩

/-! operators -/
def ev2 (occb : Nat → Bool) (fa fb : En → Res (B × En)) : En → Res (List B × En) := evsCons occb fa (evsCons (fun _ => false) fb evsNil)
theorem sem2 {K : PySem.W.Frag} {ta tb : TE} (h1 : SemE K A W occ1 ta fa) (h2 : SemE K A W occ2 tb fb) : SemA K A W (fun i => occ1 i || (occ2 i || false)) (tCons ta (tCons tb tNil)) (evsCons (fun i => occ2 i || false) fa (evsCons (fun _ => false) fb evsNil)) :=
  semA_cons h1 (semA_cons h2 semA_nil)
def r2of (r : R2) : List V → Hp → VK → Prop := fun vs H Q => match vs with
  | [x, y] => r x y H Q
  | _ => False
theorem sem_op {K : PySem.W.Frag} {f : Value → Value → Sem Value} {g : D → D → Option O} {r : R2} {ta tb : TE} (hK : K = X.K) (k : ∀ (G H : Hp) (x y : V) (d e : D) (o : O) (Q : VK), Sub G H → RepL X.K A G H d x → RepL X.K A G H e y → g d e = some o → (∀ w T G2 H2, Grow X.K A G H o T w G2 H2 → Q w H2) → r x y H Q)
    (h1 : SemE X.K A W occ1 ta fa) (h2 : SemE X.K A W occ2 tb fb) : SemE X.K A W (fun i => occ1 i || (occ2 i || false)) (tOp r ta tb) (opL (g2 g) (evsCons (fun i => occ2 i || false) fa (evsCons (fun _ => false) fb evsNil))) := by
  have := semL (r := r2of r) (g := g2 g) (sem2 h1 h2) fun G H vs ds o Q s rv hg kk => by
    match ds, hg with
    | [d, e], hg =>
      obtain ⟨v, w, rfl, r1, r2⟩ := rv.two
      exact k G H v w d e o Q s r1 r2 hg kk
  exact this
theorem ex_bin {op : Operator} {g : D → D → Option O} (ho : OpOk X A (binaryOp op) g) (h1 : ExE X A W occ1 a fa) (h2 : ExE X A W occ2 b fb) :
    ExE X A W (fun i => occ1 i || (occ2 i || false)) (.BinOp a op b pos) (opL (g2 g) (evsCons (fun i => occ2 i || false) fa (evsCons (fun _ => false) fb evsNil))) := by
  obtain ⟨r, o, k⟩ := ho
  obtain ⟨ta, pa, sa⟩ := h1
  obtain ⟨tb, pb, sb⟩ := h2
  exact ⟨_, pe_op o pa pb, sem_op (f := binaryOp op) rfl k sa sb⟩
theorem ex_cmp {op : CmpOp} {g : D → D → Option O} (ho : OpOk X A (compareOp op) g) (hb : behindInMarks op b = false) (h1 : ExE X A W occ1 a fa) (h2 : ExE X A W occ2 b fb) :
    ExE X A W (fun i => occ1 i || (occ2 i || false)) (.Compare a [op] [b] pos) (opL (g2 g) (evsCons (fun i => occ2 i || false) fa (evsCons (fun _ => false) fb evsNil))) := by
  obtain ⟨r, o, k⟩ := ho
  obtain ⟨ta, pa, sa⟩ := h1
  obtain ⟨tb, pb, sb⟩ := h2
  exact ⟨_, pe_cmpR o pa pb hb, sem_op (f := compareOp op) rfl k sa sb⟩

/-! tests -/
def toBl (f : En → Res (B × En)) : En → Res (Bool × En) := fun env => (f env).bind fun r => match vw r.2 r.1 with
  | some (.bl k) => .ok (k, r.2)
  | _ => .stuck
theorem semT_bl {K : PySem.W.Frag} {t : TE} (h : SemE K A W occ t fa) : SemT K A W occ (tTest t) (toBl fa) := by
  intro G H σ env Fs Q so hq
  refine h G H σ env Fs _ so ?_
  unfold toBl at hq
  rw [Res.wp_bind] at hq
  refine Res.wp_mono hq (fun r hr v G' H' Fs' T s1 s2 s3 s4 s5 _ => ?_) fun c e he => he
  split at hr
  · rename_i k e
    have := vw_ok s2 s5 e
    exact ⟨k, this, hr G' H' Fs' (s1.drop (by simp)) s2 s3⟩
  · exact hr.elim
def truD : D → Option Bool
  | .non => some false
  | .bl b => some b
  | .int i => some (i != 0)
  | .str s => if s.length ≤ sizeLine then some ((s.length : Int) != 0) else none
  | .tup ds => some (!ds.isEmpty)
  | .lst ds => some (!ds.isEmpty)
  | .scr ns => some (!ns.isEmpty)
  | _ => none
def toTru (f : En → Res (B × En)) : En → Res (Bool × En) := fun env => (f env).bind fun r => (Res.ofO ((vw r.2 r.1).bind truD)).bind fun k => .ok (k, r.2)
theorem RepDs.isEmpty {K : PySem.W.Frag} {G : Hp} {ds : List D} {vs : List V} (h : RepDs K A G ds vs) : (!ds.isEmpty) = !vs.isEmpty := by
  cases ds with
  | nil => cases h; rfl
  | cons d ds => obtain ⟨x, xs, rfl, _⟩ := h; rfl
theorem RepD.tru {K : PySem.W.Frag} {H : Hp} {d : D} {v : V} {k : Bool} (h : RepD K A H d v) (e : truD d = some k) : TruV K v H k := by
  cases d <;> try cases e
  · cases h; rfl
  · cases h; rfl
  · cases h; rfl
  · simp only [truD] at e
    split at e
    · rename_i hl; cases e; cases h; exact ⟨hl, rfl⟩
    · cases e
  · obtain ⟨a, xs, rfl, q, r⟩ := h
    exact .inr (.inl ⟨xs, q, r.isEmpty⟩)
  · obtain ⟨a, xs, rfl, q, r⟩ := h
    exact .inl ⟨xs, SqL.of q, r.isEmpty⟩
  · rename_i ns
    obtain ⟨a, rfl, q⟩ := h
    exact .inl ⟨_, q, by cases ns <;> rfl⟩
theorem ext_plain (h : ExE X A W occ e fa) (hp : plainT e = true) : ExT X A W occ e (toTru fa) := by
  obtain ⟨t, p, s⟩ := h
  refine ⟨_, pt_truth p (plain_true hp), fun G H σ env Fs Q so hq => ?_⟩
  refine s G H σ env Fs _ so ?_
  unfold toTru at hq
  rw [Res.wp_bind] at hq
  refine Res.wp_mono hq (fun r hr v G' H' Fs' T s1 s2 s3 s4 s5 _ => ?_) fun c e he => he
  rw [Res.wp_bind] at hr
  obtain ⟨k, e, hr⟩ := Res.wp_ofO hr
  obtain ⟨d, e1, e2⟩ := Option.bind_eq_some_iff.mp e
  exact ⟨k, (vw_ok s2 s5 e1).tru e2, hr G' H' Fs' (s1.drop (by simp)) s2 s3⟩
theorem ext_cmp {op : CmpOp} {g : D → D → Option O} (ho : OpOk X A (compareOp op) g) (hb : behindInMarks op b = false) (h1 : ExE X A W occ1 a fa) (h2 : ExE X A W occ2 b fb) :
    ExT X A W (fun i => occ1 i || (occ2 i || false)) (.Compare a [op] [b] pos) (toBl (opL (g2 g) (evsCons (fun i => occ2 i || false) fa (evsCons (fun _ => false) fb evsNil)))) := by
  obtain ⟨r, o, k⟩ := ho
  obtain ⟨ta, pa, sa⟩ := h1
  obtain ⟨tb, pb, sb⟩ := h2
  exact ⟨_, pt_cmpR o pa pb hb, semT_bl (sem_op (f := compareOp op) rfl k sa sb)⟩

/-! a < b < c, of whole numbers -/
def evChain (occb : Nat → Bool) (g g' : Int → Int → Bool) (fa fb fc : En → Res (B × En)) : En → Res (B × En) := fun env =>
  (evsCons occb fa (evsCons (fun _ => false) fb evsNil) env).bind fun r => match vws r.2 r.1 with
    | some [.int i, .int j] => if g i j = true then (fc r.2).bind fun q => match vw q.2 q.1 with
        | some (.int k) => .ok (.tmp (.val (.bl (g' j k))), q.2)
        | _ => .stuck
      else .ok (.tmp (.val (.bl false)), r.2)
    | _ => .stuck
theorem sem_chain {g g' : Int → Int → Bool} {ta tb tc : TE} {r r' : R2} (hr : ∀ i j H Q, Q (.bl (g i j)) H → r (.int i) (.int j) H Q) (hr' : ∀ i j H Q, Q (.bl (g' i j)) H → r' (.int i) (.int j) H Q) (h1 : SemE X.K A W occ1 ta fa) (h2 : SemE X.K A W occ2 tb fb) (h3 : SemE X.K A W occ3 tc fc) :
    SemE X.K A W (fun i => (occ1 i || (occ2 i || false)) || occ3 i) (tChain r r' ta tb tc) (evChain (fun i => occ2 i || false) g g' fa fb fc) := by
  intro G H σ env Fs Q so hq
  have hA := sem2 h1 h2 G H σ env Fs (fun vs H2 => match vs with
    | [x, y] => r x y H2 fun z H3 => ∃ k, z = .bl k ∧ (if k = true then tc σ H3 fun w' H4 => r' y w' H4 Q else Q (.bl false) H3)
    | _ => False) so
  refine hA ?_
  unfold evChain at hq
  rw [Res.wp_bind] at hq
  refine Res.wp_mono hq (fun q hq vs G1 H1 Fs1 T s1 s2 s3 s4 s5 _ => ?_) fun c e he G' H' Fs' C d a1 a2 a3 => he G' H' Fs' C d a1 a2 (a3.mono fun i hi => by simp only [Bool.or_eq_false_iff] at hi ⊢; exact hi.1)
  split at hq
  · rename_i i j e
    have rv := vws_ok s2 s5 e
    obtain ⟨x, xs, rfl, e1, y, ys, rfl, e2, e3⟩ := rv
    cases e3
    cases e1
    cases e2
    refine hr i j H1 _ ⟨_, rfl, ?_⟩
    have s1' : Stp G H Fs G1 H1 Fs1 [] := s1.drop (by simp)
    by_cases hg : g i j = true
    · rw [hg] at hq ⊢
      rw [if_pos rfl] at hq ⊢
      rw [Res.wp_bind] at hq
      refine h3 G1 H1 σ q.2 Fs1 _ s2 (Res.wp_mono hq (fun q2 hq2 v G2 H2 Fs2 T2 b1 b2 b3 b4 b5 _ => ?_) fun c e he G' H' Fs' C d a1 a2 a3 => he G' H' Fs' C d (s1'.trans0 a1) a2 ((s3.trans a3).mono fun i hi => by simp only [Bool.or_eq_false_iff] at hi ⊢; exact hi))
      split at hq2
      · rename_i k e4
        have := vw_ok b2 b5 e4
        cases this
        exact hr' j k H2 _ (hq2 _ G2 H2 Fs2 [] ((s1'.trans0 b1).drop (by simp)) b2 ((s3.trans b3).mono fun i hi => by simp only [Bool.or_eq_false_iff] at hi ⊢; exact hi) .nil ⟨rfl, rfl⟩ trivial)
      · exact hq2.elim
    · have hg' : g i j = false := by simpa using hg
      rw [hg'] at hq ⊢
      rw [if_neg (by simp)] at hq ⊢
      exact hq _ G1 H1 Fs1 [] s1' s2 (s3.mono fun i hi => by simp only [Bool.or_eq_false_iff] at hi ⊢; exact hi.1) .nil ⟨rfl, rfl⟩ trivial
  · exact hq.elim
theorem ri0 {g : Int → Int → Bool} : ∀ i j (H : Hp) (Q : VK), Q (.bl (g i j)) H → rI0 (fun i j => .bl (g i j)) (.int i) (.int j) H Q := fun i j H Q h => ⟨i, j, rfl, rfl, h⟩
theorem ex_chain {op op' : CmpOp} {g g' : Int → Int → Bool} (ho : OpR X (compareOp op) (rI0 fun i j => .bl (g i j))) (ho' : OpR X (compareOp op') (rI0 fun i j => .bl (g' i j))) (hm : lastMarks [op, op'] [b, c] = false) (h1 : ExE X A W occ1 a fa) (h2 : ExE X A W occ2 b fb) (h3 : ExE X A W occ3 c fc) :
    ExE X A W (fun i => (occ1 i || (occ2 i || false)) || occ3 i) (.Compare a [op, op'] [b, c] pos) (evChain (fun i => occ2 i || false) g g' fa fb fc) := by
  obtain ⟨ta, pa, sa⟩ := h1
  obtain ⟨tb, pb, sb⟩ := h2
  obtain ⟨tc, pc, sc⟩ := h3
  exact ⟨_, pe_chain ho ho' pa pb pc hm, sem_chain ri0 ri0 sa sb sc⟩
theorem ext_chain {op op' : CmpOp} {g g' : Int → Int → Bool} (ho : OpR X (compareOp op) (rI0 fun i j => .bl (g i j))) (ho' : OpR X (compareOp op') (rI0 fun i j => .bl (g' i j))) (hm : lastMarks [op, op'] [b, c] = false) (h1 : ExE X A W occ1 a fa) (h2 : ExE X A W occ2 b fb) (h3 : ExE X A W occ3 c fc) :
    ExT X A W (fun i => (occ1 i || (occ2 i || false)) || occ3 i) (.Compare a [op, op'] [b, c] pos) (toBl (evChain (fun i => occ2 i || false) g g' fa fb fc)) := by
  obtain ⟨ta, pa, sa⟩ := h1
  obtain ⟨tb, pb, sb⟩ := h2
  obtain ⟨tc, pc, sc⟩ := h3
  exact ⟨_, pt_chain ho ho' pa pb pc hm, semT_bl (sem_chain ri0 ri0 sa sb sc)⟩

/-! and, or, not; a if t else b -/
def tAndB (f g : En → Res (Bool × En)) : En → Res (Bool × En) := fun env => (f env).bind fun r => if r.1 = true then g r.2 else .ok (false, r.2)
def tOrB (f g : En → Res (Bool × En)) : En → Res (Bool × En) := fun env => (f env).bind fun r => if r.1 = true then .ok (true, r.2) else g r.2
def tNotB (f : En → Res (Bool × En)) : En → Res (Bool × En) := fun env => (f env).bind fun r => .ok (!r.1, r.2)
variable {ga gb : En → Res (Bool × En)}
theorem semT_and {K : PySem.W.Frag} {t u : TT} (h1 : SemT K A W occ1 t ga) (h2 : SemT K A W occ2 u gb) : SemT K A W (fun i => occ1 i || occ2 i) (tAnd t u) (tAndB ga gb) := by
  intro G H σ env Fs Q so hq
  unfold tAndB at hq
  rw [Res.wp_bind] at hq
  refine h1 G H σ env Fs _ so (Res.wp_mono hq (fun r hr G1 H1 Fs1 s1 s2 s3 => ?_) fun c e he G' H' Fs' C d a1 a2 a3 => he G' H' Fs' C d a1 a2 (a3.mono fun i hi => by simp at hi; exact hi.1))
  cases hr1 : r.1 with
  | true =>
    rw [hr1] at hr
    rw [if_pos rfl] at hr ⊢
    exact h2 G1 H1 σ r.2 Fs1 Q s2 (Res.wp_mono hr (fun q hq G2 H2 Fs2 b1 b2 b3 => hq G2 H2 Fs2 (s1.trans0 b1) b2 (s3.trans b3)) fun c e he G' H' Fs' C d a1 a2 a3 => he G' H' Fs' C d (s1.trans0 a1) a2 (s3.trans a3))
  | false =>
    rw [hr1] at hr
    rw [if_neg (by simp)] at hr ⊢
    exact hr G1 H1 Fs1 s1 s2 (s3.mono fun i hi => by simp at hi; exact hi.1)
theorem semT_or {K : PySem.W.Frag} {t u : TT} (h1 : SemT K A W occ1 t ga) (h2 : SemT K A W occ2 u gb) : SemT K A W (fun i => occ1 i || occ2 i) (tOr t u) (tOrB ga gb) := by
  intro G H σ env Fs Q so hq
  unfold tOrB at hq
  rw [Res.wp_bind] at hq
  refine h1 G H σ env Fs _ so (Res.wp_mono hq (fun r hr G1 H1 Fs1 s1 s2 s3 => ?_) fun c e he G' H' Fs' C d a1 a2 a3 => he G' H' Fs' C d a1 a2 (a3.mono fun i hi => by simp at hi; exact hi.1))
  cases hr1 : r.1 with
  | false =>
    rw [hr1] at hr
    rw [if_neg (by simp)] at hr ⊢
    exact h2 G1 H1 σ r.2 Fs1 Q s2 (Res.wp_mono hr (fun q hq G2 H2 Fs2 b1 b2 b3 => hq G2 H2 Fs2 (s1.trans0 b1) b2 (s3.trans b3)) fun c e he G' H' Fs' C d a1 a2 a3 => he G' H' Fs' C d (s1.trans0 a1) a2 (s3.trans a3))
  | true =>
    rw [hr1] at hr
    rw [if_pos rfl] at hr ⊢
    exact hr G1 H1 Fs1 s1 s2 (s3.mono fun i hi => by simp at hi; exact hi.1)
theorem ew_and1 (h : ExT X A W occ a ga) : ExW X A W occ (.BoolOp .And [a] pos) ga := let ⟨_, p, s⟩ := h; ⟨_, pw_and1 p, s⟩
theorem ew_or1 (h : ExT X A W occ a ga) : ExW X A W occ (.BoolOp .Or [a] pos) ga := let ⟨_, p, s⟩ := h; ⟨_, pw_or1 p, s⟩
theorem ew_and {rest : List Expr} (h1 : ExT X A W occ1 a ga) (h2 : ExW X A W occ2 (.BoolOp .And (b :: rest) pos) gb) : ExW X A W (fun i => occ1 i || occ2 i) (.BoolOp .And (a :: b :: rest) pos) (tAndB ga gb) := by
  obtain ⟨_, p1, s1⟩ := h1
  obtain ⟨_, p2, s2⟩ := h2
  exact ⟨_, pw_and p1 p2, semT_and s1 s2⟩
theorem ew_or {rest : List Expr} (h1 : ExT X A W occ1 a ga) (h2 : ExW X A W occ2 (.BoolOp .Or (b :: rest) pos) gb) : ExW X A W (fun i => occ1 i || occ2 i) (.BoolOp .Or (a :: b :: rest) pos) (tOrB ga gb) := by
  obtain ⟨_, p1, s1⟩ := h1
  obtain ⟨_, p2, s2⟩ := h2
  exact ⟨_, pw_or p1 p2, semT_or s1 s2⟩
theorem ExW.t (h : ExW X A W occ a ga) : ExT X A W occ a ga := let ⟨_, p, s⟩ := h; ⟨_, p.pt, s⟩
theorem ext_not (h : ExT X A W occ a ga) : ExT X A W occ (.UnaryOp .Not a pos) (tNotB ga) := by
  obtain ⟨_, p, s⟩ := h
  refine ⟨_, pt_not p, fun G H σ env Fs Q so hq => ?_⟩
  unfold tNotB at hq
  rw [Res.wp_bind] at hq
  exact s G H σ env Fs _ so (Res.wp_mono hq (fun r hr => hr) fun c e he => he)
/-! .. as values -/
def vAndB (f g : En → Res (B × En)) : En → Res (B × En) := fun env => (f env).bind fun r => match vw r.2 r.1 with
  | some (.bl k) => if k = true then g r.2 else .ok (.tmp (.val (.bl false)), r.2)
  | _ => .stuck
def vOrB (f g : En → Res (B × En)) : En → Res (B × En) := fun env => (f env).bind fun r => match vw r.2 r.1 with
  | some (.bl k) => if k = true then .ok (.tmp (.val (.bl true)), r.2) else g r.2
  | _ => .stuck
def vNotB (f : En → Res (B × En)) : En → Res (B × En) := fun env => (f env).bind fun r => match vw r.2 r.1 with
  | some (.bl k) => .ok (.tmp (.val (.bl (!k))), r.2)
  | _ => .stuck
theorem sem_and {K : PySem.W.Frag} {t u : TE} (h1 : SemE K A W occ1 t fa) (h2 : SemE K A W occ2 u fb) : SemE K A W (fun i => occ1 i || occ2 i) (tAndV t u) (vAndB fa fb) := by
  intro G H σ env Fs Q so hq
  unfold vAndB at hq
  rw [Res.wp_bind] at hq
  refine h1 G H σ env Fs _ so (Res.wp_mono hq (fun r hr v G1 H1 Fs1 T s1 s2 s3 s4 s5 _ => ?_) fun c e he G' H' Fs' C d a1 a2 a3 => he G' H' Fs' C d a1 a2 (a3.mono fun i hi => by simp at hi; exact hi.1))
  split at hr
  · rename_i k e
    have := vw_ok s2 s5 e
    refine ⟨k, this, ?_⟩
    have s1' : Stp G H Fs G1 H1 Fs1 [] := s1.drop (by simp)
    cases k with
    | true =>
      rw [if_pos rfl] at hr ⊢
      exact h2 G1 H1 σ r.2 Fs1 Q s2 (Res.wp_mono hr (fun q hq v G2 H2 Fs2 T2 b1 b2 b3 b4 b5 b6 => hq v G2 H2 Fs2 T2 (s1'.trans0 b1) b2 (s3.trans b3) b4 b5 (b6.mono fun i h => by simp [h])) fun c e he G' H' Fs' C d a1 a2 a3 => he G' H' Fs' C d (s1'.trans0 a1) a2 (s3.trans a3))
    | false =>
      rw [if_neg (by simp)] at hr ⊢
      exact hr _ G1 H1 Fs1 [] s1' s2 (s3.mono fun i hi => by simp at hi; exact hi.1) .nil ⟨rfl, rfl⟩ trivial
  · exact hr.elim
theorem sem_or {K : PySem.W.Frag} {t u : TE} (h1 : SemE K A W occ1 t fa) (h2 : SemE K A W occ2 u fb) : SemE K A W (fun i => occ1 i || occ2 i) (tOrV t u) (vOrB fa fb) := by
  intro G H σ env Fs Q so hq
  unfold vOrB at hq
  rw [Res.wp_bind] at hq
  refine h1 G H σ env Fs _ so (Res.wp_mono hq (fun r hr v G1 H1 Fs1 T s1 s2 s3 s4 s5 _ => ?_) fun c e he G' H' Fs' C d a1 a2 a3 => he G' H' Fs' C d a1 a2 (a3.mono fun i hi => by simp at hi; exact hi.1))
  split at hr
  · rename_i k e
    have := vw_ok s2 s5 e
    refine ⟨k, this, ?_⟩
    have s1' : Stp G H Fs G1 H1 Fs1 [] := s1.drop (by simp)
    cases k with
    | false =>
      rw [if_neg (by simp)] at hr ⊢
      exact h2 G1 H1 σ r.2 Fs1 Q s2 (Res.wp_mono hr (fun q hq v G2 H2 Fs2 T2 b1 b2 b3 b4 b5 b6 => hq v G2 H2 Fs2 T2 (s1'.trans0 b1) b2 (s3.trans b3) b4 b5 (b6.mono fun i h => by simp [h])) fun c e he G' H' Fs' C d a1 a2 a3 => he G' H' Fs' C d (s1'.trans0 a1) a2 (s3.trans a3))
    | true =>
      rw [if_pos rfl] at hr ⊢
      exact hr _ G1 H1 Fs1 [] s1' s2 (s3.mono fun i hi => by simp at hi; exact hi.1) .nil ⟨rfl, rfl⟩ trivial
  · exact hr.elim
theorem ex_one {op : BoolOp} (h : ExE X A W occ a fa) : ExE X A W occ (.BoolOp op [a] pos) fa := let ⟨_, p, s⟩ := h; ⟨_, pe_one p, s⟩
theorem ex_and {rest : List Expr} (h1 : ExE X A W occ1 a fa) (h2 : ExE X A W occ2 (.BoolOp .And (b :: rest) pos) fb) : ExE X A W (fun i => occ1 i || occ2 i) (.BoolOp .And (a :: b :: rest) pos) (vAndB fa fb) := by
  obtain ⟨_, p1, s1⟩ := h1
  obtain ⟨_, p2, s2⟩ := h2
  exact ⟨_, pe_and p1 p2, sem_and s1 s2⟩
theorem ex_or {rest : List Expr} (h1 : ExE X A W occ1 a fa) (h2 : ExE X A W occ2 (.BoolOp .Or (b :: rest) pos) fb) : ExE X A W (fun i => occ1 i || occ2 i) (.BoolOp .Or (a :: b :: rest) pos) (vOrB fa fb) := by
  obtain ⟨_, p1, s1⟩ := h1
  obtain ⟨_, p2, s2⟩ := h2
  exact ⟨_, pe_or p1 p2, sem_or s1 s2⟩
theorem ex_not (h : ExE X A W occ a fa) : ExE X A W occ (.UnaryOp .Not a pos) (vNotB fa) := by
  obtain ⟨_, p, s⟩ := h
  refine ⟨_, pe_not p, fun G H σ env Fs Q so hq => ?_⟩
  unfold vNotB at hq
  rw [Res.wp_bind] at hq
  refine s G H σ env Fs _ so (Res.wp_mono hq (fun r hr v G1 H1 Fs1 T s1 s2 s3 s4 s5 _ => ?_) fun c e he => he)
  split at hr
  · rename_i k e
    exact ⟨k, vw_ok s2 s5 e, hr _ G1 H1 Fs1 [] (s1.drop (by simp)) s2 s3 .nil ⟨rfl, rfl⟩ trivial⟩
  · exact hr.elim
def vIf (gc : En → Res (Bool × En)) (f g : En → Res (B × En)) : En → Res (B × En) := fun env => (gc env).bind fun r => if r.1 = true then f r.2 else g r.2
theorem ex_ife (hc : ExT X A W occ1 c ga) (h1 : ExE X A W occ2 a fa) (h2 : ExE X A W occ3 b fb) : ExE X A W (fun i => occ1 i || (occ2 i || occ3 i)) (.IfExp c a b pos) (vIf ga fa fb) := by
  obtain ⟨_, p0, s0⟩ := hc
  obtain ⟨_, p1, s1⟩ := h1
  obtain ⟨_, p2, s2⟩ := h2
  refine ⟨_, pe_ifExp p0 p1 p2, fun G H σ env Fs Q so hq => ?_⟩
  unfold vIf at hq
  rw [Res.wp_bind] at hq
  refine s0 G H σ env Fs _ so (Res.wp_mono hq (fun r hr G1 H1 Fs1 a1 a2 a3 => ?_) fun c e he G' H' Fs' C d a1 a2 a3 => he G' H' Fs' C d a1 a2 (a3.mono fun i hi => by simp at hi; exact hi.1))
  cases hr1 : r.1 with
  | true =>
    rw [hr1] at hr
    rw [if_pos rfl] at hr ⊢
    exact s1 G1 H1 σ r.2 Fs1 Q a2 (Res.wp_mono hr (fun q hq v G2 H2 Fs2 T2 b1 b2 b3 b4 b5 b6 => hq v G2 H2 Fs2 T2 (a1.trans0 b1) b2 ((a3.trans b3).mono fun i hi => by simp at hi ⊢; exact ⟨hi.1, hi.2.1⟩) b4 b5 (b6.mono fun i h => by simp [h])) fun c e he G' H' Fs' C d b1 b2 b3 => he G' H' Fs' C d (a1.trans0 b1) b2 ((a3.trans b3).mono fun i hi => by simp at hi ⊢; exact ⟨hi.1, hi.2.1⟩))
  | false =>
    rw [hr1] at hr
    rw [if_neg (by simp)] at hr ⊢
    exact s2 G1 H1 σ r.2 Fs1 Q a2 (Res.wp_mono hr (fun q hq v G2 H2 Fs2 T2 b1 b2 b3 b4 b5 b6 => hq v G2 H2 Fs2 T2 (a1.trans0 b1) b2 ((a3.trans b3).mono fun i hi => by simp at hi ⊢; exact ⟨hi.1, hi.2.2⟩) b4 b5 (b6.mono fun i h => by simp [h])) fun c e he G' H' Fs' C d b1 b2 b3 => he G' H' Fs' C d (a1.trans0 b1) b2 ((a3.trans b3).mono fun i hi => by simp at hi ⊢; exact ⟨hi.1, hi.2.2⟩))
end
end Fz
end

section -- Fz9
namespace Fz
open PySem L2

/-! ### a[i] -/
def oOf (env : En) : B → Option O
  | .slot i => match env[i]? with
    | some (some o) => some o
    | _ => none
  | .nest i p => match env[i]? with
    | some (some o) => o.follow p
    | _ => none
  | .tmp o => some o
/-- the part s of an answer -/
def nestB (b : B) (s : Sel) (o : O) : B := match b with
  | .slot i => .nest i [s]
  | .nest i p => .nest i (p ++ [s])
  | .tmp _ => .tmp o
def subB (b : B) (s : Sel) (o : O) : B := match o with
  | .val d => .tmp (.val d)
  | o => nestB b s o
def idxD (d : D) (k : Int) : Option D := match d with
  | .lst ds => atI ds k
  | .tup ds => atI ds k
  | .scr ns => (atI ns k).map .int
  | .str s => if s.length ≤ sizeLine then (atI s.cps.toList k).map fun c => .str ⟨#[c]⟩ else none
  | _ => none
def idxB (env : En) (ba bb : B) : Option B := match oOf env ba, vw env bb with
  | some (.lst os), some (.int k) => match ixN os.length k with
    | some j => (os[j]?).map fun o => subB ba (.ix j) o
    | none => none
  | some (.val d), some (.int k) => (idxD d k).map fun d => .tmp (.val d)
  | _, _ => none
def evIdx (occb : Nat → Bool) (fa fb : En → Res (B × En)) : En → Res (B × En) := fun env => (evsCons occb fa (evsCons (fun _ => false) fb evsNil) env).bind fun r => match r.1 with
  | [ba, bb] => (Res.ofO (idxB r.2 ba bb)).bind fun b => .ok (b, r.2)
  | _ => .stuck

section
variable {K : PySem.W.Frag} {A : Tab} {G H : Hp} {σ : St} {env : En} {Fs : Nat → Fp}
theorem oOf_ok {T : Fp} {v : V} {b : B} {o : O} (so : StOk K A G H σ env Fs) (h : BorOk K A G H σ env Fs T v b) (e : oOf env b = some o) : ∃ F, RepO K A G H o F v := by
  cases b with
  | slot i =>
    simp only [oOf] at e
    split at e
    · rename_i o' ho
      cases e
      exact ⟨_, so.slot ho h.2⟩
    · cases e
  | nest i p =>
    obtain ⟨_, o1, o', F1, F', F2, ho, hf, hF, r, _⟩ := h
    simp only [oOf, ho] at e
    rw [hf] at e
    cases e
    exact ⟨_, r⟩
  | tmp o' =>
    cases e
    exact ⟨_, h⟩
theorem follow_append : ∀ {o o' : O} {p : List Sel} {s : Sel}, o.follow p = some o' → o.follow (p ++ [s]) = o'.sub s
  | o, o', [], s, h => by
    cases h
    show (match o.sub s with | some o' => O.follow o' [] | none => none) = o.sub s
    cases o.sub s <;> rfl
  | o, o', q :: p, s, h => by
    simp only [O.follow, List.cons_append] at h ⊢
    split at h
    · exact follow_append h
    · cases h
theorem put_append : ∀ {o o1 : O} {p : List Sel} {s : Sel} {o2 : O}, o.follow p = some o1 → o.put (p ++ [s]) o2 = o.put p (o1.put [s] o2)
  | o, o1, [], s, o2, h => by cases h; simp [O.put]
  | .lst os, o1, .ix k :: p, s, o2, h => by
    simp only [O.follow, O.sub] at h
    split at h
    · rename_i o' e
      simp only [O.put, List.cons_append, e]
      rw [put_append h]
    · cases h
  | .ins c fs, o1, .at f :: p, s, o2, h => by
    simp only [O.follow, O.sub] at h
    split at h
    · rename_i o' e
      simp only [O.put, List.cons_append, e]
      rw [put_append h]
    · cases h
  | .val _, _, _ :: _, _, _, h => by simp [O.follow, O.sub] at h
  | .dct _, _, s :: _, _, _, h => by cases s <;> simp [O.follow, O.sub] at h
  | .lst _, _, .key _ :: _, _, _, h => by simp [O.follow, O.sub] at h
  | .lst _, _, .at _ :: _, _, _, h => by simp [O.follow, O.sub] at h
  | .ins _ _, _, .ix _ :: _, _, _, h => by simp [O.follow, O.sub] at h
  | .ins _ _, _, .key _ :: _, _, _, h => by simp [O.follow, O.sub] at h
/-- .. where the part's value is v' -/
theorem sub_nest {i : Nat} {p : List Sel} {s : Sel} {v v' : V} {o o' : O} (hn : NestOk K A G H σ env Fs i p v) (e : oOf env (.nest i p) = some o)
    (hsub : ∀ F, RepO K A G H o F v → ∃ F1 F' F2, F = F1 ++ F' ++ F2 ∧ RepO K A G H o' F' v' ∧ ∀ {G2 H2 : Hp} {Fn : Fp} {o2 : O}, Sub G G2 → (∀ b ∈ F1 ++ F2, H2 b = H b) → RepO K A G2 H2 o2 Fn v' → RepO K A G2 H2 (o.put [s] o2) (F1 ++ Fn ++ F2) v)
    (es : o.sub s = some o') : NestOk K A G H σ env Fs i (p ++ [s]) v' := by
  obtain ⟨o0, o1, F1, F', F2, ho, hf, hF, r, pu⟩ := hn
  simp only [oOf, ho] at e
  rw [hf] at e
  cases e
  obtain ⟨A1, A', A2, rfl, r', pu'⟩ := hsub _ r
  refine ⟨o0, o', F1 ++ A1, A', A2 ++ F2, ho, (follow_append hf).trans es, by rw [hF]; simp, r', fun {G2 H2 Fn o2} sg k r2 v0 hv0 => ?_⟩
  rw [put_append hf]
  have := pu (G2 := G2) (H2 := H2) (Fn := A1 ++ Fn ++ A2) (o2 := o.put [s] o2) sg (fun b hb => k b (by simp at hb ⊢; rcases hb with z | z <;> simp [z])) (pu' sg (fun b hb => k b (by simp at hb ⊢; rcases hb with z | z <;> simp [z])) r2) v0 hv0
  simpa using this
theorem Stp.dropT {G0 H0 : Hp} {Fs0 : Nat → Fp} {T T' : Fp} (a : Stp G0 H0 Fs0 G H Fs T) (h : List.Sublist T' T) : Stp G0 H0 Fs0 G H Fs T' := a.drop fun b hb => h.subset hb
end

section
variable {X : Cx} {A : Tab} {W : WX} {occ occ1 occ2 occ3 : Nat → Bool} {pos : Pos} {a b c e : Expr} {es : List Expr} {fa fb fc : En → Res (B × En)} {fs : En → Res (List B × En)}
theorem map_atI {α β : Type} {xs : List α} {k : Int} {f : α → β} : atI (xs.map f) k = (atI xs k).map f := by
  unfold atI
  rw [List.length_map]
  cases ixN xs.length k with
  | none => rfl
  | some j => simp
theorem RepDs.atI {K : PySem.W.Frag} {G : Hp} {ds : List D} {vs : List V} {k : Int} {d : D} (h : RepDs K A G ds vs) (e : L2.atI ds k = some d) : ∃ v, L2.atI vs k = some v ∧ RepD K A G d v := by
  unfold L2.atI at e ⊢
  rw [← h.length]
  cases hj : ixN ds.length k with
  | none => rw [hj] at e; cases e
  | some j =>
    rw [hj] at e
    exact h.get (show ds[j]? = some d from e)
/-- an item of a value by worth -/
theorem idxD_ok {G H : Hp} {d d' : D} {k : Int} {v : V} {Q : VK} (s : Sub G H) (h : RepD X.K A G d v) (e : idxD d k = some d') (q : ∀ w, RepD X.K A G d' w → Q w H) : rIx X.K v (.int k) H Q := by
  cases d <;> try cases e
  · simp only [idxD] at e
    split at e
    · rename_i hl
      obtain ⟨c, e1, e2⟩ := Option.map_eq_some_iff.mp e
      subst e2
      cases h
      exact .inr (.inr ⟨_, k, c, rfl, rfl, hl, e1, q _ rfl⟩)
    · cases e
  · obtain ⟨a, xs, rfl, q1, r⟩ := h
    obtain ⟨w, e1, r1⟩ := r.atI e
    exact .inr (.inl ⟨a, xs, k, w, rfl, rfl, SqT.sub s q1, e1, q w r1⟩)
  · obtain ⟨a, xs, rfl, q1, r⟩ := h
    obtain ⟨w, e1, r1⟩ := r.atI e
    exact .inl ⟨a, xs, k, w, rfl, rfl, SqL.of (s _ _ q1), e1, q w r1⟩
  · rename_i ns
    obtain ⟨a, rfl, q1⟩ := h
    obtain ⟨n, e1, e2⟩ := Option.map_eq_some_iff.mp e
    subst e2
    exact .inl ⟨a, _, k, .int n, rfl, rfl, SqL.sub s q1, by rw [map_atI, e1]; rfl, q _ rfl⟩
theorem RepO.same_sub {K : PySem.W.Frag} {G H : Hp} {os : List O} {F : Fp} {vs : List V} {j : Nat} {o : O} {a : Addr} (r : RepOs K A G H os F vs) (q : H a = some (.lst vs)) (e : os[j]? = some o) : ∃ v, vs[j]? = some v ∧ ∀ F0, RepO K A G H (.lst os) F0 (.ref a) →
    ∃ F1 F' F2, F0 = F1 ++ F' ++ F2 ∧ RepO K A G H o F' v ∧ ∀ {G2 H2 : Hp} {Fn : Fp} {o2 : O}, Sub G G2 → (∀ b ∈ F1 ++ F2, H2 b = H b) → RepO K A G2 H2 o2 Fn v → RepO K A G2 H2 ((O.lst os).put [.ix j] o2) (F1 ++ Fn ++ F2) (.ref a) := by
  obtain ⟨v, _, _, _, hv, _, _, _⟩ := r.at_ e
  refine ⟨v, hv, fun F0 h => ?_⟩
  obtain ⟨a', xs, F', e1, q', rfl, r'⟩ := h
  cases e1
  rw [q] at q'
  cases q'
  obtain ⟨v', F1, Fm, F2, hv', rfl, r2, pu⟩ := r'.at_ e
  rw [hv] at hv'; cases hv'
  refine ⟨a :: F1, Fm, F2, by simp, r2, fun {G2 H2 Fn o2} s k r3 => ?_⟩
  simp only [O.put, e]
  exact ⟨a, vs, _, rfl, by rw [k a (by simp)]; exact q, by simp, pu s (fun b hb => k b (by simp at hb ⊢; rcases hb with z | z <;> simp [z])) r3⟩
theorem sem_idx {ta tb : TE} (h1 : SemE X.K A W occ1 ta fa) (h2 : SemE X.K A W occ2 tb fb) : SemE X.K A W (fun i => occ1 i || (occ2 i || false)) (tOp (rIx X.K) ta tb) (evIdx (fun i => occ2 i || false) fa fb) := by
  intro G H σ env Fs Q so hq
  refine sem2 h1 h2 G H σ env Fs (r2of (rIx X.K) · · Q) so ?_
  unfold evIdx at hq
  rw [Res.wp_bind] at hq
  refine Res.wp_mono hq (fun rr hr vs G1 H1 Fs1 T s1 s2 s3 s4 s5 s6 => ?_) fun c e he => he
  split at hr
  · rename_i ba bb eb
    rw [eb] at s5 s6
    obtain ⟨T1, T2, x, xs, rfl, rfl, b1, T3, T4, y, ys, rfl, rfl, b2, rfl, rfl⟩ := s5
    rw [Res.wp_bind] at hr
    obtain ⟨bo, e1, hq2⟩ := Res.wp_ofO hr
    clear hr
    show rIx X.K x y H1 Q
    unfold idxB at e1
    split at e1
    · rename_i os k eo ek
      have hy := vw_ok s2 b2 ek
      cases hy
      split at e1
      · rename_i j hj
        obtain ⟨o', ej, e2⟩ := Option.map_eq_some_iff.mp e1
        obtain ⟨F, ro⟩ := oOf_ok s2 b1 eo
        obtain ⟨a, ws, F', rfl, q, rfl, r⟩ := id ro
        obtain ⟨v, hv, sub⟩ := RepO.same_sub r q ej
        refine .inl ⟨a, ws, k, v, rfl, rfl, SqL.of q, ?_, ?_⟩
        · unfold L2.atI
          rw [← r.len, hj]
          exact hv
        · have hval : ∀ d, o' = .val d → bo = .tmp (.val d) := fun d hd => by subst hd; exact e2.symm
          by_cases hd : ∃ d, o' = .val d
          · obtain ⟨d, rfl⟩ := hd
            have := hval d rfl
            subst this
            obtain ⟨F1, Fm, F2, _, r2, _⟩ := sub _ ro
            exact hq2 v G1 H1 Fs1 [] (s1.drop (by simp)) s2 s3 .nil ⟨rfl, r2.2⟩ trivial
          · have hb : bo = nestB ba (.ix j) o' := by
              cases o' with
              | val d => exact absurd ⟨d, rfl⟩ hd
              | lst _ => exact e2.symm
              | dct _ => exact e2.symm
              | ins _ _ => exact e2.symm
            cases ba with
            | slot i =>
              have hb : bo = .nest i [.ix j] := hb
              subst hb
              have eo' : rr.2[i]? = some (some (.lst os)) := by
                simp only [oOf] at eo
                split at eo
                · rename_i o'' ho; cases eo; exact ho
                · cases eo
              have n0 := nest_nil s2 eo' b1.2
              refine hq2 v G1 H1 Fs1 [] (s1.drop (by simp)) s2 s3 .nil ⟨rfl, ?_⟩ (s6 (.slot i) (by simp))
              exact sub_nest (p := []) n0 (by simp [oOf, eo', O.follow]) (fun F0 h0 => sub F0 h0) (by simpa [O.sub] using ej)
            | nest i p =>
              have hb : bo = .nest i (p ++ [.ix j]) := hb
              subst hb
              exact hq2 v G1 H1 Fs1 [] (s1.drop (by simp)) s2 s3 .nil ⟨rfl, sub_nest b1.2 eo (fun F0 h0 => sub F0 h0) (by simpa [O.sub] using ej)⟩ (s6 (.nest i p) (by simp))
            | tmp o1 =>
              have hb : bo = .tmp o' := hb
              subst hb
              cases eo
              obtain ⟨F1, Fm, F2, hF, r2, _⟩ := sub _ b1
              have sl : List.Sublist Fm (T1 ++ (T3 ++ [])) := by
                rw [hF, List.append_assoc, List.append_assoc]
                exact (List.sublist_append_left Fm _).trans (List.sublist_append_right F1 _)
              exact hq2 v G1 H1 Fs1 Fm (s1.dropT sl) s2 s3 (s4.sub sl) r2 trivial
      · cases e1
    · rename_i d k eo ek
      have hy := vw_ok s2 b2 ek
      cases hy
      obtain ⟨d', e2, e3⟩ := Option.map_eq_some_iff.mp e1
      subst e3
      obtain ⟨F, ro⟩ := oOf_ok s2 b1 eo
      exact idxD_ok s2.sub ro.2 e2 fun w hw => hq2 w G1 H1 Fs1 [] (s1.drop (by simp)) s2 s3 .nil ⟨rfl, hw⟩ trivial
    · cases e1
  · exact hr.elim
theorem ex_idx (h1 : ExE X A W occ1 a fa) (h2 : ExE X A W occ2 b fb) (hs : notSlice b = true) : ExE X A W (fun i => occ1 i || (occ2 i || false)) (.Subscript a b pos) (evIdx (fun i => occ2 i || false) fa fb) := by
  obtain ⟨_, p1, s1⟩ := h1
  obtain ⟨_, p2, s2⟩ := h2
  exact ⟨_, pe_ix (ix_seq (X := X)) p1 p2 (plainIx hs), sem_idx s1 s2⟩

/-! ### a[lo:hi] -/
def cutD {α : Type} (xs : List α) (lo hi : Option Int) : List α := (xs.drop (HT.sIx xs.length 0 lo)).take (HT.sIx xs.length xs.length hi - HT.sIx xs.length 0 lo)
def slD (d : D) (lo hi : Option Int) : Option O := match d with
  | .tup ds => some (.val (.tup (cutD ds lo hi)))
  | .lst ds => some (.lst ((cutD ds lo hi).map .val))
  | .scr ns => some (.lst ((cutD ns lo hi).map fun n => .val (.int n)))
  | .str s => if s.length ≤ sizeLine then some (.val (.str (cutS s lo hi))) else none
  | _ => none
/-- a part of a slice: left out or a whole number -/
def partO : Option D → Option (Option Int)
  | none => some none
  | some (.int i) => some (some i)
  | _ => none
/-- a slice's part that is read -/
def SemO (K : PySem.W.Frag) (A : Tab) (W : WX) (occ : Nat → Bool) (t : TO) (f : En → Res (Option Int × En)) : Prop :=
  ∀ (G H : Hp) (σ : St) (env : En) (Fs : Nat → Fp) (Q : Option Int → Hp → Prop), StOk K A G H σ env Fs →
    (f env).wp (fun r => ∀ G' H' Fs', Stp G H Fs G' H' Fs' [] → StOk K A G' H' σ r.2 Fs' → Same' occ H env Fs H' r.2 Fs' → Q r.1 H')
      (fun c env' => ∀ G' H' Fs' C d, Stp G H Fs G' H' Fs' [] → StOk K A G' H' σ env' Fs' → Same' occ H env Fs H' env' Fs' → A.cls c = some C → W (.ref C) d σ H') → t σ H Q
def ExO (X : Cx) (A : Tab) (W : WX) (occ : Nat → Bool) (e : Option Expr) (f : En → Res (Option Int × En)) : Prop := ∃ t, PO X e t ∧ SemO X.K A W occ t f
def evNoPart : En → Res (Option Int × En) := fun env => .ok (none, env)
def evPart (f : En → Res (B × En)) : En → Res (Option Int × En) := fun env => (f env).bind fun r => match vw r.2 r.1 with
  | some (.int i) => .ok (some i, r.2)
  | _ => .stuck
theorem eo_none : ExO X A W occ none evNoPart := ⟨_, po_none, fun G H σ env Fs Q so hq => hq G H Fs .refl so .refl⟩
theorem eo_some (h : ExE X A W occ e fa) : ExO X A W occ (some e) (evPart fa) := by
  obtain ⟨t, p, s⟩ := h
  refine ⟨_, po_some p, fun G H σ env Fs Q so hq => ?_⟩
  unfold evPart at hq
  rw [Res.wp_bind] at hq
  refine s G H σ env Fs _ so (Res.wp_mono hq (fun r hr v G1 H1 Fs1 T s1 s2 s3 s4 s5 _ => ?_) fun c e he => he)
  split at hr
  · rename_i i e
    exact ⟨i, vw_ok s2 s5 e, hr G1 H1 Fs1 (s1.drop (by simp)) s2 s3⟩
  · exact hr.elim
/-- the parts of a slice speak of no name that the sliced thing leans on, unless it is a name -/
def evSl (occp : Nat → Bool) (fa : En → Res (B × En)) (fl fh : En → Res (Option Int × En)) : En → Res (B × En) := fun env => (fa env).bind fun r => (fl r.2).bind fun l => (fh l.2).bind fun h =>
  if stable occp r.1 = true then (Res.ofO (ln h.2 r.1)).bind fun q => (Res.ofO (slD q.1 l.1 h.1)).bind fun o => .ok (.tmp o, q.2) else .stuck
def rSlAny (X : Cx) : V → Option Int → Option Int → Hp → VK → Prop := fun x lo hi H Q => rSlA X.K x lo hi H Q ∨ (rSlL X.K x lo hi H Q ∨ rSlS x lo hi H Q)
theorem sl_any : SlR X (rSlAny X) := SlR.or sl_tupA (SlR.or sl_list sl_str)
theorem RepDs.cut {K : PySem.W.Frag} {G : Hp} {ds : List D} {vs : List V} (h : RepDs K A G ds vs) (lo hi : Option Int) : RepDs K A G (cutD ds lo hi) (cutV vs lo hi) := by
  unfold cutD cutV
  rw [← h.length]
  exact (h.drop _).take _
theorem cut_map {lo hi : Option Int} (ns : List Int) : cutV (ns.map V.int) lo hi = (cutD ns lo hi).map V.int := by
  unfold cutD cutV
  rw [List.length_map, List.map_take, List.map_drop]
theorem cut_whole {α : Type} {xs : List α} {lo hi : Option Int} (h : HT.sIx xs.length 0 lo = 0 ∧ HT.sIx xs.length xs.length hi = xs.length) : cutD xs lo hi = xs := by
  unfold cutD
  rw [h.1, h.2]
  simp
theorem slD_ok {G H : Hp} {d : D} {v : V} {lo hi : Option Int} {o : O} {Q : VK} (s : Sub G H) (h : RepL X.K A G H d v) (e : slD d lo hi = some o) (q : ∀ w T G2 H2, Grow X.K A G H o T w G2 H2 → Q w H2) : rSlAny X v lo hi H Q := by
  cases d <;> try cases e
  · simp only [slD] at e
    split at e
    · rename_i hl
      cases e
      cases h.str
      exact .inr (.inr ⟨_, rfl, hl, q _ _ _ _ (Grow.sc s rfl)⟩)
    · cases e
  · obtain ⟨a, xs, rfl, q1, r⟩ := h.tup
    refine .inl ⟨a, xs, rfl, SqT.sub s q1, fun hw => ?_, fun _ p hp => q _ _ _ _ (Grow.tup s (r.cut lo hi) hp)⟩
    rw [cut_whole (by rw [r.length]; exact hw)] at q
    exact q _ _ _ _ (Grow.old s ⟨a, xs, rfl, q1, r⟩)
  · obtain ⟨a, xs, rfl, q1, r⟩ := h.lst s
    exact .inr (.inl ⟨a, xs, rfl, SqL.of q1, fun p hp => q _ _ _ _ (Grow.lst s (r.cut lo hi) hp)⟩)
  · rename_i ns
    rcases h with ⟨a, rfl, q1⟩ | ⟨_, _, _, e, _⟩
    · refine .inr (.inl ⟨a, _, rfl, SqL.sub s q1, fun p hp => ?_⟩)
      have gr := Grow.lst (H := H) s (RepDs.ints (K := X.K) (A := A) (G := G) (cutD ns lo hi)) hp
      rw [List.map_map] at gr
      rw [cut_map]
      exact q _ _ _ _ gr
    · cases e
theorem sem_sl {ta : TE} {tl th : TO} {fl fh : En → Res (Option Int × En)} (h1 : SemE X.K A W occ1 ta fa) (h2 : SemO X.K A W occ2 tl fl) (h3 : SemO X.K A W occ3 th fh) : SemE X.K A W (fun i => occ1 i || (occ2 i || occ3 i)) (tSl (rSlAny X) ta tl th) (evSl (fun i => occ2 i || occ3 i) fa fl fh) := by
  intro G H σ env Fs Q so hq
  unfold evSl at hq
  rw [Res.wp_bind] at hq
  refine h1 G H σ env Fs _ so (Res.wp_mono hq (fun r hr v G1 H1 Fs1 T s1 s2 s3 s4 s5 s6 => ?_) fun c e he G' H' Fs' C d a1 a2 a3 => he G' H' Fs' C d a1 a2 (a3.mono fun i hi => by simp at hi; exact hi.1))
  have s1' : Stp G H Fs G1 H1 Fs1 [] := s1.drop (by simp)
  rw [Res.wp_bind] at hr
  refine h2 G1 H1 σ r.2 Fs1 _ s2 (Res.wp_mono hr (fun l hl G2 H2 Fs2 a1 a2 a3 => ?_) fun c e he G' H' Fs' C d a1 a2 a3 => he G' H' Fs' C d (s1'.trans0 a1) a2 ((s3.trans a3).mono fun i hi => by simp at hi ⊢; exact ⟨hi.1, hi.2.1⟩))
  rw [Res.wp_bind] at hl
  refine h3 G2 H2 σ l.2 Fs2 _ a2 (Res.wp_mono hl (fun h hh G3 H3 Fs3 b1 b2 b3 => ?_) fun c e he G' H' Fs' C d b1 b2 b3 => he G' H' Fs' C d ((s1'.trans0 a1).trans0 b1) b2 (((s3.trans a3).trans b3).mono fun i hi => by simp at hi ⊢; exact ⟨⟨hi.1, hi.2.1⟩, hi.2.2⟩))
  by_cases hst : stable (fun i => occ2 i || occ3 i) r.1 = true
  · rw [if_pos hst] at hh
    rw [Res.wp_bind] at hh
    obtain ⟨q, e1, hh⟩ := Res.wp_ofO hh
    rw [Res.wp_bind] at hh
    obtain ⟨o, e2, hh⟩ := Res.wp_ofO hh
    have st12 : Stp G1 H1 Fs1 G3 H3 Fs3 [] := a1.trans0 b1
    have sm12 : Same' (fun i => occ2 i || occ3 i) H1 r.2 Fs1 H3 h.2 Fs3 := a3.trans b3
    obtain ⟨tk3, same⟩ := s4.step st12 .nil
    have bo := s5.step st12 b2 sm12 hst same s2
    rw [List.append_nil] at tk3
    have stA : Stp G H Fs G3 H3 Fs3 T := by
      have := s1.trans s4 st12
      simpa using this
    have e1' : lns h.2 [r.1] = some ([q.1], q.2) := by simp [lns, e1]
    obtain ⟨G4, Fs4, c1, c2, c3, c4, c5⟩ := lns_ok stA b2 tk3 (show BorsOk X.K A G3 H3 σ h.2 Fs3 T [v] [r.1] from ⟨T, [], v, [], by simp, rfl, bo, rfl, rfl⟩) e1'
    obtain ⟨w, ew, rl⟩ := c3.one
    cases ew
    refine slD_ok c2.sub rl e2 fun w T2 G5 H5 gr => ?_
    obtain ⟨so5, tk5, same5⟩ := GrowT.so c2 .nil gr
    refine hh w G5 H5 Fs4 T2 (GrowT.stp c1 gr) so5 (fun i hi => ?_) tk5 gr.r trivial
    simp only [Bool.or_eq_false_iff] at hi
    obtain ⟨f1, k1, e1⟩ := (s3.trans sm12) i (by simp [hi])
    obtain ⟨f2, e2⟩ := c5 i (bin_tou (occ := occ1) (by simpa using s6) hi.1)
    refine ⟨f2.trans f1, fun c hc => ?_, e2.trans e1⟩
    rw [same5 i c (by rw [f2, f1]; exact hc)]
    exact k1 c hc
  · rw [if_neg hst] at hh
    exact hh.elim
theorem ex_sl {lo hi : Option Expr} {p2 : Pos} {fl fh : En → Res (Option Int × En)} (h1 : ExE X A W occ1 a fa) (h2 : ExO X A W occ2 lo fl) (h3 : ExO X A W occ3 hi fh) : ExE X A W (fun i => occ1 i || (occ2 i || occ3 i)) (.Subscript a (.Slice lo hi none p2) pos) (evSl (fun i => occ2 i || occ3 i) fa fl fh) := by
  obtain ⟨_, p1, s1⟩ := h1
  obtain ⟨_, p2, s2⟩ := h2
  obtain ⟨_, p3, s3⟩ := h3
  exact ⟨_, pe_slice sl_any p1 p2 p3, sem_sl s1 s2 s3⟩

/-! ### displays, built-ins, -a -/
theorem ex_tup {k : Nat} (h : ExA X A W occ es fs) : ExE X A W occ (.Tuple es k pos) (opT mkTup fs) := by
  obtain ⟨_, p, s⟩ := h
  exact ⟨_, pe_tup p, sem_tup s⟩
theorem ex_lst (h : ExA X A W occ es fs) : ExE X A W occ (.List es pos) (opT mkLst fs) := by
  obtain ⟨_, p, s⟩ := h
  exact ⟨_, pe_lst p, sem_lst s⟩
def negD : List D → Option D
  | [.int i] => some (.int (-i))
  | _ => none
theorem ex_neg (h : ExE X A W occ a fa) : ExE X A W (fun i => occ i || false) (.UnaryOp .USub a pos) (opV negD (evsCons (fun _ => false) fa evsNil)) := by
  obtain ⟨t, p, s⟩ := h
  refine ⟨_, pe_un un_neg p, ?_⟩
  have := semV (r := fun vs H Q => match vs with | [x] => rU (fun i => .int (-i)) x H Q | _ => False) (g := negD) (semA_cons s (semA_nil (occ := fun _ => false))) fun H vs ds d Q rv hg kk => by
    match ds, hg with
    | [.int i], hg =>
      cases hg
      obtain ⟨x, xs, rfl, h1, h2⟩ := rv
      cases h1
      cases h2
      exact ⟨i, rfl, kk _ rfl⟩
  exact this
theorem ex_callB {x : Str} {id : String} {g : List D → Option O} {p : Pos} (hc : CallOk X A (.builtin id) g) (hg : Gl X x) (hm : X.mg x = none) (hv : bootBuiltins x = some (.builtin id)) (h : ExA X A W occ (e :: es) fs) (hs : (e :: es).all notStar = true) (hn : x ≠ "__name__") (hd : (x == ("__debug__" : Str)) = false) :
    ExE X A W occ (.Call (.Name x p) (e :: es) [] pos) (opL g fs) := by
  obtain ⟨_, pa, s⟩ := h
  obtain ⟨r, cr, k⟩ := hc
  simp only [List.all_cons, Bool.and_eq_true] at hs
  exact ⟨_, pe_callB cr hg hm hv pa hn hd (star_cons hs.1) (star_any hs.2), semL s k⟩
theorem ex_callTy {x : Str} {T : String} {g : List D → Option O} {p : Pos} (hc : CallOk X A (.type T) g) (hg : Gl X x) (hm : X.mg x = none) (hv : bootBuiltins x = some (.type T)) (h : ExA X A W occ (e :: es) fs) (hs : (e :: es).all notStar = true) (hn : x ≠ "__name__") (hd : (x == ("__debug__" : Str)) = false) :
    ExE X A W occ (.Call (.Name x p) (e :: es) [] pos) (opL g fs) := by
  obtain ⟨_, pa, s⟩ := h
  obtain ⟨r, cr, k⟩ := hc
  simp only [List.all_cons, Bool.and_eq_true] at hs
  exact ⟨_, pe_callTy cr hg hm hv pa hn hd (star_cons hs.1) (star_any hs.2), semL s k⟩
end
end Fz
end

section -- Fz10
namespace Fz
open PySem L2 PyProof.Rows
open Sem (wp)

/-! ### enumerate(a tuple) -/
theorem meets_enumT {v : Value} {o : Obj} {H : Heap → Prop} (B : Begins v o H) :
    Meets (Builtin.«enumerate.__new__» ⟨[.type "enumerate", v], []⟩) (fun _ R s => H s.heap ∧
      R (.ok (.ret (.ref (s.heap.push o).objs.size))) { s with heap := (s.heap.push o).push { cls := .type "enumerate", data := .fields #[.none, .bool false, .ref s.heap.objs.size, rawInt 0, .none, .none] } }) :=
  .of_wp fun prog w A R s h => by
    obtain ⟨hp, g, d, tk, os⟩ := s
    obtain ⟨hv, h⟩ := h
    have q0 := sub_enumerate
    have q1 : ∀ {A' : Around} {E : Value → Shared → Prop} {Q : Value → Shared → Prop}, Q (.ref hp.objs.size) ⟨hp.push o, g, d, tk, os⟩ → wpAny (model prog w) A' (pyIter v) Q E ⟨hp, g, d, tk, os⟩ := fun q => B.iter prog w _ _ _ _ hv q
    wp_walk using q1
    refine wpAny_stack_any fun st => wpAny_pure ?_
    split
    · rename_i c _ _ _ _ _
      cases (c == Value.type "enumerate") <;> (wp_walk using q1; exact ⟨_, rfl, h⟩)
    · wp_walk using q1; exact ⟨_, rfl, h⟩
theorem call_enumT {prog : Program} {w : World} {A : Around} {E : Value → Shared → Prop} {s : Shared} {v : Value} {o : Obj} {H : Heap → Prop} {Q : Value → Shared → Prop} (B : Begins v o H) (hv : H s.heap)
    (h : ∀ h', IsEnum h' (s.heap.objs.size + 1) s.heap.objs.size 0 .none → h'.get? s.heap.objs.size = some o → (∀ b o, s.heap.get? b = some o → h'.get? b = some o) → Q (.ref (s.heap.objs.size + 1)) { s with heap := h' }) :
    wpAny (model prog w) A (call (.type "enumerate") [v]) Q E s := by
  have z : (s.heap.push o).objs.size = s.heap.objs.size + 1 := Heap.size_push ..
  have he : IsEnum ((s.heap.push o).push { cls := .type "enumerate", data := .fields #[.none, .bool false, .ref s.heap.objs.size, rawInt 0, .none, .none] }) (s.heap.objs.size + 1) s.heap.objs.size 0 .none := by
    have q := Heap.get?_push_size (s.heap.push o) (o := { cls := .type "enumerate", data := .fields #[.none, .bool false, .ref s.heap.objs.size, rawInt 0, .none, .none] }) rfl
    rw [z] at q
    exact q
  refine callType_new F.called_enumerate (by decide) (F.typeCall_enumerate_1 _) (F.newCall_enumerate_1 _) (fun x => F.args_object_init_2 x _) F.entry_enumerate_new (meets_enumT B) ⟨hv, ?_⟩
  rw [z]
  exact ⟨⟨_, he, rfl⟩, h _ he (Heap.get?_push_of_some _ (Heap.get?_push_size _ B.free)) fun b u x => Heap.get?_push_of_some _ (Heap.get?_push_of_some _ x)⟩
def IteT (K : PySem.W.Frag) (a : Addr) : It :=
  ⟨fun i H => ∃ (xs : List V) (x : V), SqT K H a xs ∧ xs[i]? = some x, fun i H v H' => ∃ T x, v = .ref T ∧ H T = none ∧ H' = upd H T (.tup [.int (i : Nat), x]) ∧ ∀ xs, SqT K H a xs → xs[i]? = some x, fun i H => ∃ xs : List V, SqT K H a xs ∧ xs.length ≤ i⟩
theorem turn_enumT {P : Program} {w : World} {K : PySem.W.Frag} {elts : List Expr} {kk : Nat} {tpos : Pos} (a e it : Addr) :
    Turn P w K (.Tuple elts kk tpos) (IteT K a) [e, it] e (fun i h => (∃ old, IsEnum h e it ((i : Nat) : Int) old) ∧ h.IsTupleIter it a i ∧ e ≠ it ∧ a ≠ e ∧ a ≠ it) where
  mem := by simp
  obj := fun i h st b hb => by
    obtain ⟨⟨old, he⟩, ⟨o, ho, hc, hd⟩, rest⟩ := st
    rcases (show b = e ∨ b = it by simpa using hb) with z | z
    · subst z
      exact ⟨_, he, fun v q => nomatch q⟩
    · subst z
      exact ⟨o, ho, fun v q => by rw [hd] at q; cases q⟩
  keep := fun i h h' st k => by
    obtain ⟨⟨old, he⟩, hi, r⟩ := st
    exact ⟨⟨old, k e (by simp) _ he⟩, hi.at fun o q => k it (by simp) o q, r⟩
  item := by
    intro X hP hw hK hc i pins s σ H E I hf st hg
    subst hP hw hK
    obtain ⟨⟨old, he⟩, hit, hne, hae, hai⟩ := st
    obtain ⟨xs, x, hq, hx⟩ := hg
    obtain ⟨its, rv, p, hz⟩ := I.tuple hq
    obtain ⟨u, hu, ru⟩ := rv.get hx
    have hel : e < s.heap.objs.size := Heap.lt_size he
    have hil : it < s.heap.objs.size := by
      obtain ⟨_, q, _⟩ := hit
      exact Heap.lt_size q
    have hlt : i < its.toArray.size := by
      have := (List.getElem?_eq_some_iff.mp hu).1
      simpa using this
    have D := Draws.tuple (prog := X.prog) (w := X.w) (A := X.A.in1) (I.ok.hd hc) it a hai its.toArray
    refine wpAny_pyNext_enum_itemD D he ⟨hit, p⟩ hlt hne (fun z => ?_) fun y h' tk hy ho hst hT hsz hk => ?_
    · rcases (show e = it ∨ e = a by simpa using z) with z | z
      · exact hne z
      · exact hae z.symm
    have ey : y = u := by
      have : its.toArray[i]? = some y := hy
      rw [List.getElem?_toArray, hu] at this
      cases this
      rfl
    subst ey
    refine ⟨_, rfl, wpAny_letOwnedTupleGo_enum (s := { s with heap := h', toks := tk + 1 }) ho fun h2 he2 sb => ?_⟩
    have hT2 : h2.get? s.heap.objs.size = some { cls := .type "tuple", data := .seq #[.int i tk, y] } := (sb.2 _ (Nat.ne_of_gt hel)).trans hT
    have new : ObjOk X.prog X.w (upd H s.heap.objs.size (.tup [.int (i : Nat), x])) h2 s.heap.objs.size (.tup [.int (i : Nat), x]) :=
      ⟨by show 2 ≤ sizeLine; decide, [.int i tk, y], .cons ⟨_, rfl⟩ (.cons ru .nil), ⟨_, hT2, rfl, _, rfl⟩⟩
    have I1 : Inv X pins σ (upd H s.heap.objs.size (.tup [.int (i : Nat), x])) { s with heap := h2, toks := tk + 1 } :=
      I.turnedNew (ch := [e, it]) (fun b ob hb q => (sb.2 b (fun z => hb (by simp [z]))).trans (hk b ob (fun z => hb (by simp [z])) (fun z => hb (by simp [z])) q)) hf (Nat.le_refl _) new
    have hb' : ∀ b ∈ [e, it], b < s.heap.objs.size := fun b hb => by
      rcases (show b = e ∨ b = it by simpa using hb) with z | z <;> rw [z] <;> assumption
    refine ⟨.ref s.heap.objs.size, _, I1, rfl, ⟨_, x, rfl, I.hok.fresh (Nat.le_refl _), rfl, fun ys hy => by rw [I.tuple_inj hy hq]; exact hx⟩, ⟨⟨y, ?_⟩, hst.1.at fun o q => (sb.2 it (Ne.symm hne)).trans q, hne, hae, hai⟩, fun b hb => ?_⟩
    · rw [show ((i + 1 : Nat) : Int) = (i : Int) + 1 by omega]
      exact he2
    · rw [upd_ne (Nat.ne_of_lt (hb' b hb))]
      exact (hf b hb).1
  done := by
    intro X hP hw hK hc i pins s σ H E I hf st hg
    subst hP hw hK
    obtain ⟨⟨old, he⟩, hit, hne, hae, hai⟩ := st
    obtain ⟨xs, hq, hx⟩ := hg
    obtain ⟨its, rv, p, hz⟩ := I.tuple hq
    obtain ⟨f0, f1, f2, f3, f4, f5⟩ := hf it (by simp)
    have hT : s.TypeIs (.ref e) "enumerate" := ⟨_, he, rfl⟩
    have hn : its.toArray[i]? = none := by
      have := rv.length
      simp
      omega
    unfold pyNext
    refine wpAny_bind (wpAny_attempt (wpAny_callSpecial?_slot (name := Str.ofString "__next__") hT F.slot_enumerate_next (wpAny_call_entry F.slot_enumerate_next hT F.entry_enumerate_next ?_ (F.args_enumerate_next_1 _))))
    show wpAny _ X.A.in1 (field (.ref e) 2 >>= _) _ _ _
    refine wpAny_bind (wpAny_field he rfl (x := .ref it) rfl ?_)
    refine wpAny_bind (wpAny_nextOf_tuple_end (I.ok.hd hc) hit p hn fun h' x eb hx' => ?_)
    obtain ⟨o, ho, hc'⟩ := hx'
    exact wpAny_bind (wpAny_isInstance (T := "StopIteration") (b := true) ⟨o, ho, hc'⟩ isSubtype_stop (wpAny_pure ⟨rfl, I.turned (t' := s.toks) (fun b o hb q => eb b o hb q) f0 f1 f3 f4 f5⟩))
  self := fun A i s Q E st h => let ⟨⟨_, he⟩, _⟩ := st; wpAny_pyIter_enum he h
def iEnumX (K : PySem.W.Frag) (ta : TA) : TI := fun σ H R => ta σ H fun vs H1 => ∃ a xs, vs = [.ref a] ∧ ((SqL K H1 a xs ∧ R (Ite K a) H1) ∨ (SqT K H1 a xs ∧ R (IteT K a) H1))
theorem SqT.lt {X : Cx} {pins : List (Addr × Obj)} {σ : L2.St} {H : Hp} {s : Shared} {a : Addr} {xs : List V} (I : L2.Inv X pins σ H s) (h : SqT X.K H a xs) : a < s.heap.objs.size := by
  obtain ⟨_, _, p, _⟩ := I.tuple h
  exact p.lt
theorem pi_enumX {X : Cx} {e : Expr} {ta : TA} {p pos tpos : Pos} {elts : List Expr} {kk : Nat} (hg : Gl X "enumerate") (hm : X.mg "enumerate" = none) (ha : PA X [e] ta) (hs : notStar e = true) :
    PI X (.Tuple elts kk tpos) (.Call (.Name "enumerate" p) [e] [] pos) (iEnumX X.K ta) := by
  refine ⟨fun pins s σ H R I h => ?_⟩
  refine Call_ (ld_blt I hg hm boot_enumerate (PyProof.Rows.callWith_type1 (thn (ha.run pos pins s σ H _ I h) fun us s1 ⟨vs, H1, I1, r1, q1⟩ => ?_) (star_cons hs) rfl))
  obtain ⟨a, xs, rfl, hq⟩ := q1
  cases r1 with
  | cons r rr =>
    cases rr
    cases r
    have fin : ∀ b ∈ [s1.heap.objs.size + 1, s1.heap.objs.size], FpOk X pins H1 b := fun b hb => by
      have hle : s1.heap.objs.size ≤ b := by
        rcases (show b = s1.heap.objs.size + 1 ∨ b = s1.heap.objs.size by simpa using hb) with z | z <;> omega
      exact I1.fpOk hle (I1.hok.fresh hle)
    rcases hq with ⟨hq, q⟩ | ⟨hq, q⟩
    · obtain ⟨its, rv, p', hz⟩ := I1.list hq
      refine call_enumerate_list p'.isList fun h' he hit hsz hk => wpAny_pyIter_enum he ?_
      exact ⟨s1.heap.objs.size + 1, _, _, _, H1, rfl, I1.kept (t' := s1.toks) hk, turn_enum a (s1.heap.objs.size + 1) s1.heap.objs.size, ⟨⟨.none, he⟩, hit, Nat.succ_ne_self _⟩, fin, q⟩
    · obtain ⟨its, rv, p', hz⟩ := I1.tuple hq
      have hal := SqT.lt I1 hq
      refine call_enumT (begins_tuple a its.toArray) p' fun h' he hit hk => wpAny_pyIter_enum he ?_
      exact ⟨s1.heap.objs.size + 1, _, _, _, H1, rfl, I1.kept (t' := s1.toks) hk, turn_enumT a (s1.heap.objs.size + 1) s1.heap.objs.size, ⟨⟨.none, he⟩, ⟨_, hit, rfl, rfl⟩, Nat.succ_ne_self _, Nat.ne_of_lt (Nat.lt_succ_of_lt hal), Nat.ne_of_lt hal⟩, fin, q⟩
theorem walk_enumT {K : PySem.W.Frag} {a : Addr} {xs : List V} : Walk (IteT K a) xs.length (fun H => SqT K H a xs) (YPair (fun i => some (.int (i : Nat))) (fun i => xs[i]?)) := by
  refine ⟨fun i H hi h => ⟨xs, xs[i], h, by simp [hi]⟩, fun H h => ⟨xs, h, Nat.le_refl _⟩, fun i H x H' hi h y => ?_⟩
  obtain ⟨T, z, e, n, e2, k⟩ := y
  exact ⟨T, _, z, e, n, e2, rfl, k xs h⟩

/-! ### a list, a tuple or a text -/
def iAny (K : PySem.W.Frag) (tl : TE) : TI := fun σ H R => tl σ H fun x H1 => (∃ a xs, x = .ref a ∧ SqL K H1 a xs ∧ R (Itl K a) H1) ∨ (∃ a xs, x = .ref a ∧ SqT K H1 a xs ∧ R (Itt K a) H1) ∨ ∃ z, x = .str z ∧ R (Its z) H1
theorem pi_any {X : Cx} {tg l : Expr} {tl : TE} (hl : PE X l tl) : PI X tg l (iAny X.K tl) := by
  refine ⟨fun pins s σ H R I h => thn (hl.run pins s σ H _ I h) fun v s1 ⟨x, H1, I1, r1, q1⟩ => ?_⟩
  have fin : ∀ b ∈ [s1.heap.objs.size], FpOk X pins H1 b := fun b hb => by
    cases (show b = s1.heap.objs.size by simpa using hb)
    exact I1.fpOk (Nat.le_refl _) (I1.hok.fresh (Nat.le_refl _))
  rcases q1 with ⟨a, xs, rfl, hq, q⟩ | ⟨a, xs, rfl, hq, q⟩ | ⟨z, rfl, q⟩
  · cases r1
    obtain ⟨its, rv, p, hz⟩ := I1.list hq
    exact wpAny_pyIter_list p.isList ⟨_, _, _, _, H1, rfl, I1.kept (t' := s1.toks) fun b o e => Heap.get?_push_of_some _ e, turn_list a _, ⟨_, Heap.get?_push_size _ rfl, rfl, rfl⟩, fin, q⟩
  · cases r1
    obtain ⟨its, rv, p, hz⟩ := I1.tuple hq
    exact wpAny_pyIter_tuple p ⟨_, _, _, _, H1, rfl, I1.kept (t' := s1.toks) fun b o e => Heap.get?_push_of_some _ e, turn_tuple a _, ⟨_, Heap.get?_push_size _ rfl, rfl, rfl⟩, fin, q⟩
  · obtain ⟨t, rfl⟩ := r1
    refine wpAny_pyIter_strU ⟨_, _, _, _, H1, rfl, I1.kept (t' := s1.toks) fun b o e => Heap.get?_push_of_some _ e, turn_str (s1.heap.objs.size) z t (strIterType z) ?_, ⟨_, Heap.get?_push_size _ rfl, rfl, rfl⟩, fin, q⟩
    unfold strIterType
    split
    · exact .inl rfl
    · exact .inr rfl
end Fz
end

section -- Fz11
namespace Fz
open PySem L2 RZ

/-! ### storing in a slot -/
section
variable {K : PySem.W.Frag} {A : Tab} {G H : Hp} {σ : St} {env : En} {Fs : Nat → Fp}
theorem StOk.assign {T : Fp} {o : O} {v : V} {i : Nat} (so : StOk K A G H σ env Fs) (tk : TOk G H Fs T) (r : RepO K A G H o T v) (hi : i < env.length) : StOk K A G H (σ.set i (some v)) (env.set i (some o)) (upf Fs i T) := by
  have hσ : i < σ.length := by rw [so.len]; exact hi
  refine ⟨so.sub, by rw [List.length_set, List.length_set]; exact so.len, fun j o' e => ?_, fun j => ?_, fun j l b hj hl => ?_, fun j b hb => ?_⟩
  · by_cases hj : j = i
    · subst hj
      rw [List.getElem?_set_self hi] at e
      cases e
      exact ⟨v, List.getElem?_set_self hσ, by rw [upf_same]; exact r⟩
    · rw [List.getElem?_set_ne (Ne.symm hj)] at e
      obtain ⟨w, h1, h2⟩ := so.at_ j o' e
      exact ⟨w, by rw [List.getElem?_set_ne (Ne.symm hj)]; exact h1, by rw [upf_ne hj]; exact h2⟩
  · by_cases hj : j = i
    · subst hj; rw [upf_same]; exact tk.nd
    · rw [upf_ne hj]; exact so.nd j
  · by_cases h1 : j = i
    · by_cases h2 : l = i
      · rw [h1, h2]
      · rw [h1, upf_same] at hj
        rw [upf_ne h2] at hl
        exact absurd hl (tk.dj l b hj)
    · rw [upf_ne h1] at hj
      by_cases h2 : l = i
      · rw [h2, upf_same] at hl
        exact absurd hj (tk.dj j b hl)
      · rw [upf_ne h2] at hl
        exact so.dj j l b hj hl
  · by_cases hj : j = i
    · subst hj; rw [upf_same] at hb; exact tk.own b hb
    · rw [upf_ne hj] at hb; exact so.own j b hb
/-- a slot whose worth is forgotten -/
theorem StOk.forget {i : Nat} (so : StOk K A G H σ env Fs) : StOk K A G H σ (env.set i none) (upf Fs i []) := by
  refine ⟨so.sub, by rw [List.length_set]; exact so.len, fun j o' e => ?_, fun j => ?_, fun j l b hj hl => ?_, fun j b hb => ?_⟩
  · by_cases hj : j = i
    · subst hj
      by_cases hl : j < env.length
      · rw [List.getElem?_set_self hl] at e; cases e
      · rw [List.getElem?_eq_none (by simpa using hl)] at e; cases e
    · rw [List.getElem?_set_ne (Ne.symm hj)] at e
      obtain ⟨w, h1, h2⟩ := so.at_ j o' e
      exact ⟨w, h1, by rw [upf_ne hj]; exact h2⟩
  · by_cases hj : j = i
    · subst hj; rw [upf_same]; exact List.nodup_nil
    · rw [upf_ne hj]; exact so.nd j
  · by_cases h1 : j = i
    · subst h1; rw [upf_same] at hj; cases hj
    · rw [upf_ne h1] at hj
      by_cases h2 : l = i
      · subst h2; rw [upf_same] at hl; cases hl
      · rw [upf_ne h2] at hl
        exact so.dj j l b hj hl
  · by_cases hj : j = i
    · subst hj; rw [upf_same] at hb; cases hb
    · rw [upf_ne hj] at hb; exact so.own j b hb

/-! ### targets: a name, several names -/
/-- slots i.. of names, filled by worth -/
def setD (i : Nat) (d : D) (env : En) : Option En := if i < env.length then some (env.set i (some (.val d))) else none
def setDs : List Nat → List D → En → Option En
  | [], [], env => some env
  | i :: is, d :: ds, env => (setD i d env).bind fun e => setDs is ds e
  | _, _, _ => none
inductive Tgt where
  | nm (i : Nat)
  | tup (is : List Nat)
def Tgt.slots : Tgt → List Nat
  | .nm i => [i]
  | .tup is => is
def setTgt : Tgt → D → En → Option En
  | .nm i, d, env => setD i d env
  | .tup is, .tup ds, env => setDs is ds env
  | .tup _, _, _ => none
/-- what a target asks -/
def SemG (K : PySem.W.Frag) (A : Tab) (as : List Nat) (t : TG) (f : D → En → Option En) : Prop :=
  ∀ (G H : Hp) (σ : St) (env env' : En) (Fs : Nat → Fp) (x : V) (d : D) (Q : St → Hp → Prop), StOk K A G H σ env Fs → RepD K A G d x → f d env = some env' →
    (∀ σ', StOk K A G H σ' env' (fun j => if j ∈ as then [] else Fs j) → σ'.length = σ.length → (∀ j, j ∉ as → σ'[j]? = σ[j]? ∧ env'[j]? = env[j]?) → Q σ' H) → t x σ H Q
theorem StOk.congr {Fs' : Nat → Fp} (so : StOk K A G H σ env Fs) (h : ∀ i, Fs' i = Fs i) : StOk K A G H σ env Fs' := by
  have e : Fs' = Fs := funext h
  rw [e]; exact so
theorem semG_name {i : Nat} : SemG K A [i] (gName i) (setD i) := by
  intro G H σ env env' Fs x d Q so r e k
  unfold setD at e
  split at e
  · rename_i hi
    cases e
    refine k _ ((so.assign (o := .val d) .nil ⟨rfl, r⟩ hi).congr fun j => ?_) (by simp) fun j hj => ?_
    · by_cases hj : j = i
      · subst hj; rw [upf_same]; simp
      · rw [upf_ne hj]; simp [hj]
    · have : i ≠ j := fun e => hj (by simp [e])
      exact ⟨List.getElem?_set_ne this, List.getElem?_set_ne this⟩
  · cases e
def SemGs (K : PySem.W.Frag) (A : Tab) (as : List Nat) (t : TGs) (f : List D → En → Option En) : Prop :=
  ∀ (G H : Hp) (σ : St) (env env' : En) (Fs : Nat → Fp) (xs : List V) (ds : List D) (Q : St → Hp → Prop), StOk K A G H σ env Fs → RepDs K A G ds xs → f ds env = some env' →
    (∀ σ', StOk K A G H σ' env' (fun j => if j ∈ as then [] else Fs j) → σ'.length = σ.length → (∀ j, j ∉ as → σ'[j]? = σ[j]? ∧ env'[j]? = env[j]?) → Q σ' H) → t xs σ H Q
theorem semGs_nil : SemGs K A [] gNil (setDs []) := by
  intro G H σ env env' Fs xs ds Q so r e k
  cases ds with
  | nil => cases e; cases r; exact ⟨rfl, k _ (so.congr fun j => by simp) rfl fun _ _ => ⟨rfl, rfl⟩⟩
  | cons _ _ => cases e
theorem semGs_cons {i : Nat} {is : List Nat} {t : TGs} (h : SemGs K A is t (setDs is)) : SemGs K A (i :: is) (gCons (gName i) t) (setDs (i :: is)) := by
  intro G H σ env env' Fs xs ds Q so r e k
  cases ds with
  | nil => cases e
  | cons d ds =>
    obtain ⟨x, xs, rfl, r1, r2⟩ := r
    simp only [setDs] at e
    obtain ⟨e1, h1, h2⟩ := Option.bind_eq_some_iff.mp e
    refine ⟨x, xs, rfl, semG_name G H σ env e1 Fs x d _ so r1 h1 fun σ1 so1 hl1 f1 => ?_⟩
    refine h G H σ1 e1 env' _ xs ds _ so1 r2 h2 fun σ2 so2 hl2 f2 => ?_
    refine k σ2 (so2.congr fun j => ?_) (hl2.trans hl1) fun j hj => ?_
    · by_cases h1 : j ∈ is <;> by_cases h2 : j = i <;> simp [h1, h2]
    · simp only [List.mem_cons, not_or] at hj
      obtain ⟨a1, a2⟩ := f1 j (by simp [hj.1])
      obtain ⟨b1, b2⟩ := f2 j hj.2
      exact ⟨b1.trans a1, b2.trans a2⟩
theorem semG_tup {is : List Nat} {t : TGs} {n : Nat} (hn : n = is.length) (h : SemGs K A is t (setDs is)) : SemG K A is (gTup K n t) (setTgt (.tup is)) := by
  intro G H σ env env' Fs x d Q so r e k
  cases d <;> try cases e
  rename_i ds
  obtain ⟨a, xs, rfl, q, r⟩ := r
  have hl : ∀ (is : List Nat) (ds : List D) (env env' : En), setDs is ds env = some env' → ds.length = is.length := by
    intro is
    induction is with
    | nil => intro ds env env' e; cases ds with | nil => rfl | cons _ _ => cases e
    | cons i is ih =>
      intro ds env env' e
      cases ds with
      | nil => cases e
      | cons d ds =>
        simp only [setDs] at e
        obtain ⟨e1, h1, h2⟩ := Option.bind_eq_some_iff.mp e
        simp [ih ds e1 env' h2]
  have e' : setDs is ds env = some env' := e
  refine ⟨a, xs, rfl, SqT.sub so.sub q, ?_, h G H σ env env' Fs xs ds Q so r e' k⟩
  rw [hn, ← hl is ds env env' e', r.length]
end

/-! ### what is walked -/
def WalkD (K : PySem.W.Frag) (A : Tab) (G : Hp) (J : It) (ds : List D) : Prop :=
  ∃ (Gd : Hp → Prop) (Y : Nat → Hp → V → Hp → Prop), Walk J ds.length Gd Y ∧ (∀ H, Sub G H → Gd H) ∧ ∀ i G1 H x H', i < ds.length → Sub G G1 → Sub G1 H → Y i H x H' → ∃ d G2, ds[i]? = some d ∧ Grow K A G1 H (.val d) [] x G2 H'
def SemI (K : PySem.W.Frag) (A : Tab) (W : WX) (occ : Nat → Bool) (wi : TI) (f : En → Res (List D × En)) : Prop :=
  ∀ (G H : Hp) (σ : St) (env : En) (Fs : Nat → Fp) (R : It → Hp → Prop), StOk K A G H σ env Fs →
    (f env).wp (fun r => ∀ J G' H' Fs', Stp G H Fs G' H' Fs' [] → StOk K A G' H' σ r.2 Fs' → Same' occ H env Fs H' r.2 Fs' → WalkD K A G' J r.1 → R J H')
      (fun c env' => ∀ G' H' Fs' C d, Stp G H Fs G' H' Fs' [] → StOk K A G' H' σ env' Fs' → Same' occ H env Fs H' env' Fs' → A.cls c = some C → W (.ref C) d σ H') → wi σ H R
def ExI (X : Cx) (A : Tab) (W : WX) (occ : Nat → Bool) (tg e : Expr) (f : En → Res (List D × En)) : Prop := ∃ wi, PI X tg e wi ∧ SemI X.K A W occ wi f
/-- all answers by worth, for good -/
def fzAll (env : En) (bs : List B) : Option (List D × En) := (tks env bs).map fun q => (O.fzs q.1, q.2)
def itV (g : List D → Option (List D)) (fs : En → Res (List B × En)) : En → Res (List D × En) := fun env => (fs env).bind fun r => (Res.ofO (fzAll r.2 r.1)).bind fun q => (Res.ofO (g q.1)).bind fun ds => .ok (ds, q.2)
section
variable {K : PySem.W.Frag} {A : Tab} {W : WX} {occ occ1 occ2 : Nat → Bool} {fs : En → Res (List B × En)}
theorem semI {t : TA} {wi : (It → Hp → Prop) → List V → Hp → Prop} {g : List D → Option (List D)} (h : SemA K A W occ t fs)
    (hr : ∀ (G H : Hp) (vs : List V) (ds es : List D) (R : It → Hp → Prop), Sub G H → RepDs K A G ds vs → g ds = some es → (∀ J, WalkD K A G J es → R J H) → wi R vs H) : SemI K A W occ (fun σ H R => t σ H (wi R)) (itV g fs) := by
  intro G H σ env Fs R so hq
  refine h G H σ env Fs _ so ?_
  unfold itV at hq
  rw [Res.wp_bind] at hq
  refine Res.wp_mono hq (fun r1 hr1 vs G' H' Fs' T st so' sm tk b bi => ?_) fun c e he => he
  rw [Res.wp_bind] at hr1
  obtain ⟨q, e1, hr1⟩ := Res.wp_ofO hr1
  rw [Res.wp_bind] at hr1
  obtain ⟨es, e2, hr1⟩ := Res.wp_ofO hr1
  obtain ⟨p, e3, e4⟩ := Option.map_eq_some_iff.mp e1
  subst e4
  obtain ⟨G1, Fs1, T1, st1, so1, tk1, r1', sl, far⟩ := tks_ok so' tk b e3
  have st2 : Stp G H Fs G1 H' Fs1 T1 := (st.trans tk st1).drop fun b hb => by simp [sl.subset hb]
  -- what is walked stands for good
  have s1 : Sub G1 (frz G1 H' T1) := frz_sub fun b hb => (tk1.own b hb).1
  have rd : RepDs K A (frz G1 H' T1) (O.fzs p.1) vs := RepOs.view s1 (fun b hb x e => by unfold frz; rw [if_pos hb]; exact e) r1'
  have st3 : Stp G H Fs (frz G1 H' T1) H' Fs1 [] := by
    refine ⟨fun b x e => s1 _ _ (st2.g _ _ e), st2.keep, fun b x e => ?_, fun b hb => st2.fnew b (hb.imp id fun z => nomatch z)⟩
    unfold frz at e
    split at e
    · rename_i hb
      rcases st2.fnew b (.inr hb) with z | z
      · exact .inr (.inl z)
      · exact .inr (.inr z)
    · exact st2.gnew b x e
  have so3 : StOk K A (frz G1 H' T1) H' σ p.2 Fs1 := by
    refine ⟨frz_le so1.sub, so1.len, fun i o e => ?_, so1.nd, so1.dj, fun i b hb => ⟨?_, (so1.own i b hb).2⟩⟩
    · obtain ⟨v, h1, h2⟩ := so1.at_ i o e
      exact ⟨v, h1, RepO.keep s1 (fun _ _ => rfl) h2⟩
    · unfold frz
      rw [if_neg (fun z => tk1.dj i b z hb)]
      exact (so1.own i b hb).1
  refine hr (frz G1 H' T1) H' vs (O.fzs p.1) es R so3.sub rd e2 fun J wd => ?_
  refine hr1 J _ H' Fs1 st3 so3 (fun i hi => ?_) wd
  obtain ⟨f1, k1, e1⟩ := sm i hi
  obtain ⟨f2, e2⟩ := far i (bin_tou bi hi)
  exact ⟨f2.trans f1, k1, e2.trans e1⟩

/-! the sources -/
theorem WalkD.at {G : Hp} {J : It} {ds : List D} {xs : List V} {Gd : Hp → Prop} (w : Walk J xs.length Gd (YAt xs)) (r : RepDs K A G ds xs) (hg : ∀ H, Sub G H → Gd H) : WalkD K A G J ds := by
  refine ⟨Gd, YAt xs, by rw [r.length]; exact w, hg, fun i G1 H x H' hi s1 s2 y => ?_⟩
  obtain ⟨e1, e2⟩ := y
  subst e1
  obtain ⟨d, hd, rd⟩ := r.get' e2
  exact ⟨d, G1, hd, Grow.old s2 (RepD.sub s1 rd)⟩
theorem WalkD.pair {G : Hp} {J : It} {ds : List (D × D)} {n : Nat} {xs ys : Nat → Option V} {Gd : Hp → Prop} (w : Walk J n Gd (YPair xs ys)) (hn : ds.length = n) (r : ∀ (i : Nat) (p : D × D) (x y : V), ds[i]? = some p → xs i = some x → ys i = some y → RepD K A G p.1 x ∧ RepD K A G p.2 y) (hg : ∀ H, Sub G H → Gd H) :
    WalkD K A G J (ds.map fun p => .tup [p.1, p.2]) := by
  refine ⟨Gd, YPair xs ys, by rw [List.length_map, hn]; exact w, hg, fun i G1 H x H' hi s1 s2 y => ?_⟩
  obtain ⟨T, a, b, e, hT, e2, ea, eb⟩ := y
  subst e e2
  rw [List.length_map] at hi
  have hd : ds[i]? = some ds[i] := List.getElem?_eq_getElem hi
  obtain ⟨ra, rb⟩ := r i _ a b hd ea eb
  refine ⟨.tup [ds[i].1, ds[i].2], _, by rw [List.getElem?_map, hd]; rfl, Grow.tup s2 ⟨a, [b], rfl, RepD.sub s1 ra, b, [], rfl, RepD.sub s1 rb, rfl⟩ hT⟩
theorem WalkD.ints {G : Hp} {J : It} {n : Nat} {f : Nat → Int} (w : Walk J n (fun _ => True) (YFn fun i => .int (f i))) : WalkD K A G J ((List.range n).map fun i => .int (f i)) := by
  refine ⟨fun _ => True, _, by rw [List.length_map, List.length_range]; exact w, fun _ _ => trivial, fun i G1 H x H' hi s1 s2 y => ?_⟩
  obtain ⟨e1, e2⟩ := y
  subst e1 e2
  rw [List.length_map, List.length_range] at hi
  exact ⟨.int (f i), G1, by simp [hi], Grow.sc s2 rfl⟩
def itemsD : List D → Option (List D)
  | [.lst ds] => some ds
  | [.tup ds] => some ds
  | [.scr ns] => some (ns.map .int)
  | [.str s] => some (s.cps.toList.map fun c => .str ⟨#[c]⟩)
  | _ => none
def range1 : List D → Option (List D)
  | [.int j] => if -(2 ^ 62) ≤ j ∧ j < 2 ^ 62 then some ((List.range j.toNat).map fun i => .int (0 + (i : Nat))) else none
  | _ => none
def range2 : List D → Option (List D)
  | [.int i, .int j] => if -(2 ^ 62) ≤ i ∧ i < 2 ^ 62 ∧ -(2 ^ 62) ≤ j ∧ j < 2 ^ 62 then some ((List.range (j - i).toNat).map fun k => .int (i + (k : Nat))) else none
  | _ => none
def enumGo : Nat → List D → List (D × D)
  | _, [] => []
  | k, d :: ds => (.int k, d) :: enumGo (k + 1) ds
def pairs (ps : List (D × D)) : List D := ps.map fun p => .tup [p.1, p.2]
def enumD : List D → Option (List D)
  | [.lst ds] => some (pairs (enumGo 0 ds))
  | [.tup ds] => some (pairs (enumGo 0 ds))
  | [.scr ns] => some (pairs (enumGo 0 (ns.map .int)))
  | _ => none
def zipD : List D → Option (List D)
  | [.lst ds, .lst es] => some (pairs (ds.zip es))
  | [.tup ds, .tup es] => some (pairs (ds.zip es))
  | _ => none
theorem enumGo_get : ∀ (ds : List D) (k i : Nat), (enumGo k ds)[i]? = (ds[i]?).map fun d => (.int ((k + i : Nat) : Int), d)
  | [], k, i => by simp [enumGo]
  | d :: ds, k, 0 => by simp [enumGo]
  | d :: ds, k, i + 1 => by
    simp only [enumGo, List.getElem?_cons_succ]
    rw [enumGo_get ds (k + 1) i]
    congr 1
    funext e
    rw [show k + 1 + i = k + (i + 1) by omega]
theorem enumGo_len : ∀ (ds : List D) (k : Nat), (enumGo k ds).length = ds.length
  | [], _ => rfl
  | d :: ds, k => by simp [enumGo, enumGo_len ds (k + 1)]
theorem walkD_enum {G : Hp} {J : It} {ds : List D} {xs : List V} {Gd : Hp → Prop} (w : Walk J xs.length Gd (YPair (fun i => some (.int (i : Nat))) (fun i => xs[i]?))) (r : RepDs K A G ds xs) (hg : ∀ H, Sub G H → Gd H) : WalkD K A G J (pairs (enumGo 0 ds)) := by
  refine WalkD.pair w (by rw [enumGo_len, r.length]) (fun i p x y e1 e2 e3 => ?_) hg
  rw [enumGo_get] at e1
  obtain ⟨d, hd, e⟩ := Option.map_eq_some_iff.mp e1
  subst e
  cases e2
  obtain ⟨v, hv, rv⟩ := r.get hd
  rw [e3] at hv
  cases hv
  exact ⟨by simp [RepD], rv⟩
theorem walkD_zip {G : Hp} {J : It} {ds es : List D} {xs ys : List V} {Gd : Hp → Prop} (w : ∀ n, n = min xs.length ys.length → Walk J n Gd (YPair (fun i => xs[i]?) (fun i => ys[i]?))) (r1 : RepDs K A G ds xs) (r2 : RepDs K A G es ys) (hg : ∀ H, Sub G H → Gd H) : WalkD K A G J (pairs (ds.zip es)) := by
  refine WalkD.pair (w _ rfl) (by rw [List.length_zip, r1.length, r2.length]) (fun i p x y e1 e2 e3 => ?_) hg
  have e1' := e1
  rw [List.zip_eq_zipWith, List.getElem?_zipWith] at e1'
  cases h1 : ds[i]? with
  | none => rw [h1] at e1'; simp at e1'
  | some d =>
    cases h2 : es[i]? with
    | none => rw [h1, h2] at e1'; simp at e1'
    | some e =>
      rw [h1, h2] at e1'
      cases e1'
      obtain ⟨v, hv, rv⟩ := r1.get h1
      obtain ⟨v2, hv2, rv2⟩ := r2.get h2
      rw [e2] at hv; rw [e3] at hv2
      cases hv; cases hv2
      exact ⟨rv, rv2⟩
end
section
variable {X : Cx} {A : Tab} {W : WX} {occ occ1 occ2 : Nat → Bool} {fa : En → Res (B × En)} {fs : En → Res (List B × En)} {e a b tg : Expr} {es : List Expr} {p pos tpos : Pos}
theorem ei_any (h : ExE X A W occ e fa) : ExI X A W (fun i => occ i || false) tg e (itV itemsD (evsCons (fun _ => false) fa evsNil)) := by
  obtain ⟨t, pe, s⟩ := h
  refine ⟨_, pi_any pe, ?_⟩
  have := semI (wi := fun R vs H => match vs with
    | [x] => (∃ a xs, x = .ref a ∧ SqL X.K H a xs ∧ R (Itl X.K a) H) ∨ (∃ a xs, x = .ref a ∧ SqT X.K H a xs ∧ R (Itt X.K a) H) ∨ ∃ z, x = .str z ∧ R (Its z) H
    | _ => False) (g := itemsD) (semA_cons s (semA_nil (occ := fun _ => false))) fun G H vs ds es R sg rv hg k => by
    match ds, hg with
    | [.lst ds], hg =>
      cases hg
      obtain ⟨x, xs, rfl, ⟨a, ys, rfl, q, r⟩, rfl⟩ := rv
      exact .inl ⟨a, ys, rfl, SqL.of (sg _ _ q), k _ (WalkD.at walk_list r fun H s => SqL.of (s _ _ q))⟩
    | [.tup ds], hg =>
      cases hg
      obtain ⟨x, xs, rfl, ⟨a, ys, rfl, q, r⟩, rfl⟩ := rv
      exact .inr (.inl ⟨a, ys, rfl, SqT.sub sg q, k _ (WalkD.at walk_tup r fun H s => SqT.sub s q)⟩)
    | [.scr ns], hg =>
      cases hg
      obtain ⟨x, xs, rfl, ⟨a, rfl, q⟩, rfl⟩ := rv
      exact .inl ⟨a, _, rfl, SqL.sub sg q, k _ (WalkD.at walk_list (RepDs.ints ns) fun H s => SqL.sub s q)⟩
    | [.str z], hg =>
      cases hg
      obtain ⟨x, xs, rfl, e, rfl⟩ := rv
      cases e
      refine .inr (.inr ⟨z, rfl, k _ ?_⟩)
      refine ⟨fun _ => True, _, by rw [List.length_map, Array.length_toList]; exact walk_str, fun _ _ => trivial, fun i G1 H x H' hi s1 s2 y => ?_⟩
      obtain ⟨e1, c, e2, e3⟩ := y
      subst e1 e3
      exact ⟨.str ⟨#[c]⟩, G1, by rw [List.getElem?_map, Array.getElem?_toList, e2]; rfl, Grow.sc s2 rfl⟩
  exact this
theorem ei_range1 (hg : Gl X "range") (hm : X.mg "range" = none) (h : ExA X A W occ [a] fs) (hs : notStar a = true) : ExI X A W occ tg (.Call (.Name "range" p) [a] [] pos) (itV range1 fs) := by
  obtain ⟨t, pa, s⟩ := h
  refine ⟨_, pi_range1 hg hm pa (star_cons hs), ?_⟩
  refine semI (wi := fun R vs H => ∃ j : Int, vs = [.int j] ∧ -(2 ^ 62) ≤ j ∧ j < 2 ^ 62 ∧ R (Itr 0 j.toNat) H) s fun G H vs ds es R sg rv hg k => ?_
  match ds, hg with
  | [.int j], hg =>
    simp only [range1] at hg
    split at hg
    · rename_i hb
      cases hg
      obtain ⟨x, xs, rfl, e, rfl⟩ := rv
      cases e
      exact ⟨j, rfl, hb.1, hb.2, k _ (WalkD.ints walk_range)⟩
    · cases hg
theorem ei_range2 (hg : Gl X "range") (hm : X.mg "range" = none) (h : ExA X A W occ [a, b] fs) (hs : notStar a = true) (hs2 : notStar b = true) : ExI X A W occ tg (.Call (.Name "range" p) [a, b] [] pos) (itV range2 fs) := by
  obtain ⟨t, pa, s⟩ := h
  refine ⟨_, pi_range2 hg hm pa (by rw [star_cons hs, star_cons hs2]; rfl) (star_cons hs2), ?_⟩
  refine semI (wi := fun R vs H => ∃ i j : Int, vs = [.int i, .int j] ∧ (-(2 ^ 62) ≤ i ∧ i < 2 ^ 62 ∧ -(2 ^ 62) ≤ j ∧ j < 2 ^ 62) ∧ R (Itr i (j - i).toNat) H) s fun G H vs ds es R sg rv hg k => ?_
  match ds, hg with
  | [.int i, .int j], hg =>
    simp only [range2] at hg
    split at hg
    · rename_i hb
      cases hg
      obtain ⟨x, xs, rfl, e, y, ys, rfl, e2, rfl⟩ := rv
      cases e
      cases e2
      exact ⟨i, j, rfl, hb, k _ (WalkD.ints walk_range)⟩
    · cases hg
theorem ei_enum {elts : List Expr} {kk : Nat} (hg : Gl X "enumerate") (hm : X.mg "enumerate" = none) (h : ExA X A W occ [a] fs) (hs : notStar a = true) : ExI X A W occ (.Tuple elts kk tpos) (.Call (.Name "enumerate" p) [a] [] pos) (itV enumD fs) := by
  obtain ⟨t, pa, s⟩ := h
  refine ⟨_, pi_enumX hg hm pa hs, ?_⟩
  refine semI (wi := fun R vs H => ∃ a xs, vs = [.ref a] ∧ ((SqL X.K H a xs ∧ R (Ite X.K a) H) ∨ (SqT X.K H a xs ∧ R (IteT X.K a) H))) s fun G H vs ds es R sg rv hg k => ?_
  match ds, hg with
  | [.lst ds], hg =>
    cases hg
    obtain ⟨x, xs, rfl, ⟨a, ys, rfl, q, r⟩, rfl⟩ := rv
    exact ⟨a, ys, rfl, .inl ⟨SqL.of (sg _ _ q), k _ (walkD_enum walk_enum r fun H s => SqL.of (s _ _ q))⟩⟩
  | [.tup ds], hg =>
    cases hg
    obtain ⟨x, xs, rfl, ⟨a, ys, rfl, q, r⟩, rfl⟩ := rv
    exact ⟨a, ys, rfl, .inr ⟨SqT.sub sg q, k _ (walkD_enum walk_enumT r fun H s => SqT.sub s q)⟩⟩
  | [.scr ns], hg =>
    cases hg
    obtain ⟨x, xs, rfl, ⟨a, rfl, q⟩, rfl⟩ := rv
    exact ⟨a, _, rfl, .inl ⟨SqL.sub sg q, k _ (walkD_enum walk_enum (RepDs.ints ns) fun H s => SqL.sub s q)⟩⟩
theorem walk_zipT {K : PySem.W.Frag} {a b : Addr} {xs ys : List V} {n : Nat} (hn : n = min xs.length ys.length) : Walk (ItzT K a b) n (fun H => SqT K H a xs ∧ SqT K H b ys) (YPair (fun i => xs[i]?) (fun i => ys[i]?)) := by
  refine ⟨fun i H hi h => ⟨xs, ys, xs[i]'(by omega), ys[i]'(by omega), h.1, h.2, by rw [List.getElem?_eq_getElem], by rw [List.getElem?_eq_getElem]⟩, fun H h => ⟨xs, ys, h.1, h.2, by omega⟩, fun i H x H' hi h y => ?_⟩
  obtain ⟨T, u, v, e, n, e2, k1, k2⟩ := y
  exact ⟨T, u, v, e, n, e2, k1 xs h.1, k2 ys h.2⟩
theorem ei_zip {elts : List Expr} {kk : Nat} (hg : Gl X "zip") (hm : X.mg "zip" = none) (h : ExA X A W occ [a, b] fs) (hs : notStar a = true) (hs2 : notStar b = true) : ExI X A W occ (.Tuple elts kk tpos) (.Call (.Name "zip" p) [a, b] [] pos) (itV zipD fs) := by
  obtain ⟨t, pa, s⟩ := h
  refine ⟨_, pi_zipA hg hm pa (star_cons hs) (star_any (by simp [hs2])), ?_⟩
  refine semI (wi := fun R vs H => ∃ a b xs ys, vs = [.ref a, .ref b] ∧ ((SqL X.K H a xs ∧ SqL X.K H b ys ∧ R (Itz X.K a b) H) ∨ (SqT X.K H a xs ∧ SqT X.K H b ys ∧ R (ItzT X.K a b) H))) s fun G H vs ds es R sg rv hg k => ?_
  match ds, hg with
  | [.lst ds, .lst es], hg =>
    cases hg
    obtain ⟨x, xs, rfl, ⟨a, ys, rfl, q, r⟩, x2, xs2, rfl, ⟨a2, ys2, rfl, q2, r2⟩, rfl⟩ := rv
    exact ⟨a, a2, ys, ys2, rfl, .inl ⟨SqL.of (sg _ _ q), SqL.of (sg _ _ q2), k _ (walkD_zip (fun n hn => walk_zip hn) r r2 fun H s => ⟨SqL.of (s _ _ q), SqL.of (s _ _ q2)⟩)⟩⟩
  | [.tup ds, .tup es], hg =>
    cases hg
    obtain ⟨x, xs, rfl, ⟨a, ys, rfl, q, r⟩, x2, xs2, rfl, ⟨a2, ys2, rfl, q2, r2⟩, rfl⟩ := rv
    exact ⟨a, a2, ys, ys2, rfl, .inr ⟨SqT.sub sg q, SqT.sub sg q2, k _ (walkD_zip (fun n hn => walk_zipT hn) r r2 fun H s => ⟨SqT.sub s q, SqT.sub s q2⟩)⟩⟩
end
end Fz
end

section -- Fz12
namespace Fz
open PySem L2

/-! ### comprehensions -/
def wipeE (env : En) : List Nat → En
  | [] => env
  | v :: vs => (wipeE env vs).set v none
/-- the block's own slots as they were ahead of it -/
def backE (env0 env : En) : List Nat → En
  | [] => env
  | v :: vs => (backE env0 env vs).set v (env0[v]?.join)
theorem wipe_get {α : Type} (f : List Nat → List (Option α)) (σ : List (Option α)) (h0 : f [] = σ) (h1 : ∀ v vs, f (v :: vs) = (f vs).set v none) : ∀ (vs : List Nat), (f vs).length = σ.length ∧ ∀ j, (f vs)[j]? = if j ∈ vs then (if j < σ.length then some none else none) else σ[j]?
  | [] => by rw [h0]; simp
  | v :: vs => by
    obtain ⟨l, g⟩ := wipe_get f σ h0 h1 vs
    rw [h1]
    refine ⟨by rw [List.length_set]; exact l, fun j => ?_⟩
    by_cases hj : j = v
    · subst hj
      by_cases hl : j < σ.length
      · rw [List.getElem?_set_self (by rw [l]; exact hl)]
        simp [hl]
      · rw [List.getElem?_eq_none (by rw [List.length_set, l]; omega)]
        simp [hl]
    · rw [List.getElem?_set_ne (Ne.symm hj), g]
      simp [hj]
theorem wipeE_get (env : En) (vs : List Nat) : (wipeE env vs).length = env.length ∧ ∀ j, (wipeE env vs)[j]? = if j ∈ vs then (if j < env.length then some none else none) else env[j]? := wipe_get (wipeE env) env rfl (fun _ _ => rfl) vs
theorem wipe_get' (σ : St) (vs : List Nat) : (wipe σ vs).length = σ.length ∧ ∀ j, (wipe σ vs)[j]? = if j ∈ vs then (if j < σ.length then some none else none) else σ[j]? := wipe_get (wipe σ) σ rfl (fun _ _ => rfl) vs
theorem backE_get (e0 : En) : ∀ (env : En) (vs : List Nat), (backE e0 env vs).length = env.length ∧ ∀ j, (backE e0 env vs)[j]? = if j ∈ vs then (if j < env.length then some (e0[j]?.join) else none) else env[j]?
  | env, [] => by simp [backE]
  | env, v :: vs => by
    obtain ⟨l, g⟩ := backE_get e0 env vs
    simp only [backE]
    refine ⟨by rw [List.length_set]; exact l, fun j => ?_⟩
    by_cases hj : j = v
    · subst hj
      by_cases hl : j < env.length
      · rw [List.getElem?_set_self (by rw [l]; exact hl)]
        simp [hl]
      · rw [List.getElem?_eq_none (by rw [List.length_set, l]; omega)]
        simp [hl]
    · rw [List.getElem?_set_ne (Ne.symm hj), g]
      simp [hj]
theorem wipe_eq {σ σ' : St} {vs : List Nat} (hl : σ'.length = σ.length) (h : ∀ j, j ∉ vs → σ'[j]? = σ[j]?) : wipe σ' vs = wipe σ vs := by
  refine List.ext_getElem? fun j => ?_
  rw [(wipe_get' σ' vs).2, (wipe_get' σ vs).2, hl]
  by_cases hj : j ∈ vs
  · simp [hj]
  · simp [hj, h j hj]
section
variable {K : PySem.W.Frag} {A : Tab} {G H : Hp} {σ : St} {env : En} {Fs : Nat → Fp}
def minus (Fs : Nat → Fp) (vs : List Nat) : Nat → Fp := fun j => if j ∈ vs then [] else Fs j
theorem StOk.wipe {vs : List Nat} (so : StOk K A G H σ env Fs) : StOk K A G H (wipe σ vs) (wipeE env vs) (minus Fs vs) := by
  obtain ⟨l1, g1⟩ := wipe_get' σ vs
  obtain ⟨l2, g2⟩ := wipeE_get env vs
  refine ⟨so.sub, by rw [l1, l2]; exact so.len, fun j o e => ?_, fun j => ?_, fun j l b hj hl => ?_, fun j b hb => ?_⟩
  · rw [g2] at e
    by_cases hj : j ∈ vs
    · simp only [hj, if_true] at e
      split at e <;> cases e
    · simp only [hj, if_false] at e
      obtain ⟨v, h1, h2⟩ := so.at_ j o e
      refine ⟨v, by rw [g1]; simp only [hj, if_false]; exact h1, ?_⟩
      unfold minus
      simp only [hj, if_false]
      exact h2
  · unfold minus
    split
    · exact List.nodup_nil
    · exact so.nd j
  · unfold minus at hj hl
    split at hj
    · cases hj
    · split at hl
      · cases hl
      · exact so.dj j l b hj hl
  · unfold minus at hb
    split at hb
    · cases hb
    · exact so.own j b hb
theorem minus_own {vs : List Nat} {b : Addr} (h : ∃ i, b ∈ minus Fs vs i) : ∃ i, b ∈ Fs i := by
  obtain ⟨i, h⟩ := h
  unfold minus at h
  split at h
  · cases h
  · exact ⟨i, h⟩
/-- a temporary object is written -/
theorem StOk.upd {D : Addr} {u : HO} (so : StOk K A G H σ env Fs) (hn : ∀ i, D ∉ Fs i) (hg : G D = none) : StOk K A G (upd H D u) σ env Fs := by
  refine ⟨fun b o e => ?_, so.len, fun j o e => ?_, so.nd, so.dj, fun j b hb => ?_⟩
  · rw [upd_ne (fun z => by rw [z, hg] at e; cases e)]
    exact so.sub _ _ e
  · obtain ⟨v, h1, h2⟩ := so.at_ j o e
    exact ⟨v, h1, RepO.keep (fun _ _ h => h) (fun b hb => upd_ne (fun z : b = D => hn j (by rw [← z]; exact hb))) h2⟩
  · have nb : b ≠ D := fun z => hn j (by rw [← z]; exact hb)
    rw [upd_ne nb]
    exact so.own j b hb
theorem RepOs.snoc {o : O} {T2 : Fp} {y : V} : ∀ {os : List O} {T : Fp} {vs : List V}, RepOs K A G H os T vs → RepO K A G H o T2 y → RepOs K A G H (os ++ [o]) (T ++ T2) (vs ++ [y])
  | [], T, vs, h, r => by
    obtain ⟨rfl, rfl⟩ := h
    exact ⟨T2, [], y, [], by simp, rfl, r, rfl, rfl⟩
  | o' :: os, T, vs, h, r => by
    obtain ⟨F1, F2, x, xs, rfl, rfl, h1, h2⟩ := h
    exact ⟨F1, F2 ++ T2, x, xs ++ [y], by simp, rfl, h1, RepOs.snoc h2 r⟩
end

def compL (vs : List Nat) (tg : D → En → Option En) (fc : En → Res (Bool × En)) (fe : En → Res (B × En)) : List D → List O → En → Res (List O × En)
  | [], acc, env => .ok (acc, env)
  | d :: ds, acc, env => (Res.ofO (tg d env)).bind fun e1 => (fc e1).bind fun c =>
    if c.1 = true then (fe c.2).bind fun r => (Res.ofO (tk r.2 r.1)).bind fun q => if acc.length < sizeLine then compL vs tg fc fe ds (acc ++ [q.1]) (wipeE q.2 vs) else .stuck
    else compL vs tg fc fe ds acc (wipeE c.2 vs)
def evComp (vs : List Nat) (tg : D → En → Option En) (fi : En → Res (List D × En)) (fc : En → Res (Bool × En)) (fe : En → Res (B × En)) : En → Res (B × En) := fun env => (fi env).bind fun r =>
  match compL vs tg fc fe r.1 [] (wipeE r.2 vs) with
  | .ok q => .ok (.tmp (.lst q.1), backE r.2 q.2 vs)
  | _ => .stuck
def yesT : En → Res (Bool × En) := fun env => .ok (true, env)
abbrev W0 : WX := fun _ _ _ _ => False

section
variable {K : PySem.W.Frag} {A : Tab} {W : WX} {occ1 occ2 occ3 : Nat → Bool}
theorem sem_comp {wi : TI} {g : TG} {tt : TT} {te : TE} {vs as : List Nat} {ftg : D → En → Option En} {fi : En → Res (List D × En)} {fc : En → Res (Bool × En)} {fe : En → Res (B × En)}
    (h1 : SemI K A W occ1 wi fi) (hg : SemG K A as g ftg) (has : ∀ i ∈ as, i ∈ vs) (h2 : SemT K A W0 occ2 tt fc) (h3 : SemE K A W0 occ3 te fe) :
    SemE K A W (fun i => occ1 i || (occ2 i || (occ3 i || decide (i ∈ vs)))) (tLc wi g tt te vs) (evComp vs ftg fi fc fe) := by
  intro G H σ env Fs Q so hq
  unfold evComp at hq
  rw [Res.wp_bind] at hq
  refine h1 G H σ env Fs _ so (Res.wp_mono hq (fun r hr J G1 H1 Fs1 st1 so1 sm1 wd => ?_) fun c e he G' H' Fs' C d a1 a2 a3 => he G' H' Fs' C d a1 a2 (a3.mono fun i hi => by simp at hi; exact hi.1))
  intro D hD
  obtain ⟨ds, e1⟩ := r
  simp only at hr st1 so1 sm1 wd
  obtain ⟨Gd, Y, wk, hgd, hy⟩ := wd
  have gD : G1 D = none := sub_none so1.sub hD
  have nD : ∀ i, D ∉ Fs1 i := fun i z => (so1.own i D z).2 hD
  have soW : StOk K A G1 H1 (wipe σ vs) (wipeE e1 vs) (minus Fs1 vs) := so1.wipe
  -- the end: what stands behind the last turn
  let QQ : List O × En → Prop := fun q => ∀ v G' H' Fs' T, Stp G H Fs G' H' Fs' T → StOk K A G' H' σ (backE e1 q.2 vs) Fs' → Same' (fun i => occ1 i || (occ2 i || (occ3 i || decide (i ∈ vs)))) H env Fs H' (backE e1 q.2 vs) Fs' → TOk G' H' Fs' T → RepO K A G' H' (.lst q.1) T v → Q v H'
  have hqq : (compL vs ftg fc fe ds [] (wipeE e1 vs)).wp QQ (fun _ _ => False) := by
    cases hc : compL vs ftg fc fe ds [] (wipeE e1 vs) with
    | ok q =>
      rw [hc] at hr
      exact fun v G' H' Fs' T a b c d e => hr v G' H' Fs' T a b c d e trivial
    | exc c e => rw [hc] at hr; exact hr
    | stuck => rw [hc] at hr; exact hr
  let Pv : Nat → Hp → Prop := fun i H2 => ∃ G2 Fs2 T e2 acc, Stp G1 H1 (minus Fs1 vs) G2 H2 Fs2 (D :: T) ∧ StOk K A G2 H2 (wipe σ vs) e2 Fs2 ∧ TOk G2 H2 Fs2 (D :: T) ∧ RepO K A G2 H2 (.lst acc) (D :: T) (.ref D) ∧
    Same' (fun i => occ2 i || (occ3 i || decide (i ∈ vs))) H1 (wipeE e1 vs) (minus Fs1 vs) H2 e2 Fs2 ∧ (compL vs ftg fc fe (ds.drop i) acc e2).wp QQ (fun _ _ => False)
  refine lc_it wk Pv ?_ (fun i H2 _ ⟨G2, _, _, _, _, st, so, _⟩ => hgd H2 fun b o e => so.sub _ _ (st.g _ _ e)) ?_ ?_
  · have nD' : ∀ i, D ∉ minus Fs1 vs i := fun i z => by
      obtain ⟨j, q⟩ := minus_own ⟨i, z⟩
      exact nD j q
    refine ⟨G1, minus Fs1 vs, [], wipeE e1 vs, [], ⟨fun _ _ h => h, fun b x h _ => ?_, fun _ _ h => .inl h, fun b h => ?_⟩, soW.upd nD' gD, ⟨by simp, fun i b hb => ?_, fun b hb => ?_⟩, ⟨D, [], [], rfl, upd_same, rfl, rfl, rfl⟩, fun i hi => ⟨rfl, fun b hb => upd_ne (fun z => nD' i (z ▸ hb)), rfl⟩, by simpa using hqq⟩
    · rw [upd_ne (ne_of_none h hD)]; exact h
    · rcases h with h | h
      · exact .inl h
      · cases (show b = D by simpa using h)
        exact .inr hD
    · cases (show b = D by simpa using hb)
      exact nD' i
    · cases (show b = D by simpa using hb)
      exact ⟨gD, by rw [upd_same]; simp⟩
  · rintro i x H2 H2' hi ⟨G2, Fs2, T, e2, acc, st, so2, tk2, ro, sm, hw⟩ y
    obtain ⟨d, G3, hd, gr⟩ := hy i G2 H2 x H2' hi st.g so2.sub y
    have st23 : Stp G2 H2 Fs2 G3 H2' Fs2 [] := GrowT.stp .refl gr
    obtain ⟨so3, _, same3⟩ := GrowT.so so2 .nil gr
    obtain ⟨tk3, sT3⟩ := tk2.step st23 .nil
    rw [List.append_nil] at tk3
    have hdrop : ds.drop i = d :: ds.drop (i + 1) := by
      obtain ⟨hl, e⟩ := List.getElem?_eq_some_iff.mp hd
      rw [List.drop_eq_getElem_cons hl, e]
    rw [hdrop] at hw
    simp only [compL] at hw
    rw [Res.wp_bind] at hw
    obtain ⟨e3, ht, hw⟩ := Res.wp_ofO hw
    refine hg G3 H2' (wipe σ vs) e2 e3 Fs2 x d _ so3 gr.r.2 ht fun σ3 so4 hl4 f4 => ?_
    refine ⟨?_, ?_⟩
    · rw [wipe_eq (σ := wipe σ vs) hl4 fun j hj => (f4 j fun z => hj (has j z)).1]
      exact wipe_eq (wipe_get' σ vs).1 fun j hj => by rw [(wipe_get' σ vs).2]; simp [hj]
    · -- the slots that the target fills own nothing
      have st34 : Stp G2 H2 Fs2 G3 H2' (fun j => if j ∈ as then [] else Fs2 j) [] := ⟨st23.g, st23.keep, st23.gnew, fun b hb => by
        rcases hb with ⟨j, hb⟩ | hb
        · split at hb
          · cases hb
          · exact .inl ⟨j, hb⟩
        · cases hb⟩
      have tk4 : TOk G3 H2' (fun j => if j ∈ as then [] else Fs2 j) (D :: T) := ⟨tk3.nd, fun j b hb hj => by
        split at hj
        · cases hj
        · exact tk3.dj j b hb hj, tk3.own⟩
      rw [Res.wp_bind] at hw
      refine h2 G3 H2' σ3 e3 _ _ so4 (Res.wp_mono hw (fun c hc G5 H5 Fs5 st5 so5 sm5 => ?_) fun c e he => he.elim)
      have wsame : wipe σ3 vs = wipe σ vs := by
        rw [wipe_eq (σ := wipe σ vs) hl4 fun j hj => (f4 j fun z => hj (has j z)).1]
        exact wipe_eq (wipe_get' σ vs).1 fun j hj => by rw [(wipe_get' σ vs).2]; simp [hj]
      obtain ⟨tk5, sT5⟩ := tk4.step st5 .nil
      rw [List.append_nil] at tk5
      have ro5 : RepO K A G5 H5 (.lst acc) (D :: T) (.ref D) := RepO.keep (fun b o e => st5.g _ _ (gr.g _ _ e)) (fun b hb => (sT5 b hb).trans (sT3 b hb)) ro
      have stA5 : Stp G1 H1 (minus Fs1 vs) G5 H5 Fs5 (D :: T) := by
        have a : Stp G1 H1 (minus Fs1 vs) G3 H2' (fun j => if j ∈ as then [] else Fs2 j) (D :: T) := by
          have := st.trans tk2 st34
          simpa using this
        have := a.trans tk4 st5
        simpa using this
      have sm3 : Same' (fun i => occ2 i || (occ3 i || decide (i ∈ vs))) H1 (wipeE e1 vs) (minus Fs1 vs) H2' e3 (fun j => if j ∈ as then [] else Fs2 j) := fun j hj => by
        obtain ⟨f1, k1, g1⟩ := sm j hj
        have hv : j ∉ vs := by simp at hj; exact hj.2.2
        have ha : j ∉ as := fun z => hv (has j z)
        simp only [ha, if_false]
        exact ⟨f1, fun b hb => (same3 j b (by rw [f1]; exact hb)).trans (k1 b hb), (f4 j ha).2.trans g1⟩
      have sm5' : Same' (fun i => occ2 i || (occ3 i || decide (i ∈ vs))) H1 (wipeE e1 vs) (minus Fs1 vs) H5 c.2 Fs5 := (sm3.trans sm5).mono fun j hj => by simp at hj ⊢; exact ⟨⟨hj.1, hj.2.1, hj.2.2⟩, hj.1⟩
      -- a turn's end: the block's slots are forgotten
      have fin : ∀ {G6 H6 : Hp} {Fs6 : Nat → Fp} {T6 : Fp} {e6 : En} {acc6 : List O}, Stp G1 H1 (minus Fs1 vs) G6 H6 Fs6 (D :: T6) → StOk K A G6 H6 σ3 e6 Fs6 → TOk G6 H6 Fs6 (D :: T6) → RepO K A G6 H6 (.lst acc6) (D :: T6) (.ref D) →
          Same' (fun i => occ2 i || (occ3 i || decide (i ∈ vs))) H1 (wipeE e1 vs) (minus Fs1 vs) H6 e6 Fs6 → (compL vs ftg fc fe (ds.drop (i + 1)) acc6 (wipeE e6 vs)).wp QQ (fun _ _ => False) → Pv (i + 1) H6 := by
        intro G6 H6 Fs6 T6 e6 acc6 a b c d e f
        have b' := b.wipe (vs := vs)
        rw [wsame] at b'
        refine ⟨G6, minus Fs6 vs, T6, wipeE e6 vs, acc6, ⟨a.g, a.keep, a.gnew, fun x hx => a.fnew x (hx.imp minus_own id)⟩, b', ⟨c.nd, fun j x hx hj => ?_, c.own⟩, d, fun j hj => ?_, f⟩
        · obtain ⟨l, q⟩ := minus_own (Fs := Fs6) (vs := vs) ⟨j, hj⟩
          exact c.dj l x hx q
        · obtain ⟨f1, k1, g1⟩ := e j hj
          have hv : j ∉ vs := by simp at hj; exact hj.2.2
          refine ⟨?_, k1, ?_⟩
          · unfold minus at f1 ⊢
            simp only [hv, if_false] at f1 ⊢
            exact f1
          · rw [(wipeE_get e6 vs).2]
            simp only [hv, if_false]
            exact g1
      by_cases hc1 : c.1 = true
      · rw [if_pos hc1] at hc ⊢
        rw [Res.wp_bind] at hc
        refine h3 G5 H5 σ3 c.2 Fs5 _ so5 (Res.wp_mono hc (fun r hr v G6 H6 Fs6 T6 st6 so6 sm6 tk6 b6 bi6 => ?_) fun c e he => he.elim)
        rw [Res.wp_bind] at hr
        obtain ⟨q, eq, hr⟩ := Res.wp_ofO hr
        by_cases hsz : acc.length < sizeLine
        · rw [if_pos hsz] at hr
          obtain ⟨G7, Fs7, T7, K7⟩ := tk_ok so6 tk6 b6 eq
          -- the list so far stays
          obtain ⟨tkA, sA⟩ := tk5.step st6 tk6
          have tkA' : TOk G6 H6 Fs6 (D :: T) := tkA.sub (List.sublist_append_left _ _)
          have tkB : TOk G7 H6 Fs7 ((D :: T) ++ T7) := by
            have t1 : TOk G7 H6 Fs7 (D :: T) := tkA'.stp0 K7.st
            refine ⟨tkA.nd.sublist ((List.Sublist.refl _).append K7.t), fun j b hb => ?_, fun b hb => ?_⟩
            · rcases List.mem_append.mp hb with z | z
              · exact t1.dj j b z
              · exact K7.tko.dj j b z
            · rcases List.mem_append.mp hb with z | z
              · exact t1.own b z
              · exact K7.tko.own b z
          obtain ⟨a', xs, F', ea, hDl, eF, rs⟩ := RepO.keep (K := K) (A := A) (H' := H6) (fun b o e => K7.st.g _ _ (st6.g _ _ e)) sA ro5
          cases ea
          cases eF
          have rs7 : RepOs K A G7 H6 acc T xs := rs
          refine ⟨xs, hDl, by rw [← rs7.len]; exact hsz, ?_⟩
          have dT : D ∉ T ++ T7 := (List.nodup_cons.mp tkB.nd).1
          refine fin (G6 := G7) (Fs6 := Fs7) (T6 := T ++ T7) (e6 := q.2) (acc6 := acc ++ [q.1]) ?_ (K7.so.upd (fun j z => tkB.dj j D (by simp) z) (tkB.own D (by simp)).1) ⟨tkB.nd, tkB.dj, fun b hb => ?_⟩ ⟨D, xs ++ [v], T ++ T7, rfl, upd_same, rfl, ?_⟩ (fun j hj => ?_) hr
          · have stA6 : Stp G1 H1 (minus Fs1 vs) G6 H6 Fs6 ((D :: T) ++ T6) := stA5.trans tk5 st6
            have stA7 : Stp G1 H1 (minus Fs1 vs) G7 H6 Fs7 ((D :: T) ++ T6 ++ []) := stA6.trans tkA K7.st
            refine ⟨stA7.g, fun b x hb hn => ?_, stA7.gnew, fun b hb => stA7.fnew b (hb.imp id fun z => ?_)⟩
            · rw [upd_ne (ne_of_none hb hD)]
              exact stA7.keep b x hb hn
            · rcases List.mem_cons.mp z with z | z
              · simp [z]
              · rcases List.mem_append.mp z with z | z
                · simp [z]
                · simp [K7.t.subset z]
          · by_cases hb' : b = D
            · subst hb'
              exact ⟨(tkB.own b (by simp)).1, by rw [upd_same]; simp⟩
            · rw [upd_ne hb']
              exact tkB.own b hb
          · exact RepOs.snoc (RepOs.keep (fun _ _ h => h) (fun b hb => upd_ne (fun z => dT (by simp [← z, hb]))) rs7) (RepO.keep (fun _ _ h => h) (fun b hb => upd_ne (fun z => dT (by simp [← z, hb]))) K7.r)
          · obtain ⟨f1, k1, g1⟩ := (sm5'.trans sm6) j (by simp at hj ⊢; exact ⟨hj, hj.2.1⟩)
            obtain ⟨f2, g2⟩ := K7.far j (by
              have := bin_tou (bs := [r.1]) (occ := occ3) (by simpa using bi6) (i := j) (by simp at hj; exact hj.2.1)
              simpa using this)
            refine ⟨f2.trans f1, fun b hb => ?_, g2.trans g1⟩
            have hne : b ≠ D := fun z => by
              subst z
              obtain ⟨l, q⟩ := minus_own (Fs := Fs1) (vs := vs) ⟨j, hb⟩
              exact nD l q
            rw [upd_ne hne]
            exact k1 b hb
        · rw [if_neg hsz] at hr
          exact hr.elim
      · rw [if_neg hc1] at hc
        rw [if_neg hc1]
        exact fin stA5 so5 tk5 ro5 sm5' hc
  · rintro H2 ⟨G2, Fs2, T, e2, acc, st, so2, tk2, ro, sm, hw⟩
    rw [List.drop_length] at hw
    have hw' : QQ (acc, e2) := hw
    -- the block's slots as they were
    obtain ⟨l1, g1⟩ := wipe_get' σ vs
    obtain ⟨l2, g2⟩ := backE_get e1 e2 vs
    have len2 : e2.length = e1.length := by rw [← so2.len, l1]; exact so1.len
    have hid : ∀ j ∈ vs, ∀ b ∈ Fs1 j, H2 b = H1 b ∧ G2 b = none ∧ (∀ l, b ∉ Fs2 l) ∧ b ∉ D :: T := fun j hj b hb => by
      have own := so1.own j b hb
      have nb : ∀ l, b ∉ minus Fs1 vs l := fun l z => by
        unfold minus at z
        split at z
        · cases z
        · rename_i hl
          exact hl ((so1.dj j l b hb z) ▸ hj)
      refine ⟨?_, ?_, fun l z => ?_, fun z => ?_⟩
      · cases e : H1 b with
        | none => exact absurd e own.2
        | some x => exact st.keep b x e nb
      · cases e : G2 b with
        | none => rfl
        | some x =>
          rcases st.gnew b x e with z | ⟨l, z⟩ | z
          · rw [own.1] at z; cases z
          · exact absurd z (nb l)
          · exact absurd z own.2
      · rcases st.fnew b (.inl ⟨l, z⟩) with ⟨m, q⟩ | q
        · exact nb m q
        · exact own.2 q
      · rcases st.fnew b (.inr z) with ⟨m, q⟩ | q
        · exact nb m q
        · exact own.2 q
    let Fs3 : Nat → Fp := fun j => if j ∈ vs then Fs1 j else Fs2 j
    have F3 : ∀ j b, b ∈ Fs3 j → (j ∈ vs ∧ b ∈ Fs1 j) ∨ (j ∉ vs ∧ b ∈ Fs2 j) := fun j b hb => by
      simp only [Fs3] at hb
      split at hb
      · rename_i h; exact .inl ⟨h, hb⟩
      · rename_i h; exact .inr ⟨h, hb⟩
    have st3 : Stp G1 H1 Fs1 G2 H2 Fs3 (D :: T) := by
      refine ⟨st.g, fun b x h hn => st.keep b x h fun i z => ?_, fun b x h => ?_, fun b h => ?_⟩
      · obtain ⟨l, q⟩ := minus_own (Fs := Fs1) (vs := vs) ⟨i, z⟩
        exact hn l q
      · rcases st.gnew b x h with z | z | z
        · exact .inl z
        · exact .inr (.inl (minus_own z))
        · exact .inr (.inr z)
      · rcases h with ⟨j, h⟩ | h
        · rcases F3 j b h with ⟨_, z⟩ | ⟨_, z⟩
          · exact .inl ⟨j, z⟩
          · exact (st.fnew b (.inl ⟨j, z⟩)).imp minus_own id
        · exact (st.fnew b (.inr h)).imp minus_own id
    refine hw' (.ref D) G2 H2 Fs3 (D :: T) (st1.trans0 st3) ⟨so2.sub, by rw [l2, len2]; exact so1.len, fun j o e => ?_, fun j => ?_, fun j l b hj hl => ?_, fun j b hb => ?_⟩ (fun j hj => ?_) ⟨tk2.nd, fun j b hb hj => ?_, tk2.own⟩ ro
    · rw [g2] at e
      simp only [Fs3]
      by_cases hj : j ∈ vs
      · simp only [hj, if_true] at e ⊢
        split at e
        · have e' : e1[j]? = some (some o) := by
            cases h : e1[j]? with
            | none => rw [h] at e; cases e
            | some o' => rw [h] at e; simpa using e
          obtain ⟨v, h1, h2⟩ := so1.at_ j o e'
          exact ⟨v, h1, RepO.keep st.g (fun b hb => (hid j hj b hb).1) h2⟩
        · cases e
      · simp only [hj, if_false] at e ⊢
        obtain ⟨v, h1, h2⟩ := so2.at_ j o e
        rw [g1] at h1
        simp only [hj, if_false] at h1
        exact ⟨v, h1, h2⟩
    · simp only [Fs3]
      split
      · exact so1.nd j
      · exact so2.nd j
    · rcases F3 j b hj with ⟨h1, z⟩ | ⟨h1, z⟩
      · rcases F3 l b hl with ⟨h2, q⟩ | ⟨h2, q⟩
        · exact so1.dj j l b z q
        · exact absurd q ((hid j h1 b z).2.2.1 l)
      · rcases F3 l b hl with ⟨h2, q⟩ | ⟨h2, q⟩
        · exact absurd z ((hid l h2 b q).2.2.1 j)
        · exact so2.dj j l b z q
    · rcases F3 j b hb with ⟨h1, z⟩ | ⟨h1, z⟩
      · obtain ⟨a1, a2, _⟩ := hid j h1 b z
        exact ⟨a2, by rw [a1]; exact (so1.own j b z).2⟩
      · exact so2.own j b z
    · simp only [Bool.or_eq_false_iff, decide_eq_false_iff_not] at hj
      obtain ⟨f0, k0, e0⟩ := sm1 j hj.1
      obtain ⟨f1, k1, e1'⟩ := sm j (by simp [hj.2.1, hj.2.2.1, hj.2.2.2])
      have hm : minus Fs1 vs j = Fs1 j := by unfold minus; simp [hj.2.2.2]
      rw [hm] at f1 k1
      refine ⟨by simp only [Fs3, hj.2.2.2, if_false]; exact f1.trans f0, fun b hb => (k1 b (by rw [f0]; exact hb)).trans (k0 b hb), ?_⟩
      rw [g2]
      simp only [hj.2.2.2, if_false]
      rw [e1', (wipeE_get e1 vs).2]
      simp only [hj.2.2.2, if_false]
      exact e0
    · rcases F3 j b hj with ⟨h1, z⟩ | ⟨h1, z⟩
      · exact (hid j h1 b z).2.2.2 hb
      · exact tk2.dj j b hb z
end
end Fz
end

section -- Fz13
namespace Fz
open PySem L2 RZ

/-! ### a comprehension of the text -/
def notSet : Expr → Bool
  | .Set .. => false
  | _ => true
theorem folded_of {e : Expr} {env : Env} (h : notSet e = true) : ∀ x, foldedSetIterable e env x = pure x := by
  intro x
  cases e <;> first | rfl | cases h
abbrev Ctx4 := Shared × Hp × Addr × List (Str × Addr) × List Addr
abbrev blkOf (X : Cx) (scope : Scope) (c : Ctx4) : Cx := X.blk c.1 c.2.1 scope (compEnvC scope c.2.2.2.1 c.2.2.1 X.env) c.2.2.2.2
section
variable {X : Cx} {A : Tab} {W : WX} {occ occ1 occ2 occ3 : Nat → Bool} {pos : Pos} {elt tg iter : Expr} {ifs : List Expr} {scope : Scope} {own : List (Str × Nat)} {g : TG} {as : List Nat} {ftg : D → En → Option En} {fi : En → Res (List D × En)} {fc : En → Res (Bool × En)} {fe : En → Res (B × En)}
/-- the tests of a clause -/
def ExIfs (X : Cx) (A : Tab) (occ : Nat → Bool) (ifs : List Expr) (f : En → Res (Bool × En)) : Prop := ∃ t, PTs X ifs t ∧ SemT X.K A W0 occ t f
theorem ifs_nil : ExIfs X A occ [] yesT := ⟨_, pts_nil, fun G H σ env Fs Q so h => h G H Fs .refl so .refl⟩
theorem ifs_one {c : Expr} (h : ExT X A W0 occ c fc) : ExIfs X A occ [c] fc := let ⟨_, p, s⟩ := h; ⟨_, pts_one p, s⟩
theorem comp_parts (hg : ∀ c : Ctx4, PG (blkOf X scope c) tg g) (ht : ∀ c : Ctx4, ExIfs (blkOf X scope c) A occ2 ifs fc) (he : ∀ c : Ctx4, ExE (blkOf X scope c) A W0 occ3 elt fe) :
    ∃ tt te, (∀ (s : Shared) (H : Hp) (C : Addr) (cl : List (Str × Addr)) (fp : List Addr), PTs (X.blk s H scope (compEnvC scope cl C X.env) fp) ifs tt) ∧ (∀ (s : Shared) (H : Hp) (C : Addr) (cl : List (Str × Addr)) (fp : List Addr), PE (X.blk s H scope (compEnvC scope cl C X.env) fp) elt te) ∧
      SemT X.K A W0 occ2 tt fc ∧ SemE X.K A W0 occ3 te fe := by
  refine ⟨fun σ H Q => ∀ c : Ctx4, Classical.choose (ht c) σ H Q, fun σ H Q => ∀ c : Ctx4, Classical.choose (he c) σ H Q, fun s H C cl fp => ⟨fun pins s' σ H' Q I h => ?_⟩, fun s H C cl fp => ⟨fun pins s' σ H' Q I h => ?_⟩, fun G H σ env Fs Q so h c => ?_, fun G H σ env Fs Q so h c => ?_⟩
  · exact (Classical.choose_spec (ht (s, H, C, cl, fp))).1.run pins s' σ H' Q I (h (s, H, C, cl, fp))
  · exact (Classical.choose_spec (he (s, H, C, cl, fp))).1.run pins s' σ H' Q I (h (s, H, C, cl, fp))
  · exact (Classical.choose_spec (ht c)).2 G H σ env Fs Q so h
  · exact (Classical.choose_spec (he c)).2 G H σ env Fs Q so h
theorem ex_comp (hc : X.calm = true) (hN : X.N.Nodup) (ok : BlkOk X.N X.env.scope scope own) (hn : notSet iter = true) (hi : ExI X A W occ1 tg iter fi) (hg : ∀ c : Ctx4, PG (blkOf X scope c) tg g) (sg : SemG X.K A as g ftg) (has : ∀ i ∈ as, i ∈ own.map (·.2))
    (ht : ∀ c : Ctx4, ExIfs (blkOf X scope c) A occ2 ifs fc) (he : ∀ c : Ctx4, ExE (blkOf X scope c) A W0 occ3 elt fe) :
    ExE X A W (fun i => occ1 i || (occ2 i || (occ3 i || decide (i ∈ own.map (·.2))))) (.ListComp elt [⟨tg, iter, ifs, 0⟩] scope pos) (evComp (own.map (·.2)) ftg fi fc fe) := by
  obtain ⟨tt, te, h1, h2, h3, h4⟩ := comp_parts hg ht he
  obtain ⟨wi, pi, si⟩ := hi
  exact ⟨_, pe_lc hc hN pi ok (fun s H C cl fp => hg (s, H, C, cl, fp)) h1 h2 (folded_of hn), sem_comp si sg has h3 h4⟩
/-- y = [..] on one line, y a name that nobody captures -/
theorem es_setLc {y : Str} {i : Nat} {py spos : Pos} (hc : X.calm = true) (hN : X.N.Nodup) (hy : X.N[i]? = some y) (hyl : X.env.scope.names.lookup y = some .local) (hsw : swapsWith (.ListComp elt [⟨tg, iter, ifs, 0⟩] scope pos) (some (.Name y py)) spos.line X.env = pure true) (ok : BlkOk X.N X.env.scope scope own) (hn : notSet iter = true)
    (hi : ExI X A W occ1 tg iter fi) (hg : ∀ c : Ctx4, PG (blkOf X scope c) tg g) (sg : SemG X.K A as g ftg) (has : ∀ i ∈ as, i ∈ own.map (·.2)) (ht : ∀ c : Ctx4, ExIfs (blkOf X scope c) A occ2 ifs fc) (he : ∀ c : Ctx4, ExE (blkOf X scope c) A W0 occ3 elt fe) :
    ∃ te, PS X (.Assign [.Name y py] (.ListComp elt [⟨tg, iter, ifs, 0⟩] scope pos) spos) (tAsg te (gName i)) ∧ SemE X.K A W (fun i => occ1 i || (occ2 i || (occ3 i || decide (i ∈ own.map (·.2))))) te (evComp (own.map (·.2)) ftg fi fc fe) := by
  obtain ⟨tt, te, h1, h2, h3, h4⟩ := comp_parts hg ht he
  obtain ⟨wi, pi, si⟩ := hi
  exact ⟨_, ps_setLc hc hN hy hyl hsw pi ok (fun s H C cl fp => hg (s, H, C, cl, fp)) h1 h2 (folded_of hn), sem_comp si sg has h3 h4⟩
end

/-! ### a part's footprint is one -/
section
variable {K : PySem.W.Frag} {A : Tab} {G H : Hp}
mutual
theorem RepO.fp_inj : ∀ {o : O} {F F' : Fp} {v : V}, RepO K A G H o F v → RepO K A G H o F' v → F = F'
  | .val d, F, F', v, h, h' => h.1.trans h'.1.symm
  | .lst os, F, F', v, h, h' => by
    obtain ⟨a, xs, F0, e, q, rfl, r⟩ := h
    obtain ⟨a', xs', F0', e', q', rfl, r'⟩ := h'
    rw [e] at e'; cases e'
    rw [q] at q'; cases q'
    rw [RepOs.fp_inj r r']
  | .dct kvs, F, F', v, h, h' => by
    obtain ⟨a, F0, e, rfl, h⟩ := h
    obtain ⟨a', F0', e', rfl, h'⟩ := h'
    rw [e] at e'; cases e'
    rcases h with ⟨xs, q, r⟩ | ⟨xs, q, r⟩ <;> rcases h' with ⟨xs', q', r'⟩ | ⟨xs', q', r'⟩ <;> rw [q] at q' <;> cases q'
    · rw [RepOK1.fp_inj r r']
    · rw [RepOKT.fp_inj r r']
  | .ins c fs, F, F', v, h, h' => by
    obtain ⟨a, C, dx, xs, F0, e, hc, q, q2, rfl, r⟩ := h
    obtain ⟨a', C', dx', xs', F0', e', hc', q', q2', rfl, r'⟩ := h'
    rw [e] at e'; cases e'
    rw [q] at q'; cases q'
    rw [RepOFs.fp_inj r r']
theorem RepOs.fp_inj : ∀ {os : List O} {F F' : Fp} {vs : List V}, RepOs K A G H os F vs → RepOs K A G H os F' vs → F = F'
  | [], _, _, _, h, h' => h.1.trans h'.1.symm
  | o :: os, _, _, _, h, h' => by
    obtain ⟨F1, F2, x, xs, rfl, rfl, r1, r2⟩ := h
    obtain ⟨F1', F2', x', xs', rfl, e', r1', r2'⟩ := h'
    cases e'
    rw [RepO.fp_inj r1 r1', RepOs.fp_inj r2 r2']
theorem RepOK1.fp_inj : ∀ {os : List (D × O)} {F F' : Fp} {vs : List (Key × V)}, RepOK1 K A G H os F vs → RepOK1 K A G H os F' vs → F = F'
  | [], _, _, _, h, h' => h.1.trans h'.1.symm
  | (_, o) :: os, _, _, _, h, h' => by
    obtain ⟨F1, F2, q, x, xs, rfl, rfl, _, r1, r2⟩ := h
    obtain ⟨F1', F2', q', x', xs', rfl, e', _, r1', r2'⟩ := h'
    cases e'
    rw [RepO.fp_inj r1 r1', RepOK1.fp_inj r2 r2']
theorem RepOKT.fp_inj : ∀ {os : List (D × O)} {F F' : Fp} {vs : List (List Key × V)}, RepOKT K A G H os F vs → RepOKT K A G H os F' vs → F = F'
  | [], _, _, _, h, h' => h.1.trans h'.1.symm
  | (_, o) :: os, _, _, _, h, h' => by
    obtain ⟨F1, F2, q, x, xs, rfl, rfl, _, r1, r2⟩ := h
    obtain ⟨F1', F2', q', x', xs', rfl, e', _, r1', r2'⟩ := h'
    cases e'
    rw [RepO.fp_inj r1 r1', RepOKT.fp_inj r2 r2']
theorem RepOFs.fp_inj : ∀ {os : List (Str × O)} {F F' : Fp} {vs : List (Str × V)}, RepOFs K A G H os F vs → RepOFs K A G H os F' vs → F = F'
  | [], _, _, _, h, h' => h.1.trans h'.1.symm
  | (_, o) :: os, _, _, _, h, h' => by
    obtain ⟨F1, F2, x, xs, rfl, rfl, r1, r2⟩ := h
    obtain ⟨F1', F2', x', xs', rfl, e', r1', r2'⟩ := h'
    cases e'
    rw [RepO.fp_inj r1 r1', RepOFs.fp_inj r2 r2']
end
end
/-! ### an owned part is changed in its place -/
/-- a step that takes the temporary part T along -/
structure StpT (G H : Hp) (Fs : Nat → Fp) (T : Fp) (G' H' : Hp) (Fs' : Nat → Fp) : Prop where
  g : Sub G G'
  keep : ∀ b x, H b = some x → (∀ i, b ∉ Fs i) → b ∉ T → H' b = some x
  gnew : ∀ b x, G' b = some x → G b = some x ∨ ((∃ i, b ∈ Fs i) ∨ b ∈ T) ∨ H b = none
  fnew : ∀ b, (∃ i, b ∈ Fs' i) → ((∃ i, b ∈ Fs i) ∨ b ∈ T) ∨ H b = none
section
variable {K : PySem.W.Frag} {A : Tab} {G H : Hp} {σ : St} {env : En} {Fs : Nat → Fp}
theorem StpT.comp {G0 H0 G' H' : Hp} {Fs0 Fs' : Nat → Fp} {T : Fp} (a : Stp G0 H0 Fs0 G H Fs T) (b : StpT G H Fs T G' H' Fs') : Stp G0 H0 Fs0 G' H' Fs' [] := by
  refine ⟨fun c x h => b.g _ _ (a.g _ _ h), fun c x h hn => ?_, fun c x h => ?_, fun c h => ?_⟩
  · have no : ∀ {P : Prop}, (∃ i, c ∈ Fs0 i) ∨ H0 c = none → P := fun z => by
      rcases z with ⟨j, q⟩ | q
      · exact absurd q (hn j)
      · rw [h] at q; cases q
    exact b.keep c x (a.keep c x h hn) (fun i hi => no (a.fnew c (.inl ⟨i, hi⟩))) fun z => no (a.fnew c (.inr z))
  · rcases b.gnew c x h with q | (q | q) | q
    · exact a.gnew c x q
    · exact .inr (a.fnew c (.inl q))
    · exact .inr (a.fnew c (.inr q))
    · exact .inr (a.low c q)
  · rcases h with h | h
    · rcases b.fnew c h with (q | q) | q
      · exact a.fnew c (.inl q)
      · exact a.fnew c (.inr q)
      · exact a.low c q
    · cases h
theorem mutate {i : Nat} {p : List Sel} {v : V} {a : Addr} {o0 o1 o2 : O} {u : HO} {T : Fp} (so : StOk K A G H σ env Fs) (tk : TOk G H Fs T) (nk : NestOk K A G H σ env Fs i p v) (e0 : env[i]? = some (some o0)) (e1 : o0.follow p = some o1)
    (hnew : ∀ F', RepO K A G H o1 F' v → F'.Nodup → (∀ b ∈ F', b ∉ T) → a ∈ F' ∧ ∃ Fn, RepO K A G (upd H a u) o2 Fn v ∧ Fn.Nodup ∧ ∀ b ∈ Fn, b ∈ F' ∨ b ∈ T) :
    ∃ Fs', StOk K A G (upd H a u) σ (env.set i (some (o0.put p o2))) Fs' ∧ (∀ j, j ≠ i → Fs' j = Fs j ∧ ∀ b ∈ Fs j, upd H a u b = H b) ∧ StpT G H Fs T G (upd H a u) Fs' := by
  obtain ⟨o0', o1', F1, F', F2, ho, hf, hF, r, pu⟩ := nk
  rw [e0] at ho; cases ho
  rw [e1] at hf; cases hf
  have hi : i < env.length := (List.getElem?_eq_some_iff.mp e0).1
  obtain ⟨v0, hv0, _⟩ := so.at_ i o0 e0
  have nd := so.nd i
  rw [hF] at nd
  have nd' := nd
  rw [List.append_assoc] at nd'
  have n1 := List.nodup_append.mp nd'
  have n2 := List.nodup_append.mp n1.2.1
  have inF : ∀ b ∈ F', b ∈ Fs i := fun b hb => by rw [hF]; simp [hb]
  have dT : ∀ b ∈ F', b ∉ T := fun b hb z => tk.dj i b z (inF b hb)
  obtain ⟨ha, Fn, rn, ndn, hn⟩ := hnew F' r n2.1 dT
  have haI := inF a ha
  have hgA := (so.own i a haI).1
  have kO : ∀ b, b ≠ a → upd H a u b = H b := fun b hb => upd_ne hb
  have keepF : ∀ b ∈ F1 ++ F2, upd H a u b = H b := fun b hb => kO b fun z => by
    subst z
    rcases List.mem_append.mp hb with q | q
    · exact n1.2.2 b q b (by simp [ha]) rfl
    · exact n2.2.2 b ha b q rfl
  have r' := pu (G2 := G) (H2 := upd H a u) (Fn := Fn) (o2 := o2) (fun _ _ h => h) keepF rn v0 hv0
  have ndA : (F1 ++ Fn ++ F2).Nodup := by
    have d1 : ∀ x ∈ F1, x ∉ Fn := fun x hx z => by
      rcases hn x z with q | q
      · exact n1.2.2 x hx x (by simp [q]) rfl
      · exact tk.dj i x q (by rw [hF]; simp [hx])
    have d2 : ∀ x ∈ Fn, x ∉ F2 := fun x hx z => by
      rcases hn x hx with q | q
      · exact n2.2.2 x q x z rfl
      · exact tk.dj i x q (by rw [hF]; simp [z])
    rw [List.append_assoc]
    refine List.nodup_append.mpr ⟨n1.1, List.nodup_append.mpr ⟨ndn, n2.2.1, fun x hx y hy e => d2 x hx (e ▸ hy)⟩, fun x hx y hy e => ?_⟩
    subst e
    rcases List.mem_append.mp hy with q | q
    · exact d1 x hx q
    · exact n1.2.2 x hx x (by simp [q]) rfl
  have inA : ∀ b ∈ F1 ++ Fn ++ F2, b ∈ Fs i ∨ b ∈ T := fun b hb => by
    simp only [List.mem_append] at hb
    rcases hb with (q | q) | q
    · exact .inl (by rw [hF]; simp [q])
    · exact (hn b q).imp (inF b) id
    · exact .inl (by rw [hF]; simp [q])
  have djj : ∀ j b, j ≠ i → b ∈ Fs j → b ∉ F1 ++ Fn ++ F2 := fun j b hj hb z => by
    rcases inA b z with q | q
    · exact hj (so.dj j i b hb q)
    · exact tk.dj j b q hb
  have keepJ : ∀ j, j ≠ i → ∀ b ∈ Fs j, upd H a u b = H b := fun j hj b hb => kO b fun z => hj (so.dj j i b hb (z ▸ haI))
  have own' : ∀ b, G b = none ∧ H b ≠ none → G b = none ∧ upd H a u b ≠ none := fun b hb => by
    refine ⟨hb.1, ?_⟩
    by_cases hba : b = a
    · subst hba; rw [upd_same]; simp
    · rw [upd_ne hba]; exact hb.2
  refine ⟨upf Fs i (F1 ++ Fn ++ F2), ⟨fun b o e => ?_, by rw [List.length_set]; exact so.len, fun j o' e => ?_, fun j => ?_, fun j l b hj hl => ?_, fun j b hb => ?_⟩, fun j hj => ⟨upf_ne hj, keepJ j hj⟩, ⟨fun _ _ h => h, fun b x h hn' ht => ?_, fun b x h => .inl h, fun b h => ?_⟩⟩
  · rw [kO b (fun z => by rw [z, hgA] at e; cases e)]
    exact so.sub _ _ e
  · by_cases hj : j = i
    · subst hj
      rw [List.getElem?_set_self hi] at e
      cases e
      exact ⟨v0, hv0, by rw [upf_same]; exact r'⟩
    · rw [List.getElem?_set_ne (Ne.symm hj)] at e
      obtain ⟨w, h1, h2⟩ := so.at_ j o' e
      exact ⟨w, h1, by rw [upf_ne hj]; exact RepO.keep (fun _ _ h => h) (keepJ j hj) h2⟩
  · by_cases hj : j = i
    · subst hj; rw [upf_same]; exact ndA
    · rw [upf_ne hj]; exact so.nd j
  · by_cases h1 : j = i
    · by_cases h2 : l = i
      · rw [h1, h2]
      · rw [h1, upf_same] at hj
        rw [upf_ne h2] at hl
        exact absurd hj (djj l b h2 hl)
    · rw [upf_ne h1] at hj
      by_cases h2 : l = i
      · rw [h2, upf_same] at hl
        exact absurd hl (djj j b h1 hj)
      · rw [upf_ne h2] at hl
        exact so.dj j l b hj hl
  · by_cases hj : j = i
    · subst hj
      rw [upf_same] at hb
      rcases inA b hb with q | q
      · exact own' b (so.own j b q)
      · exact own' b (tk.own b q)
    · rw [upf_ne hj] at hb
      exact own' b (so.own j b hb)
  · rw [kO b (fun z => hn' i (z ▸ haI))]
    exact h
  · obtain ⟨j, h⟩ := h
    by_cases hj : j = i
    · subst hj
      rw [upf_same] at h
      exact .inl ((inA b h).imp (fun q => ⟨j, q⟩) id)
    · rw [upf_ne hj] at h
      exact .inl (.inl ⟨j, h⟩)
end
end Fz
end

section -- Fz14
namespace Fz
open PySem L2 RZ

/-! ### methods that change a list in its place -/
def place : B → Option (Nat × List Sel)
  | .slot i => some (i, [])
  | .nest i p => some (i, p)
  | .tmp _ => none
/-- the list at an answer's place -/
def lstAt (env : En) (b : B) : Option (Nat × List Sel × O × List O) := match place b with
  | some (i, p) => match env[i]? with
    | some (some o) => match o.follow p with
      | some (.lst os) => some (i, p, o, os)
      | _ => none
    | _ => none
  | none => none
section
variable {K : PySem.W.Frag} {A : Tab} {G H : Hp} {σ : St} {env : En} {Fs : Nat → Fp}
theorem lstAt_ok {T : Fp} {v : V} {b : B} {i : Nat} {p : List Sel} {o : O} {os : List O} (so : StOk K A G H σ env Fs) (h : BorOk K A G H σ env Fs T v b) (e : lstAt env b = some (i, p, o, os)) :
    NestOk K A G H σ env Fs i p v ∧ env[i]? = some (some o) ∧ o.follow p = some (.lst os) ∧ ∃ a vs, v = .ref a ∧ H a = some (.lst vs) ∧ vs.length = os.length := by
  unfold lstAt at e
  split at e
  · rename_i i' p' hp
    split at e
    · rename_i o' ho
      split at e
      · rename_i os' hf
        cases e
        have nk : NestOk K A G H σ env Fs i p v := by
          cases b with
          | slot j => cases hp; exact nest_nil so ho h.2
          | nest j q => cases hp; exact h.2
          | tmp _ => cases hp
        refine ⟨nk, ho, hf, ?_⟩
        obtain ⟨o1, o2, F1, F', F2, e1, e2, _, r, _⟩ := nk
        rw [ho] at e1; cases e1
        rw [hf] at e2; cases e2
        obtain ⟨a, vs, F0, ea, q, _, rs⟩ := r
        exact ⟨a, vs, ea, q, rs.len.symm⟩
      · cases e
    · cases e
  · cases e
theorem lst_ty {T : Fp} {v : V} {b : B} {x : Nat × List Sel × O × List O} (so : StOk K A G H σ env Fs) (h : BorOk K A G H σ env Fs T v b) (e : lstAt env b = some x) : tyV K "list" v H := by
  obtain ⟨i, p, o, os⟩ := x
  obtain ⟨_, _, _, a, vs, rfl, q, _⟩ := lstAt_ok so h e
  exact .inl ⟨rfl, vs, SqL.of q⟩
end
/-- os: the list as it stood; the things handed in; the list behind it -/
def evMut (occa : Nat → Bool) (fr : En → Res (B × En)) (fs : En → Res (List B × En)) (g : List O → List O → Option (List O × D)) : En → Res (B × En) := fun env =>
  (fr env).bind fun r => (Res.ofO (lstAt r.2 r.1)).bind fun _ => (fs r.2).bind fun q => (Res.ofO (tks q.2 q.1)).bind fun t =>
    if stable occa r.1 = true then (Res.ofO (lstAt t.2 r.1)).bind fun x => (Res.ofO (g x.2.2.2 t.1)).bind fun y => .ok (.tmp (.val y.2), t.2.set x.1 (some (x.2.2.1.put x.2.1 (.lst y.1)))) else .stuck
def appG (os : List O) : List O → Option (List O × D)
  | [o] => if os.length < sizeLine then some (os ++ [o], .non) else none
  | _ => none
def extG (os : List O) : List O → Option (List O × D)
  | [.lst zs] => if os.length + zs.length ≤ sizeLine then some (os ++ zs, .non) else none
  | [.val (.lst ds)] => if os.length + ds.length ≤ sizeLine then some (os ++ ds.map .val, .non) else none
  | _ => none
def popG (os : List O) : List O → Option (List O × D)
  | [.val (.int k)] => if -(2 ^ 63) ≤ k ∧ k < 2 ^ 63 then match ixN os.length k with
      | some j => match os[j]? with
        | some (.val d) => some (os.eraseIdx j, d)
        | _ => none
      | none => none
    else none
  | _ => none
section
variable {X : Cx} {A : Tab} {W : WX} {occ occ1 occ2 occ3 : Nat → Bool} {pos apos : Pos} {o e : Expr} {es : List Expr} {fa fr : En → Res (B × En)} {fs : En → Res (List B × En)}
/-- what a changing method's reading must do -/
def MutOk (K : PySem.W.Frag) (A : Tab) (r : V → List V → Hp → VK → Prop) (g : List O → List O → Option (List O × D)) : Prop :=
  ∀ (G H : Hp) (a : Addr) (vs ws : List V) (os zs os' : List O) (F T : Fp) (d : D) (Q : VK), Sub G H → H a = some (.lst vs) → RepOs K A G H os F vs → RepOs K A G H zs T ws → a ∉ F → a ∉ T → F.Nodup → T.Nodup → (∀ b ∈ F, b ∉ T) → g os zs = some (os', d) →
    (∀ w vs' Fn, RepD K A G d w → RepOs K A G (upd H a (.lst vs')) os' Fn vs' → Fn.Nodup → a ∉ Fn → (∀ b ∈ Fn, b ∈ F ∨ b ∈ T) → Q w (upd H a (.lst vs'))) → r (.ref a) ws H Q
theorem sem_mut {ta : TE} {t : TA} {r : V → List V → Hp → VK → Prop} {g : List O → List O → Option (List O × D)} (h1 : SemE X.K A W occ1 ta fr) (h2 : SemA X.K A W occ2 t fs) (hm : MutOk X.K A r g) :
    SemE X.K A W (fun i => occ1 i || occ2 i) (tBM X.K "list" r ta t) (evMut occ2 fr fs g) := by
  intro G H σ env Fs Q so hq
  unfold evMut at hq
  rw [Res.wp_bind] at hq
  refine h1 G H σ env Fs _ so (Res.wp_mono hq (fun rr hr v G1 H1 Fs1 T1 s1 s2 s3 s4 s5 s6 => ?_) fun c e he G' H' Fs' C d a1 a2 a3 => he G' H' Fs' C d a1 a2 (a3.mono fun i hi => by simp at hi; exact hi.1))
  rw [Res.wp_bind] at hr
  obtain ⟨x0, ex0, hr⟩ := Res.wp_ofO hr
  refine ⟨lst_ty s2 s5 ex0, ?_⟩
  have s1' : Stp G H Fs G1 H1 Fs1 [] := s1.drop (by simp)
  have hT1 : T1 = [] := by
    cases hb : rr.1 with
    | slot i => rw [hb] at s5; exact s5.1
    | nest i p => rw [hb] at s5; exact s5.1
    | tmp o =>
      rw [hb] at ex0
      unfold lstAt place at ex0
      cases ex0
  subst hT1
  rw [Res.wp_bind] at hr
  refine h2 G1 H1 σ rr.2 Fs1 _ s2 (Res.wp_mono hr (fun q hq2 ws G2 H2 Fs2 T2 b1 b2 b3 b4 b5 b6 => ?_) fun c e he G' H' Fs' C d a1 a2 a3 => he G' H' Fs' C d (s1'.trans0 a1) a2 (s3.trans a3))
  rw [Res.wp_bind] at hq2
  obtain ⟨tt, et, hq2⟩ := Res.wp_ofO hq2
  by_cases hst : stable occ2 rr.1 = true
  · rw [if_pos hst] at hq2
    rw [Res.wp_bind] at hq2
    obtain ⟨x, ex, hq2⟩ := Res.wp_ofO hq2
    rw [Res.wp_bind] at hq2
    obtain ⟨y, ey, hq2⟩ := Res.wp_ofO hq2
    obtain ⟨G3, Fs3, T3, c1, c2, c3, c4, c5, far⟩ := tks_ok b2 b4 b5 et
    have b1' : Stp G1 H1 Fs1 G2 H2 Fs2 [] := b1.drop (by simp)
    have sm3 : Same' occ2 H2 q.2 Fs2 H2 tt.2 Fs3 := fun i hi => by
      obtain ⟨f, e⟩ := far i (bin_tou b6 hi)
      exact ⟨f, fun _ _ => rfl, e⟩
    have bo2 := s5.step b1 b2 b3 hst (by simp) s2
    have bo3 : BorOk X.K A G3 H2 σ tt.2 Fs3 [] v rr.1 := bo2.step c1 c2 sm3 hst (by simp) b2
    obtain ⟨i, p, oo, os⟩ := x
    obtain ⟨nk, e0, e1, a, vs, rfl, hHa, hl⟩ := lstAt_ok c2 bo3 ex
    have stA : Stp G H Fs G3 H2 Fs3 T3 := by
      have h1 : Stp G1 H1 Fs1 G3 H2 Fs3 T3 := (b1.trans b4 c1).drop fun b hb => by simp [c5.subset hb]
      exact s1'.trans0 h1
    have smA : Same' (fun i => occ1 i || occ2 i) H env Fs H2 tt.2 Fs3 := (s3.trans (b3.trans sm3)).mono fun i hi => by simp at hi ⊢; exact hi
    -- the list and its parts
    obtain ⟨oo', o1', F1, F', F2, ho, hf, hF, ro, _⟩ := id nk
    rw [e0] at ho; cases ho
    rw [e1] at hf; cases hf
    obtain ⟨a', vs', F0, ea, hHa', rfl, ros⟩ := id ro
    cases ea
    rw [hHa] at hHa'; cases hHa'
    have ndF : (a :: F0).Nodup := by
      have := c2.nd i
      rw [hF, List.append_assoc] at this
      exact (List.nodup_append.mp (List.nodup_append.mp this).2.1).1
    have djT : ∀ b ∈ a :: F0, b ∉ T3 := fun b hb z => c3.dj i b z (by rw [hF]; simp only [List.mem_append]; exact .inl (.inr hb))
    refine hm G3 H2 a vs ws os tt.1 y.1 F0 T3 y.2 Q c2.sub hHa ros c4 (List.nodup_cons.mp ndF).1 (djT a (by simp)) (List.nodup_cons.mp ndF).2 c3.nd (fun b hb => djT b (by simp [hb])) ey fun w vs2 Fn rd rn ndn na hn => ?_
    obtain ⟨Fs4, so4, far4, st4⟩ := mutate (u := .lst vs2) (o2 := .lst y.1) (T := T3) c2 c3 nk e0 e1 fun F'' r'' nd'' dj'' => by
      obtain ⟨a2, vs3, F3, ea2, h2, rfl, r3⟩ := r''
      cases ea2
      rw [hHa] at h2; cases h2
      have eF : F3 = F0 := by
        have := RepOs.fp_inj r3 ros
        exact this
      subst eF
      exact ⟨by simp, a :: Fn, ⟨a, vs2, Fn, rfl, upd_same, rfl, rn⟩, List.nodup_cons.mpr ⟨na, ndn⟩, fun b hb => by
        rcases List.mem_cons.mp hb with z | z
        · exact .inl (by simp [z])
        · exact (hn b z).imp (fun q => by simp [q]) id⟩
    refine hq2 w G3 (upd H2 a (.lst vs2)) Fs4 [] (st4.comp stA) so4 (fun j hj => ?_) .nil ⟨rfl, rd⟩ trivial
    obtain ⟨f1, k1, g1⟩ := smA j hj
    have hji : j ≠ i := fun z => by
      subst z
      have : occ1 j = true := by
        unfold lstAt at ex
        cases hb : rr.1 with
        | slot l =>
          rw [hb] at ex s6
          have : l = j := by
            simp only [place] at ex
            split at ex
            · split at ex
              · cases ex; rfl
              · cases ex
            · cases ex
          subst this
          exact s6
        | nest l q =>
          rw [hb] at ex s6
          have : l = j := by
            simp only [place] at ex
            split at ex
            · split at ex
              · cases ex; rfl
              · cases ex
            · cases ex
          subst this
          exact s6
        | tmp o => rw [hb] at ex; simp [place] at ex
      simp [this] at hj
    obtain ⟨f2, k2⟩ := far4 j hji
    exact ⟨f2.trans f1, fun b hb => (k2 b (by rw [f1]; exact hb)).trans (k1 b hb), (List.getElem?_set_ne (Ne.symm hji)).trans g1⟩
  · rw [if_neg hst] at hq2
    exact hq2.elim
end
section
variable {K : PySem.W.Frag} {A : Tab} {G H : Hp}
theorem RepOs.append {os2 : List O} {T2 : Fp} {ws : List V} : ∀ {os : List O} {T : Fp} {vs : List V}, RepOs K A G H os T vs → RepOs K A G H os2 T2 ws → RepOs K A G H (os ++ os2) (T ++ T2) (vs ++ ws)
  | [], T, vs, h, r => by
    obtain ⟨rfl, rfl⟩ := h
    exact r
  | o' :: os, T, vs, h, r => by
    obtain ⟨F1, F2, x, xs, rfl, rfl, h1, h2⟩ := h
    exact ⟨F1, F2 ++ T2, x, xs ++ ws, by simp, rfl, h1, RepOs.append h2 r⟩
theorem RepOs.erase : ∀ {os : List O} {T : Fp} {vs : List V} {j : Nat} {d : D}, RepOs K A G H os T vs → os[j]? = some (.val d) → RepOs K A G H (os.eraseIdx j) T (vs.eraseIdx j) ∧ ∃ v, vs[j]? = some v ∧ RepD K A G d v
  | [], _, _, _, _, _, e => by simp at e
  | o :: os, T, vs, 0, d, h, e => by
    obtain ⟨F1, F2, x, xs, rfl, rfl, h1, h2⟩ := h
    simp at e; subst e
    obtain ⟨rfl, r⟩ := h1
    exact ⟨by simpa using h2, x, rfl, r⟩
  | o :: os, T, vs, j + 1, d, h, e => by
    obtain ⟨F1, F2, x, xs, rfl, rfl, h1, h2⟩ := h
    simp at e
    obtain ⟨r1, v, hv, rv⟩ := RepOs.erase h2 e
    exact ⟨⟨F1, F2, x, _, rfl, by simp, h1, r1⟩, v, by simpa using hv, rv⟩
theorem RepOs.at_upd {os : List O} {T : Fp} {vs : List V} {a : Addr} {u : HO} (h : RepOs K A G H os T vs) (na : a ∉ T) : RepOs K A G (upd H a u) os T vs := RepOs.keep (fun _ _ h => h) (fun b hb => upd_ne (fun z : b = a => na (by rw [← z]; exact hb))) h
theorem mut_append : MutOk K A rAppend appG := by
  intro G H a vs ws os zs os' F T d Q s hH ros rzs na nt ndF ndT dj e k
  match zs, e with
  | [o], e =>
    simp only [appG] at e
    split at e
    · rename_i hl
      cases e
      obtain ⟨F1, F2, y, ys, rfl, rfl, r1, r2, rfl⟩ := rzs
      subst r2
      rw [List.append_nil] at nt ndT dj k
      have hl' : vs.length < sizeLine := by rw [← ros.len]; exact hl
      refine ⟨a, vs, y, rfl, rfl, hH, hl', k .non _ (F ++ F1) rfl (RepOs.snoc (ros.at_upd na) (RepO.keep (fun _ _ h => h) (fun b hb => upd_ne (fun z : b = a => nt (by rw [← z]; exact hb))) r1)) ?_ ?_ fun b hb => List.mem_append.mp hb⟩
      · exact List.nodup_append.mpr ⟨ndF, ndT, fun x hx y hy e => dj x hx (e ▸ hy)⟩
      · intro z
        rcases List.mem_append.mp z with z | z
        · exact na z
        · exact nt z
    · cases e
theorem mut_extend : MutOk K A rExtend extG := by
  intro G H a vs ws os zs os' F T d Q s hH ros rzs na nt ndF ndT dj e k
  match zs, e with
  | [.lst zs], e =>
    simp only [extG] at e
    split at e
    · rename_i hl
      cases e
      obtain ⟨F1, F2, y, ys, rfl, rfl, ⟨b, xs, F0, rfl, hb, rfl, r1⟩, r2, rfl⟩ := rzs
      subst r2
      have nt' : a ∉ F0 := fun z => nt (by simp [z])
      refine ⟨a, b, vs, xs, rfl, rfl, hH, hb, by rw [← ros.len, ← r1.len]; exact hl, k .non _ (F ++ F0) rfl (RepOs.append (ros.at_upd na) (r1.at_upd nt')) ?_ ?_ fun c hc => (List.mem_append.mp hc).imp id fun z => by simp [z]⟩
      · have : F0.Nodup := by
          rw [List.append_nil] at ndT
          exact (List.nodup_cons.mp ndT).2
        exact List.nodup_append.mpr ⟨ndF, this, fun x hx y hy e => dj x hx (by simp [e, hy])⟩
      · intro z
        rcases List.mem_append.mp z with z | z
        · exact na z
        · exact nt' z
    · cases e
  | [.val (.lst ds)], e =>
    simp only [extG] at e
    split at e
    · rename_i hl
      cases e
      obtain ⟨F1, F2, y, ys, rfl, rfl, ⟨rfl, b, xs, rfl, hb, r1⟩, r2, rfl⟩ := rzs
      subst r2
      have r1' := RepDs.vals (H := H) r1
      refine ⟨a, b, vs, xs, rfl, rfl, hH, s _ _ hb, by rw [← ros.len, ← r1.length]; exact hl, k .non _ (F ++ []) rfl (RepOs.append (ros.at_upd na) (r1'.at_upd (by simp))) (by simpa using ndF) (by simpa using na) fun c hc => .inl (by simpa using hc)⟩
    · cases e
theorem ix_of {n : Nat} {k : Int} {j : Nat} (h : ixN n k = some j) : seqIndex? k n = some j := by
  have e : atI (List.range n) k = some j := by
    unfold atI
    rw [List.length_range, h]
    have : j < n := by
      unfold ixN at h
      split at h
      · split at h
        · cases h; omega
        · cases h
      · split at h
        · cases h; omega
        · cases h
    simp [this]
  obtain ⟨j', h1, h2, h3, h4, h5⟩ := atI_get e
  rw [List.length_range] at h1 h3
  rw [List.getElem?_range h3] at h2
  rw [h1, ← Option.some.inj h2]
theorem mut_popAt : MutOk K A rPopAt popG := by
  intro G H a vs ws os zs os' F T d Q s hH ros rzs na nt ndF ndT dj e k
  match zs, e with
  | [.val (.int i)], e =>
    simp only [popG] at e
    split at e
    · rename_i hb
      split at e
      · rename_i j hj
        split at e
        · rename_i d' hd
          cases e
          obtain ⟨F1, F2, y, ys, rfl, rfl, ⟨rfl, r1⟩, r2, rfl⟩ := rzs
          subst r2
          cases r1
          obtain ⟨r3, v, hv, rv⟩ := RepOs.erase ros hd
          exact ⟨a, vs, i, j, v, rfl, rfl, hH, hb.1, hb.2, ix_of (by rw [← ros.len]; exact hj), hv, k v _ F rv (r3.at_upd na) ndF na fun b hb => .inl hb⟩
        · cases e
      · cases e
    · cases e
end
section
variable {X : Cx} {A : Tab} {W : WX} {occ occ1 occ2 occ3 : Nat → Bool} {pos apos : Pos} {o e : Expr} {es : List Expr} {fa fr : En → Res (B × En)} {fs : En → Res (List B × En)}
theorem key_nil (env : Env) (pos : Pos) : keywordEach [] env = [] := rfl
theorem few_of {env : Env} {cpos : Pos} {e : Expr} {es : List Expr} (h : (e :: es).all notStar = true) (hl : (e :: es).length < 30) :
    ((backTo cpos (starEach (e :: es) env)).all (fun x => !x.1) && (backToKw cpos (keywordEach [] env)).all (fun x => x.1.isSome) && decide ((e :: es).length + ([] : List Keyword).length + (if ([] : List Keyword).isEmpty then 0 else 1) < 30)) = true := by
  rw [star_all h]
  simp [keywordEach, backToKw] at hl ⊢
  omega
/-- o.m(e, ..), m a built-in's method, by its reading -/
theorem pe_bmO {T id : String} {name : Str} {to : TE} {t : TA} {r : V → List V → Hp → VK → Prop} (pa : PlainAttrs T) (slot : Slot T name id) (hty : typeOf (.builtin id) = pure (.type "method_descriptor")) (hm : MtR X id r) (ho : PE X o to) (ha : PA X (e :: es) t) (hc : notCall0 o = true) (hs : (e :: es).all notStar = true) (hl : (e :: es).length < 30) (hline : (apos.endLine == pos.line) = true) :
    PE X (.Call (.Attribute o name apos) (e :: es) [] pos) (tBM X.K T r to t) := by
  have hs' := hs
  simp only [List.all_cons, Bool.and_eq_true] at hs'
  exact pe_bm pa slot hty hm ho ha (attr_base hc) (few_of hs hl) hline (star_cons hs'.1) (star_any hs'.2)
theorem ex_mut {id : String} {name : Str} {r : V → List V → Hp → VK → Prop} {g : List O → List O → Option (List O × D)} (slot : Slot "list" name id) (hty : typeOf (.builtin id) = pure (.type "method_descriptor")) (hm : MtM X id r) (mk : MutOk X.K A r g) (h1 : ExE X A W occ1 o fr) (h2 : ExA X A W occ2 (e :: es) fs) (hc : notCall0 o = true) (hs : (e :: es).all notStar = true) (hl : (e :: es).length < 30) (hline : (apos.endLine == pos.line) = true) :
    ExE X A W (fun i => occ1 i || occ2 i) (.Call (.Attribute o name apos) (e :: es) [] pos) (evMut occ2 fr fs g) := by
  obtain ⟨_, p1, s1⟩ := h1
  obtain ⟨_, p2, s2⟩ := h2
  exact ⟨_, pe_bmO PySem.F.plainAttrs_list slot hty hm p1 p2 hc hs hl hline, sem_mut s1 s2 mk⟩
inductive Lm where
  | append | extend | pop
def Lm.name : Lm → Str
  | .append => "append" | .extend => "extend" | .pop => "pop"
def Lm.g : Lm → List O → List O → Option (List O × D)
  | .append => appG | .extend => extG | .pop => popG
theorem ex_lm (m : Lm) (h1 : ExE X A W occ1 o fr) (h2 : ExA X A W occ2 (e :: es) fs) (hc : notCall0 o = true) (hs : (e :: es).all notStar = true) (hl : (e :: es).length < 30) (hline : (apos.endLine == pos.line) = true) :
    ExE X A W (fun i => occ1 i || occ2 i) (.Call (.Attribute o m.name apos) (e :: es) [] pos) (evMut occ2 fr fs m.g) := by
  cases m
  · exact ex_mut PySem.F.slot_list_append PySem.F.type_list_append mt_append mut_append h1 h2 hc hs hl hline
  · exact ex_mut PySem.F.slot_list_extend PySem.F.type_list_extend mt_extend mut_extend h1 h2 hc hs hl hline
  · exact ex_mut PySem.F.slot_list_pop PySem.F.type_list_pop mt_popAt mut_popAt h1 h2 hc hs hl hline
end
end Fz
end

section -- Fz15
namespace Fz
open PySem L2 RZ

/-! ### statements -/
inductive Fl where
  | nx | bk | ct
  | rt (o : O)
def EndOk (K : PySem.W.Frag) (A : Tab) (G H : Hp) (σ : St) (T : Fp) (D : Ends) : Fl → Prop
  | .nx => D.nx σ H
  | .bk => D.bk σ H
  | .ct => D.ct σ H
  | .rt o => ∀ v, RepO K A G H o T v → D.rt v H
def agree (asg : Nat → Bool) (σ σ' : St) : Prop := ∀ j, asg j = false → σ'[j]? = σ[j]?
theorem agree.refl {asg : Nat → Bool} {σ : St} : agree asg σ σ := fun _ _ => rfl
theorem agree.trans {a1 a2 : Nat → Bool} {σ σ1 σ2 : St} (h1 : agree a1 σ σ1) (h2 : agree a2 σ1 σ2) : agree (fun i => a1 i || a2 i) σ σ2 := fun j hj => by
  simp only [Bool.or_eq_false_iff] at hj
  exact (h2 j hj.2).trans (h1 j hj.1)
theorem agree.mono {a1 a2 : Nat → Bool} {σ σ1 : St} (h1 : agree a1 σ σ1) (h : ∀ i, a2 i = false → a1 i = false) : agree a2 σ σ1 := fun j hj => h1 j (h j hj)
def SemS (K : PySem.W.Frag) (A : Tab) (W : WX) (asg : Nat → Bool) (t : TS) (f : En → Res (Fl × En)) : Prop :=
  ∀ (G H : Hp) (σ : St) (env : En) (Fs : Nat → Fp) (D : Ends), StOk K A G H σ env Fs →
    (f env).wp (fun r => ∀ σ' G' H' Fs' T, Stp G H Fs G' H' Fs' T → StOk K A G' H' σ' r.2 Fs' → agree asg σ σ' → TOk G' H' Fs' T → EndOk K A G' H' σ' T D r.1)
      (fun c env' => ∀ σ' G' H' Fs' C d, Stp G H Fs G' H' Fs' [] → StOk K A G' H' σ' env' Fs' → agree asg σ σ' → A.cls c = some C → W (.ref C) d σ' H') → t D σ H
def ExS (X : Cx) (A : Tab) (W : WX) (asg : Nat → Bool) (st : Stmt) (f : En → Res (Fl × En)) : Prop := ∃ t, PS X st t ∧ SemS X.K A W asg t f
def ExSs (X : Cx) (A : Tab) (W : WX) (asg : Nat → Bool) (st : List Stmt) (f : En → Res (Fl × En)) : Prop := ∃ t, PSs X st t ∧ SemS X.K A W asg t f

/-- an exception's class is what is wanted of it: what happens to the slots alone does not matter -/
def WIn (W : WX) : Prop := True

def flNx : En → Res (Fl × En) := fun env => .ok (.nx, env)
def flBk : En → Res (Fl × En) := fun env => .ok (.bk, env)
def flSeq (f g : En → Res (Fl × En)) : En → Res (Fl × En) := fun env => (f env).bind fun r => match r.1 with
  | .nx => g r.2
  | fl => .ok (fl, r.2)
def flEx (f : En → Res (B × En)) : En → Res (Fl × En) := fun env => (f env).bind fun r => .ok (.nx, r.2)
def flAsg (i : Nat) (f : En → Res (B × En)) : En → Res (Fl × En) := fun env => (f env).bind fun r => (Res.ofO (tk r.2 r.1)).bind fun q => if i < q.2.length then .ok (.nx, q.2.set i (some q.1)) else .stuck
def rtk (env : En) : B → Option (O × En)
  | .slot i => match env[i]? with
    | some (some (.val d)) => some (.val d, env)
    | some (some o) => some (o, env.set i none)
    | _ => none
  | b => tk env b
def flRet (f : En → Res (B × En)) : En → Res (Fl × En) := fun env => (f env).bind fun r => (Res.ofO (rtk r.2 r.1)).bind fun q => .ok (.rt q.1, q.2)
def flRetN : En → Res (Fl × En) := fun env => .ok (.rt (.val .non), env)
def flIf (c : En → Res (Bool × En)) (f g : En → Res (Fl × En)) : En → Res (Fl × En) := fun env => (c env).bind fun r => if r.1 = true then f r.2 else g r.2
def flWhile : Nat → (En → Res (Bool × En)) → (En → Res (Fl × En)) → En → Res (Fl × En)
  | 0, _, _, _ => .stuck
  | n + 1, c, b, env => (c env).bind fun r => if r.1 = true then (b r.2).bind fun q => match q.1 with
      | .nx => flWhile n c b q.2
      | .ct => flWhile n c b q.2
      | .bk => .ok (.nx, q.2)
      | .rt o => .ok (.rt o, q.2)
    else .ok (.nx, r.2)
def flFor (tg : D → En → Option En) (b : En → Res (Fl × En)) : List D → En → Res (Fl × En)
  | [], env => .ok (.nx, env)
  | d :: ds, env => (Res.ofO (tg d env)).bind fun e => (b e).bind fun q => match q.1 with
      | .nx => flFor tg b ds q.2
      | .ct => flFor tg b ds q.2
      | .bk => .ok (.nx, q.2)
      | .rt o => .ok (.rt o, q.2)
def flForI (fi : En → Res (List D × En)) (tg : D → En → Option En) (b : En → Res (Fl × En)) : En → Res (Fl × En) := fun env => (fi env).bind fun r => flFor tg b r.1 r.2

section
variable {K : PySem.W.Frag} {A : Tab} {W : WX} {occ occ1 occ2 : Nat → Bool} {asg asg1 asg2 : Nat → Bool} {t u : TS} {f g : En → Res (Fl × En)} {fe : En → Res (B × En)}
theorem SemS.mono (h : SemS K A W asg1 t f) (ho : ∀ i, asg1 i = true → asg2 i = true) : SemS K A W asg2 t f := by
  have ho' : ∀ i, asg2 i = false → asg1 i = false := fun i hi => by
    cases q : asg1 i with
    | false => rfl
    | true => rw [ho i q] at hi; cases hi
  intro G H σ env Fs D so hq
  exact h G H σ env Fs D so (Res.wp_mono hq (fun r hr σ' G' H' Fs' T a b c d => hr σ' G' H' Fs' T a b (c.mono ho') d) fun c e he σ' G' H' Fs' C d a b c => he σ' G' H' Fs' C d a b (c.mono ho'))
theorem semS_nx : SemS K A W asg tNext flNx := fun G H σ env Fs D so hq => hq σ G H Fs [] .refl so .refl .nil
theorem semS_bk : SemS K A W asg tBreak flBk := fun G H σ env Fs D so hq => hq σ G H Fs [] .refl so .refl .nil
theorem semS_seq (h1 : SemS K A W asg1 t f) (h2 : SemS K A W asg2 u g) : SemS K A W (fun i => asg1 i || asg2 i) (tSeq t u) (flSeq f g) := by
  intro G H σ env Fs D so hq
  unfold flSeq at hq
  rw [Res.wp_bind] at hq
  refine h1 G H σ env Fs { D with nx := u D } so (Res.wp_mono hq (fun r hr σ1 G1 H1 Fs1 T s1 s2 s3 s4 => ?_) fun c e he σ' G' H' Fs' C d a b c => he σ' G' H' Fs' C d a b (c.mono fun i hi => by simp at hi; exact hi.1))
  have s3' : agree (fun i => asg1 i || asg2 i) σ σ1 := s3.mono fun i hi => by simp at hi; exact hi.1
  cases hf : r.1 with
  | nx =>
    rw [hf] at hr
    have s1' : Stp G H Fs G1 H1 Fs1 [] := s1.drop (by simp)
    exact h2 G1 H1 σ1 r.2 Fs1 D s2 (Res.wp_mono hr (fun q hq2 σ2 G2 H2 Fs2 T2 b1 b2 b3 b4 => hq2 σ2 G2 H2 Fs2 T2 (s1'.trans0 b1) b2 (s3.trans b3) b4) fun c e he σ' G' H' Fs' C d a b c => he σ' G' H' Fs' C d (s1'.trans0 a) b (s3.trans c))
  | bk => rw [hf] at hr; exact hr σ1 G1 H1 Fs1 T s1 s2 s3' s4
  | ct => rw [hf] at hr; exact hr σ1 G1 H1 Fs1 T s1 s2 s3' s4
  | rt o => rw [hf] at hr; exact hr σ1 G1 H1 Fs1 T s1 s2 s3' s4
theorem semS_ex {te : TE} (h : SemE K A W occ te fe) : SemS K A W asg (tDrop te) (flEx fe) := by
  intro G H σ env Fs D so hq
  unfold flEx at hq
  rw [Res.wp_bind] at hq
  exact h G H σ env Fs _ so (Res.wp_mono hq (fun r hr v G1 H1 Fs1 T s1 s2 _ _ _ _ => hr σ G1 H1 Fs1 [] (s1.drop (by simp)) s2 .refl .nil) fun c e he G' H' Fs' C d a b _ => he σ G' H' Fs' C d a b .refl)
theorem semS_asg {te : TE} {i : Nat} (h : SemE K A W occ te fe) : SemS K A W (fun j => decide (j = i)) (tAsg te (gName i)) (flAsg i fe) := by
  intro G H σ env Fs D so hq
  unfold flAsg at hq
  rw [Res.wp_bind] at hq
  refine h G H σ env Fs _ so (Res.wp_mono hq (fun r hr v G1 H1 Fs1 T s1 s2 _ s4 s5 _ => ?_) fun c e he G' H' Fs' C d a b _ => he σ G' H' Fs' C d a b .refl)
  rw [Res.wp_bind] at hr
  obtain ⟨q, eq, hr⟩ := Res.wp_ofO hr
  obtain ⟨G2, Fs2, T2, k⟩ := tk_ok s2 s4 s5 eq
  by_cases hi : i < q.2.length
  · rw [if_pos hi] at hr
    have st : Stp G H Fs G2 H1 Fs2 T2 := (s1.trans s4 k.st).drop fun b hb => by simp [k.t.subset hb]
    have so2 := k.so.assign k.tko k.r hi
    refine hr (σ.set i (some v)) G2 H1 (upf Fs2 i T2) [] ⟨st.g, st.keep, st.gnew, fun b hb => ?_⟩ so2 (fun j hj => List.getElem?_set_ne (Ne.symm (by simpa using hj))) .nil
    rcases hb with ⟨j, hb⟩ | hb
    · by_cases hj : j = i
      · subst hj; rw [upf_same] at hb; exact st.fnew b (.inr hb)
      · rw [upf_ne hj] at hb; exact st.fnew b (.inl ⟨j, hb⟩)
    · cases hb
  · rw [if_neg hi] at hr
    exact hr.elim
theorem rtk_ok {G H : Hp} {σ : St} {env : En} {Fs : Nat → Fp} {T : Fp} {v : V} {b : B} {o : O} {env' : En} (so : StOk K A G H σ env Fs) (tko : TOk G H Fs T) (h : BorOk K A G H σ env Fs T v b) (e : rtk env b = some (o, env')) :
    ∃ G' Fs' T', (∀ {G0 H0 : Hp} {Fs0 : Nat → Fp}, Stp G0 H0 Fs0 G H Fs T → Stp G0 H0 Fs0 G' H Fs' T') ∧ StOk K A G' H σ env' Fs' ∧ TOk G' H Fs' T' ∧ RepO K A G' H o T' v := by
  have usual : tk env b = some (o, env') → ∃ G' Fs' T', (∀ {G0 H0 : Hp} {Fs0 : Nat → Fp}, Stp G0 H0 Fs0 G H Fs T → Stp G0 H0 Fs0 G' H Fs' T') ∧ StOk K A G' H σ env' Fs' ∧ TOk G' H Fs' T' ∧ RepO K A G' H o T' v := fun z => by
    obtain ⟨G2, Fs2, T2, k⟩ := tk_ok so tko h z
    exact ⟨G2, Fs2, T2, fun s => (s.trans tko k.st).drop fun b hb => by simp [k.t.subset hb], k.so, k.tko, k.r⟩
  cases b with
  | nest i p => exact usual e
  | tmp o' => exact usual e
  | slot i =>
    simp only [rtk] at e
    split at e
    · rename_i d hd
      cases e
      exact ⟨G, Fs, [], fun s => s.drop (by simp), so, .nil, ⟨rfl, (so.slot hd h.2).2⟩⟩
    · rename_i o' hd ho
      cases e
      refine ⟨G, upf Fs i [], Fs i, fun s => ⟨s.g, s.keep, s.gnew, fun b hb => ?_⟩, so.forget, ⟨so.nd i, fun j b hb hj => ?_, fun b hb => so.own i b hb⟩, so.slot ho h.2⟩
      · rcases hb with ⟨j, hb⟩ | hb
        · by_cases hj : j = i
          · subst hj; rw [upf_same] at hb; cases hb
          · rw [upf_ne hj] at hb; exact s.fnew b (.inl ⟨j, hb⟩)
        · exact s.fnew b (.inl ⟨i, hb⟩)
      · by_cases hji : j = i
        · subst hji; rw [upf_same] at hj; cases hj
        · rw [upf_ne hji] at hj
          exact hji (so.dj j i b hj hb)
    · cases e
theorem semS_ret {te : TE} (h : SemE K A W occ te fe) : SemS K A W asg (tRet te) (flRet fe) := by
  intro G H σ env Fs D so hq
  unfold flRet at hq
  rw [Res.wp_bind] at hq
  refine h G H σ env Fs _ so (Res.wp_mono hq (fun r hr v G1 H1 Fs1 T s1 s2 _ s4 s5 _ => ?_) fun c e he G' H' Fs' C d a b _ => he σ G' H' Fs' C d a b .refl)
  rw [Res.wp_bind] at hr
  obtain ⟨q, eq, hr⟩ := Res.wp_ofO hr
  obtain ⟨G2, Fs2, T2, st, so2, tk2, r2⟩ := rtk_ok s2 s4 s5 eq
  exact hr σ G2 H1 Fs2 T2 (st s1) so2 .refl tk2 v r2
theorem semS_retN : SemS K A W asg tRetN flRetN := fun G H σ env Fs D so hq => hq σ G H Fs [] .refl so .refl .nil .non ⟨rfl, rfl⟩
theorem semS_if {tc : TT} {fc : En → Res (Bool × En)} (hc : SemT K A W occ tc fc) (h1 : SemS K A W asg1 t f) (h2 : SemS K A W asg2 u g) : SemS K A W (fun i => asg1 i || asg2 i) (tIfS tc t u) (flIf fc f g) := by
  intro G H σ env Fs D so hq
  unfold flIf at hq
  rw [Res.wp_bind] at hq
  refine hc G H σ env Fs _ so (Res.wp_mono hq (fun r hr G1 H1 Fs1 s1 s2 _ => ?_) fun c e he G' H' Fs' C d a b _ => he σ G' H' Fs' C d a b .refl)
  cases hr1 : r.1 with
  | true =>
    rw [hr1] at hr
    rw [if_pos rfl] at hr ⊢
    exact h1 G1 H1 σ r.2 Fs1 D s2 (Res.wp_mono hr (fun q hq2 σ2 G2 H2 Fs2 T2 b1 b2 b3 b4 => hq2 σ2 G2 H2 Fs2 T2 (s1.trans0 b1) b2 (b3.mono fun i hi => by simp at hi; exact hi.1) b4) fun c e he σ' G' H' Fs' C d a b c => he σ' G' H' Fs' C d (s1.trans0 a) b (c.mono fun i hi => by simp at hi; exact hi.1))
  | false =>
    rw [hr1] at hr
    rw [if_neg (by simp)] at hr ⊢
    exact h2 G1 H1 σ r.2 Fs1 D s2 (Res.wp_mono hr (fun q hq2 σ2 G2 H2 Fs2 T2 b1 b2 b3 b4 => hq2 σ2 G2 H2 Fs2 T2 (s1.trans0 b1) b2 (b3.mono fun i hi => by simp at hi; exact hi.2) b4) fun c e he σ' G' H' Fs' C d a b c => he σ' G' H' Fs' C d (s1.trans0 a) b (c.mono fun i hi => by simp at hi; exact hi.2))
theorem semS_while {tc : TT} {fc : En → Res (Bool × En)} {n : Nat} (hc : SemT K A W occ tc fc) (h : SemS K A W asg t f) : SemS K A W asg (tWhile tc t) (flWhile n fc f) := by
  intro G H σ env Fs D so hq
  let QQ : Fl × En → Prop := fun r => ∀ σ' G' H' Fs' T, Stp G H Fs G' H' Fs' T → StOk K A G' H' σ' r.2 Fs' → agree asg σ σ' → TOk G' H' Fs' T → EndOk K A G' H' σ' T D r.1
  let EE : Nat → En → Prop := fun c env' => ∀ σ' G' H' Fs' C d, Stp G H Fs G' H' Fs' [] → StOk K A G' H' σ' env' Fs' → agree asg σ σ' → A.cls c = some C → W (.ref C) d σ' H'
  refine ⟨fun m σ1 H1 => ∃ G1 Fs1 e1, Stp G H Fs G1 H1 Fs1 [] ∧ StOk K A G1 H1 σ1 e1 Fs1 ∧ agree asg σ σ1 ∧ (flWhile m fc f e1).wp QQ EE, ⟨n, G, Fs, env, .refl, so, .refl, hq⟩, ?_⟩
  rintro m σ1 H1 ⟨G1, Fs1, e1, st1, so1, ag1, hw⟩
  cases m with
  | zero => exact hw.elim
  | succ m =>
    simp only [flWhile] at hw
    rw [Res.wp_bind] at hw
    refine hc G1 H1 σ1 e1 Fs1 _ so1 (Res.wp_mono hw (fun r hr G2 H2 Fs2 s1 s2 _ => ?_) fun c e he G' H' Fs' C d a b _ => he σ1 G' H' Fs' C d (st1.trans0 a) b ag1)
    have st2 := st1.trans0 s1
    cases hr1 : r.1 with
    | false =>
      rw [hr1] at hr
      rw [if_neg (by simp)] at hr ⊢
      exact hr σ1 G2 H2 Fs2 [] st2 s2 ag1 .nil
    | true =>
      rw [hr1] at hr
      rw [if_pos rfl] at hr ⊢
      rw [Res.wp_bind] at hr
      refine ⟨fun σ' H' => ∃ G1 Fs1 e1, Stp G H Fs G1 H' Fs1 [] ∧ StOk K A G1 H' σ' e1 Fs1 ∧ agree asg σ σ' ∧ (flWhile m fc f e1).wp QQ EE, fun σ' H' p => ⟨m, Nat.lt_succ_self m, p⟩, ?_⟩
      refine h G2 H2 σ1 r.2 Fs2 _ s2 (Res.wp_mono hr (fun q hq2 σ3 G3 H3 Fs3 T3 b1 b2 b3 b4 => ?_) fun c e he σ' G' H' Fs' C d a b c => he σ' G' H' Fs' C d (st2.trans0 a) b ((ag1.trans c).mono fun i hi => by simp [hi]))
      have ag3 : agree asg σ σ3 := (ag1.trans b3).mono fun i hi => by simp [hi]
      have st3 := st2.trans0 b1
      cases hf : q.1 with
      | nx => rw [hf] at hq2; exact ⟨G3, Fs3, q.2, st3.drop (by simp), b2, ag3, hq2⟩
      | ct => rw [hf] at hq2; exact ⟨G3, Fs3, q.2, st3.drop (by simp), b2, ag3, hq2⟩
      | bk => rw [hf] at hq2; exact hq2 σ3 G3 H3 Fs3 T3 st3 b2 ag3 b4
      | rt o => rw [hf] at hq2; exact hq2 σ3 G3 H3 Fs3 T3 st3 b2 ag3 b4
theorem semS_for {wi : TI} {tg : TG} {as : List Nat} {ftg : D → En → Option En} {fi : En → Res (List D × En)} (hi : SemI K A W occ wi fi) (hg : SemG K A as tg ftg) (h : SemS K A W asg t f) : SemS K A W (fun i => decide (i ∈ as) || asg i) (tFor wi tg t) (flForI fi ftg f) := by
  intro G H σ env Fs D so hq
  unfold flForI at hq
  rw [Res.wp_bind] at hq
  refine hi G H σ env Fs _ so (Res.wp_mono hq (fun r hr J G1 H1 Fs1 st1 so1 _ wd => ?_) fun c e he G' H' Fs' C d a b _ => he σ G' H' Fs' C d a b .refl)
  obtain ⟨ds, e1⟩ := r
  simp only at hr so1 wd
  obtain ⟨Gd, Y, wk, hgd, hy⟩ := wd
  let QQ : Fl × En → Prop := fun r => ∀ σ' G' H' Fs' T, Stp G H Fs G' H' Fs' T → StOk K A G' H' σ' r.2 Fs' → agree (fun i => decide (i ∈ as) || asg i) σ σ' → TOk G' H' Fs' T → EndOk K A G' H' σ' T D r.1
  let EE : Nat → En → Prop := fun c env' => ∀ σ' G' H' Fs' C d, Stp G H Fs G' H' Fs' [] → StOk K A G' H' σ' env' Fs' → agree (fun i => decide (i ∈ as) || asg i) σ σ' → A.cls c = some C → W (.ref C) d σ' H'
  let Pv : Nat → St → Hp → Prop := fun i σ2 H2 => ∃ G2 Fs2 e2, Sub G1 G2 ∧ Stp G H Fs G2 H2 Fs2 [] ∧ StOk K A G2 H2 σ2 e2 Fs2 ∧ agree (fun i => decide (i ∈ as) || asg i) σ σ2 ∧ (flFor ftg f (ds.drop i) e2).wp QQ EE
  refine for_it wk Pv ⟨G1, Fs1, e1, fun _ _ h => h, st1, so1, .refl, by simpa using hr⟩ (fun i σ2 H2 _ ⟨G2, _, _, sg, _, so, _⟩ => hgd H2 fun b o e => so.sub _ _ (sg _ _ e)) ?_ ?_
  · rintro i x σ2 H2 H2' hi2 ⟨G2, Fs2, e2, sg, st2, so2, ag2, hw⟩ y
    obtain ⟨d, G3, hd, gr⟩ := hy i G2 H2 x H2' hi2 sg so2.sub y
    have st23 : Stp G2 H2 Fs2 G3 H2' Fs2 [] := GrowT.stp .refl gr
    obtain ⟨so3, _, _⟩ := GrowT.so so2 .nil gr
    have hdrop : ds.drop i = d :: ds.drop (i + 1) := by
      obtain ⟨hl, e⟩ := List.getElem?_eq_some_iff.mp hd
      rw [List.drop_eq_getElem_cons hl, e]
    rw [hdrop] at hw
    simp only [flFor] at hw
    rw [Res.wp_bind] at hw
    obtain ⟨e3, ht, hw⟩ := Res.wp_ofO hw
    refine hg G3 H2' σ2 e2 e3 Fs2 x d _ so3 gr.r.2 ht fun σ3 so4 hl4 f4 => ?_
    have st34 : Stp G H Fs G3 H2' (fun j => if j ∈ as then [] else Fs2 j) [] := by
      have a := st2.trans0 st23
      exact ⟨a.g, a.keep, a.gnew, fun b hb => by
        rcases hb with ⟨j, hb⟩ | hb
        · split at hb
          · cases hb
          · exact a.fnew b (.inl ⟨j, hb⟩)
        · cases hb⟩
    have ag3 : agree (fun i => decide (i ∈ as) || asg i) σ σ3 := fun j hj => by
      have : j ∉ as := by simp at hj; exact hj.1
      exact (f4 j this).1.trans (ag2 j hj)
    rw [Res.wp_bind] at hw
    refine h G3 H2' σ3 e3 _ _ so4 (Res.wp_mono hw (fun q hq2 σ5 G5 H5 Fs5 T5 b1 b2 b3 b4 => ?_) fun c e he σ' G' H' Fs' C d a b c => he σ' G' H' Fs' C d (st34.trans0 a) b ((ag3.trans c).mono fun i hi => by simp only [Bool.or_eq_false_iff] at hi ⊢; exact ⟨hi, hi.2⟩))
    have ag5 : agree (fun i => decide (i ∈ as) || asg i) σ σ5 := (ag3.trans b3).mono fun i hi => by simp only [Bool.or_eq_false_iff] at hi ⊢; exact ⟨hi, hi.2⟩
    have st5 := st34.trans0 b1
    have sg5 : Sub G1 G5 := fun b o e => b1.g _ _ (gr.g _ _ (sg _ _ e))
    cases hf : q.1 with
    | nx => rw [hf] at hq2; exact ⟨G5, Fs5, q.2, sg5, st5.drop (by simp), b2, ag5, hq2⟩
    | ct => rw [hf] at hq2; exact ⟨G5, Fs5, q.2, sg5, st5.drop (by simp), b2, ag5, hq2⟩
    | bk => rw [hf] at hq2; exact hq2 σ5 G5 H5 Fs5 T5 st5 b2 ag5 b4
    | rt o => rw [hf] at hq2; exact hq2 σ5 G5 H5 Fs5 T5 st5 b2 ag5 b4
  · rintro σ2 H2 ⟨G2, Fs2, e2, sg, st2, so2, ag2, hw⟩
    rw [List.drop_length] at hw
    exact hw σ2 G2 H2 Fs2 [] st2 so2 ag2 .nil
/-- several names of one tuple -/
def flAsgT (ftg : D → En → Option En) (f : En → Res (B × En)) : En → Res (Fl × En) := fun env => (f env).bind fun r => (Res.ofO (fzAll r.2 [r.1])).bind fun q => match q.1 with
  | [d] => (Res.ofO (ftg d q.2)).bind fun e => .ok (.nx, e)
  | _ => .stuck
/-- an answer by worth, for good -/
theorem fz1_ok {G0 H0 G H : Hp} {Fs0 Fs : Nat → Fp} {σ : St} {env env' : En} {T : Fp} {v : V} {b : B} {d : D} (st : Stp G0 H0 Fs0 G H Fs T) (so : StOk K A G H σ env Fs) (tko : TOk G H Fs T) (h : BorOk K A G H σ env Fs T v b) (e : fzAll env [b] = some ([d], env')) :
    ∃ G' Fs', Stp G0 H0 Fs0 G' H Fs' [] ∧ StOk K A G' H σ env' Fs' ∧ RepD K A G' d v := by
  obtain ⟨p, e3, e4⟩ := Option.map_eq_some_iff.mp e
  obtain ⟨os, env2⟩ := p
  simp only [tks] at e3
  split at e3
  · rename_i o e1 he
    simp at e3
    obtain ⟨rfl, rfl⟩ := e3
    simp [O.fzs] at e4
    obtain ⟨rfl, rfl⟩ := e4
    obtain ⟨G1, Fs1, T1, k⟩ := tk_ok so tko h he
    have st2 : Stp G0 H0 Fs0 G1 H Fs1 T1 := (st.trans tko k.st).drop fun b hb => by simp [k.t.subset hb]
    have f := freeze_tmp (T := T1) (T2 := []) (by simpa using st2) k.so (by simpa using k.tko) k.r
    exact ⟨_, _, f.1, f.2.1, f.2.2.2.2⟩
  · cases e3
theorem semS_asgT {te : TE} {tg : TG} {as : List Nat} {ftg : D → En → Option En} (h : SemE K A W occ te fe) (hg : SemG K A as tg ftg) : SemS K A W (fun j => decide (j ∈ as)) (tAsg te tg) (flAsgT ftg fe) := by
  intro G H σ env Fs D so hq
  unfold flAsgT at hq
  rw [Res.wp_bind] at hq
  refine h G H σ env Fs _ so (Res.wp_mono hq (fun r hr v G1 H1 Fs1 T s1 s2 _ s4 s5 _ => ?_) fun c e he G' H' Fs' C d a b _ => he σ G' H' Fs' C d a b .refl)
  rw [Res.wp_bind] at hr
  obtain ⟨q, eq, hr⟩ := Res.wp_ofO hr
  obtain ⟨ds, e2⟩ := q
  match ds, hr with
  | [d], hr =>
    simp only at hr
    rw [Res.wp_bind] at hr
    obtain ⟨e3, ht, hr⟩ := Res.wp_ofO hr
    obtain ⟨G2, Fs2, st2, so2, rd⟩ := fz1_ok s1 s2 s4 s5 eq
    refine hg G2 H1 σ e2 e3 Fs2 v d _ so2 rd ht fun σ3 so3 hl3 f3 => ?_
    exact hr σ3 G2 H1 _ [] ⟨st2.g, st2.keep, st2.gnew, fun b hb => by
      rcases hb with ⟨j, hb⟩ | hb
      · split at hb
        · cases hb
        · exact st2.fnew b (.inl ⟨j, hb⟩)
      · cases hb⟩ so3 (fun j hj => (f3 j (by simpa using hj)).1) .nil
end
end Fz
end

section -- Fz16
namespace Fz
open PySem L2 RZ

/-! ### what is handed to a def, and what comes back -/
/-- the argument at a place that the def leaves as it is bound: its owner lends it, and has it again behind the call -/
def pass1 (io : Bool) (env : En) : B → Option (O × Option Nat × En)
  | .slot i => match env[i]? with
    | some (some (.val d)) => some (.val d, none, env)
    | some (some o) => if io = true then some (o, some i, env.set i none) else some (.val o.fz, none, env.set i (some (.val o.fz)))
    | _ => none
  | b => (tk env b).map fun q => (q.1, none, q.2)
def passL : List Bool → En → List B → Option (List O × List (Option Nat) × En)
  | [], env, [] => some ([], [], env)
  | io :: ios, env, b :: bs => match pass1 io env b with
    | some (o, m, e1) => match passL ios e1 bs with
      | some (os, ms, e2) => if bs.all notNest = true then some (o :: os, m :: ms, e2) else none
      | none => none
    | none => none
  | _, _, _ => none
/-- outs: what the def's first slots are at its end -/
def backL : List (Option Nat) → List (Option O) → En → En
  | some i :: ms, o :: os, env => backL ms os (env.set i o)
  | none :: ms, _ :: os, env => backL ms os env
  | _, _, env => env
def maskE : List Bool → En → En
  | io :: ios, o :: os => (if io = true then o else none) :: maskE ios os
  | io :: ios, [] => none :: maskE ios []
  | [], _ => []
theorem maskE_len : ∀ (ios : List Bool) (os : En), (maskE ios os).length = ios.length
  | [], _ => by simp [maskE]
  | _ :: ios, [] => by simp [maskE, maskE_len ios []]
  | _ :: ios, _ :: os => by simp [maskE, maskE_len ios os]
/-- a def's promise, by the function m of what is handed to it -/
def spOf (K : PySem.W.Frag) (A : Tab) (io : List Bool) (m : List O → Res (O × En)) : Sp := fun vs H Q E => ∃ G Fs os, vs.length = io.length ∧ StOk K A G H (vs.map some) (os.map some) Fs ∧
  (m os).wp (fun r => ∀ v G' H' Fs' T, Stp G H Fs G' H' Fs' T → StOk K A G' H' (vs.map some) (maskE io r.2) Fs' → TOk G' H' Fs' T → RepO K A G' H' r.1 T v → Q v H')
    (fun c outs => ∀ G' H' Fs' C d, Stp G H Fs G' H' Fs' [] → StOk K A G' H' (vs.map some) (maskE io outs) Fs' → A.cls c = some C → E (.ref C) d H')
def evCall (io : List Bool) (m : List O → Res (O × En)) (fs : En → Res (List B × En)) : En → Res (B × En) := fun env => (fs env).bind fun r => (Res.ofO (passL io r.2 r.1)).bind fun p => match m p.1 with
  | .ok q => .ok (.tmp q.1, backL p.2.1 (maskE io q.2) p.2.2)
  | .exc c outs => .exc c (backL p.2.1 (maskE io outs) p.2.2)
  | .stuck => .stuck

section
variable {K : PySem.W.Frag} {A : Tab} {H : Hp} {σ : St}
/-- the arguments' own parts, one behind the other -/
def RepOL (K : PySem.W.Frag) (A : Tab) (G H : Hp) : List O → List Fp → List V → Prop
  | [], Fc, vs => Fc = [] ∧ vs = []
  | o :: os, Fc, vs => ∃ F Fr v ws, Fc = F :: Fr ∧ vs = v :: ws ∧ RepO K A G H o F v ∧ RepOL K A G H os Fr ws
theorem RepOL.keep {G G' H' : Hp} (s : Sub G G') : ∀ {os : List O} {Fc : List Fp} {vs : List V}, (∀ F ∈ Fc, ∀ b ∈ F, H' b = H b) → RepOL K A G H os Fc vs → RepOL K A G' H' os Fc vs
  | [], _, _, _, h => h
  | o :: os, _, _, k, h => by
    obtain ⟨F, Fr, v, ws, rfl, rfl, r1, r2⟩ := h
    exact ⟨F, Fr, v, ws, rfl, rfl, RepO.keep s (fun b hb => k F (by simp) b hb) r1, RepOL.keep s (fun F hF => k F (by simp [hF])) r2⟩
/-- which names lent what -/
def Lent (σ : St) (env : En) : List (Option Nat) → List V → Prop
  | [], vs => vs = []
  | m :: ms, vs => ∃ v ws, vs = v :: ws ∧ (∀ i, m = some i → σ[i]? = some (some v) ∧ i < env.length) ∧ Lent σ env ms ws
theorem Lent.len {env env' : En} (h : env'.length = env.length) : ∀ {ms : List (Option Nat)} {vs : List V}, Lent σ env ms vs → Lent σ env' ms vs
  | [], _, l => l
  | m :: ms, _, l => by
    obtain ⟨v, ws, rfl, k, r⟩ := l
    exact ⟨v, ws, rfl, fun i hi => ⟨(k i hi).1, by rw [h]; exact (k i hi).2⟩, Lent.len h r⟩
structure P1 (K : PySem.W.Frag) (A : Tab) (G H : Hp) (σ : St) (env : En) (Fs : Nat → Fp) (T : Fp) (v : V) (b : B) (o : O) (m : Option Nat) (env' : En) (G' : Hp) (Fs' : Nat → Fp) (F : Fp) : Prop where
  g : Sub G G'
  gn : ∀ c x, G' c = some x → G c = some x ∨ ∃ i, c ∈ Fs i
  so : StOk K A G' H σ env' Fs'
  tko : TOk G' H Fs' F
  r : RepO K A G' H o F v
  f : ∀ c ∈ F, (∃ i, c ∈ Fs i) ∨ c ∈ T
  fs : ∀ i c, c ∈ Fs' i → c ∈ Fs i
  m : ∀ i, m = some i → σ[i]? = some (some v) ∧ i < env.length ∧ b = .slot i
  len : env'.length = env.length
  far : ∀ i, tou i b = false → Fs' i = Fs i ∧ env'[i]? = env[i]?
theorem pass1_ok {G : Hp} {env env' : En} {Fs : Nat → Fp} {T : Fp} {v : V} {b : B} {io : Bool} {o : O} {m : Option Nat} (so : StOk K A G H σ env Fs) (tko : TOk G H Fs T) (h : BorOk K A G H σ env Fs T v b) (e : pass1 io env b = some (o, m, env')) :
    ∃ G' Fs' F, P1 K A G H σ env Fs T v b o m env' G' Fs' F := by
  have usual : ∀ o env', tk env b = some (o, env') → ∃ G' Fs' F, P1 K A G H σ env Fs T v b o none env' G' Fs' F := fun o env' z => by
    obtain ⟨G2, Fs2, T2, k⟩ := tk_ok so tko h z
    refine ⟨G2, Fs2, T2, ⟨k.st.g, fun c x hx => ?_, k.so, k.tko, k.r, fun c hc => ?_, fun i c hc => ?_, (fun i h => by cases h), k.so.len.symm.trans so.len, k.far⟩⟩
    · rcases k.st.gnew c x hx with q | q | q
      · exact .inl q
      · exact .inr q
      · have := k.so.sub c x hx
        rw [q] at this; cases this
    · exact .inr (k.t.subset hc)
    · by_cases hb : tou i b = true
      · rcases k.st.fnew c (.inl ⟨i, hc⟩) with ⟨j, q⟩ | q
        · by_cases hj : tou j b = true
          · have : j = i := by
              cases b with
              | slot l => simp [tou] at hb hj; omega
              | nest l p => simp [tou] at hb hj; omega
              | tmp _ => simp [tou] at hb
            rw [← this]; exact q
          · have := (k.far j (by simpa using hj)).1
            rw [← this] at q
            have e : j = i := k.so.dj j i c q hc
            subst e
            exact absurd hb hj
        · exact absurd q (k.so.own i c hc).2
      · rw [← (k.far i (by simpa using hb)).1]; exact hc
  cases b with
  | nest i p =>
    simp only [pass1] at e
    obtain ⟨q, e1, e2⟩ := Option.map_eq_some_iff.mp e
    cases e2
    exact usual q.1 q.2 e1
  | tmp o' =>
    simp only [pass1] at e
    obtain ⟨q, e1, e2⟩ := Option.map_eq_some_iff.mp e
    cases e2
    exact usual q.1 q.2 e1
  | slot i =>
    simp only [pass1] at e
    split at e
    · rename_i d hd
      cases e
      exact usual (.val d) env (by simp [tk, hd])
    · rename_i o' hd ho
      split at e
      · cases e
        refine ⟨G, upf Fs i [], Fs i, fun _ _ h => h, fun c x h => .inl h, so.forget, ⟨so.nd i, fun j b hb hj => ?_, fun b hb => so.own i b hb⟩, so.slot ho h.2, fun c hc => .inl ⟨i, hc⟩, fun j c hc => ?_, fun j hj => ?_, by simp, fun j hj => ?_⟩
        · by_cases hji : j = i
          · subst hji; rw [upf_same] at hj; cases hj
          · rw [upf_ne hji] at hj
            exact hji (so.dj j i b hj hb)
        · by_cases hji : j = i
          · subst hji; rw [upf_same] at hc; cases hc
          · rw [upf_ne hji] at hc; exact hc
        · cases hj
          exact ⟨h.2, (List.getElem?_eq_some_iff.mp ho).1, rfl⟩
        · have : i ≠ j := by simpa [tou] using hj
          exact ⟨upf_ne (Ne.symm this), List.getElem?_set_ne this⟩
      · cases e
        refine usual _ _ ?_
        cases o' with
        | val d => exact absurd rfl (hd d)
        | lst _ => simp [tk, ho]
        | dct _ => simp [tk, ho]
        | ins _ _ => simp [tk, ho]
    · cases e
structure PL (K : PySem.W.Frag) (A : Tab) (G H : Hp) (σ : St) (env : En) (Fs : Nat → Fp) (T : Fp) (vs : List V) (bs : List B) (os : List O) (ms : List (Option Nat)) (env' : En) (G' : Hp) (Fs' : Nat → Fp) (Fc : List Fp) : Prop where
  g : Sub G G'
  gn : ∀ c x, G' c = some x → G c = some x ∨ ∃ i, c ∈ Fs i
  so : StOk K A G' H σ env' Fs'
  tko : TOk G' H Fs' Fc.flatten
  r : RepOL K A G' H os Fc vs
  f : ∀ c ∈ Fc.flatten, (∃ i, c ∈ Fs i) ∨ c ∈ T
  fs : ∀ i c, c ∈ Fs' i → c ∈ Fs i
  m : Lent σ env ms vs
  ml : ms.length = os.length
  len : env'.length = env.length
  far : ∀ i, bs.any (tou i) = false → Fs' i = Fs i ∧ env'[i]? = env[i]? ∧ some i ∉ ms
theorem passL_ok : ∀ {bs : List B} {ios : List Bool} {G : Hp} {env env' : En} {Fs : Nat → Fp} {T : Fp} {vs : List V} {os : List O} {ms : List (Option Nat)}, StOk K A G H σ env Fs → TOk G H Fs T → BorsOk K A G H σ env Fs T vs bs → passL ios env bs = some (os, ms, env') →
    ∃ G' Fs' Fc, PL K A G H σ env Fs T vs bs os ms env' G' Fs' Fc
  | [], ios, G, env, env', Fs, T, vs, os, ms, so, tko, h, e => by
    cases ios with
    | cons _ _ => cases e
    | nil =>
      cases e
      obtain ⟨rfl, rfl⟩ := h
      exact ⟨G, Fs, [], fun _ _ h => h, fun _ _ h => .inl h, so, by simpa using TOk.nil, ⟨rfl, rfl⟩, by simp, fun _ _ h => h, rfl, rfl, rfl, fun i _ => ⟨rfl, rfl, by simp⟩⟩
  | b :: bs, ios, G, env, env', Fs, T, vs, os, ms, so, tko, h, e => by
    cases ios with
    | nil => cases e
    | cons io ios =>
      obtain ⟨T1, T2, x, xs, rfl, rfl, h1, h2⟩ := h
      simp only [passL] at e
      split at e
      · rename_i o m e1 q1
        split at e
        · rename_i os' ms' e2 q2
          split at e
          · rename_i ok
            cases e
            have t1 := tko.sub (List.sublist_append_left T1 T2)
            have t2 := tko.sub (List.sublist_append_right T1 T2)
            obtain ⟨G1, Fs1, F, k⟩ := pass1_ok so t1 h1 q1
            have djF : ∀ c ∈ F, c ∉ T2 := fun c hc z => by
              rcases k.f c hc with ⟨i, q⟩ | q
              · exact t2.dj i c z q
              · exact (List.nodup_append.mp tko.nd).2.2 c q c z rfl
            have t2' : TOk G1 H Fs1 T2 := ⟨t2.nd, fun i c hc hi => t2.dj i c hc (k.fs i c hi), fun c hc => ⟨by
              cases z : G1 c with
              | none => rfl
              | some y =>
                rcases k.gn c y z with q | ⟨i, q⟩
                · rw [(t2.own c hc).1] at q; cases q
                · exact absurd q (t2.dj i c hc), (t2.own c hc).2⟩⟩
            have h2' : BorsOk K A G1 H σ e1 Fs1 T2 xs bs := by
              have go : ∀ {bs : List B} {T : Fp} {vs : List V}, bs.all notNest = true → BorsOk K A G H σ env Fs T vs bs → BorsOk K A G1 H σ e1 Fs1 T vs bs := by
                intro bs
                induction bs with
                | nil => intro T vs _ h; exact h
                | cons b bs ih =>
                  intro T vs hn h
                  obtain ⟨Ta, Tb, y, ys, rfl, rfl, a1, a2⟩ := h
                  simp only [List.all_cons, Bool.and_eq_true] at hn
                  refine ⟨Ta, Tb, y, ys, rfl, rfl, ?_, ih hn.2 a2⟩
                  cases b with
                  | slot i => exact a1
                  | tmp o => exact RepO.keep k.g (fun _ _ => rfl) a1
                  | nest i p => cases hn.1
              exact go ok h2
            obtain ⟨G2, Fs2, Fc, kk⟩ := passL_ok k.so t2' h2' q2
            have tF : TOk G2 H Fs2 F := ⟨k.tko.nd, fun i c hc hi => k.tko.dj i c hc (kk.fs i c hi), fun c hc => ⟨by
              cases z : G2 c with
              | none => rfl
              | some y =>
                rcases kk.gn c y z with q | ⟨i, q⟩
                · rw [(k.tko.own c hc).1] at q; cases q
                · exact absurd q (k.tko.dj i c hc), (k.tko.own c hc).2⟩⟩
            have djc : ∀ c ∈ F, c ∉ Fc.flatten := fun c hc z => by
              rcases kk.f c z with ⟨i, q⟩ | q
              · exact k.tko.dj i c hc q
              · exact djF c hc q
            refine ⟨G2, Fs2, F :: Fc, fun c y z => kk.g _ _ (k.g _ _ z), fun c y z => ?_, kk.so, ⟨?_, fun i c hc => ?_, fun c hc => ?_⟩, ⟨F, Fc, x, xs, rfl, rfl, RepO.keep kk.g (fun _ _ => rfl) k.r, kk.r⟩, fun c hc => ?_, fun i c hc => k.fs i c (kk.fs i c hc), ⟨x, xs, rfl, fun i hi => ⟨(k.m i hi).1, (k.m i hi).2.1⟩, kk.m.len k.len.symm⟩, by simp [kk.ml], kk.len.trans k.len, fun i hi => ?_⟩
            · rcases kk.gn c y z with q | ⟨i, q⟩
              · exact k.gn c y q
              · exact .inr ⟨i, k.fs i c q⟩
            · rw [List.flatten_cons]
              exact List.nodup_append.mpr ⟨tF.nd, kk.tko.nd, fun c hc d hd e => djc c hc (e ▸ hd)⟩
            · rw [List.flatten_cons] at hc
              rcases List.mem_append.mp hc with z | z
              · exact tF.dj i c z
              · exact kk.tko.dj i c z
            · rw [List.flatten_cons] at hc
              rcases List.mem_append.mp hc with z | z
              · exact tF.own c z
              · exact kk.tko.own c z
            · rw [List.flatten_cons] at hc
              rcases List.mem_append.mp hc with z | z
              · exact (k.f c z).imp id fun q => by simp [q]
              · rcases kk.f c z with ⟨i, q⟩ | q
                · exact .inl ⟨i, k.fs i c q⟩
                · exact .inr (by simp [q])
            · simp only [List.any_cons, Bool.or_eq_false_iff] at hi
              obtain ⟨a1, a2⟩ := k.far i hi.1
              obtain ⟨b1, b2, b3⟩ := kk.far i hi.2
              refine ⟨b1.trans a1, b2.trans a2, fun z => ?_⟩
              rcases List.mem_cons.mp z with z | z
              · obtain ⟨_, _, eb⟩ := k.m i z.symm
                rw [eb] at hi
                simp [tou] at hi
              · exact b3 z
          · cases e
        · cases e
      · cases e
theorem RepOL.get {G : Hp} : ∀ {os : List O} {Fc : List Fp} {vs : List V}, RepOL K A G H os Fc vs → os.length = vs.length ∧ ∀ (j : Nat) (o : O), os[j]? = some o → ∃ v, vs[j]? = some v ∧ RepO K A G H o (Fc.getD j []) v
  | [], _, _, h => by obtain ⟨rfl, rfl⟩ := h; simp
  | o :: os, _, _, h => by
    obtain ⟨F, Fr, v, ws, rfl, rfl, r1, r2⟩ := h
    obtain ⟨l, g⟩ := RepOL.get r2
    refine ⟨by simp [l], fun j o' e => ?_⟩
    cases j with
    | zero => simp at e; subst e; exact ⟨v, rfl, by simpa using r1⟩
    | succ j =>
      simp at e
      obtain ⟨v', h1, h2⟩ := g j o' e
      exact ⟨v', by simpa using h1, by simpa using h2⟩
theorem flat_get : ∀ (Fc : List Fp) (j : Nat) (b : Addr), b ∈ Fc.getD j [] → b ∈ Fc.flatten
  | [], j, b, h => by simp at h
  | F :: Fc, 0, b, h => by simp at h ⊢; exact .inl h
  | F :: Fc, j + 1, b, h => by
    simp at h
    rw [List.flatten_cons]
    exact List.mem_append_right _ (flat_get Fc j b (by simpa using h))
theorem flat_dj : ∀ (Fc : List Fp) (i j : Nat) (b : Addr), Fc.flatten.Nodup → b ∈ Fc.getD i [] → b ∈ Fc.getD j [] → i = j
  | [], i, j, b, _, h, _ => by simp at h
  | F :: Fc, 0, 0, b, _, _, _ => rfl
  | F :: Fc, 0, j + 1, b, n, h, g => by
    rw [List.flatten_cons] at n
    exact absurd rfl ((List.nodup_append.mp n).2.2 b (by simpa using h) b (flat_get Fc j b (by simpa using g)))
  | F :: Fc, i + 1, 0, b, n, h, g => by
    rw [List.flatten_cons] at n
    exact absurd rfl ((List.nodup_append.mp n).2.2 b (by simpa using g) b (flat_get Fc i b (by simpa using h)))
  | F :: Fc, i + 1, j + 1, b, n, h, g => by
    rw [List.flatten_cons] at n
    rw [flat_dj Fc i j b (List.nodup_append.mp n).2.1 (by simpa using h) (by simpa using g)]
theorem flat_nd : ∀ (Fc : List Fp) (j : Nat), Fc.flatten.Nodup → (Fc.getD j []).Nodup
  | [], j, _ => by simp
  | F :: Fc, 0, n => by
    rw [List.flatten_cons] at n
    simpa using (List.nodup_append.mp n).1
  | F :: Fc, j + 1, n => by
    rw [List.flatten_cons] at n
    simpa using flat_nd Fc j (List.nodup_append.mp n).2.1
/-- the callee's own state at its entry -/
theorem PL.entry {G G' : Hp} {env env' : En} {Fs Fs' : Nat → Fp} {T : Fp} {vs : List V} {bs : List B} {os : List O} {ms : List (Option Nat)} {Fc : List Fp} (k : PL K A G H σ env Fs T vs bs os ms env' G' Fs' Fc) : StOk K A G' H (vs.map some) (os.map some) (fun j => Fc.getD j []) := by
  obtain ⟨l, g⟩ := k.r.get
  refine ⟨k.so.sub, by simp [l], fun j o e => ?_, fun j => flat_nd Fc j k.tko.nd, fun i j b hi hj => flat_dj Fc i j b k.tko.nd hi hj, fun j b hb => k.tko.own b (flat_get Fc j b hb)⟩
  rw [List.getElem?_map] at e
  cases e1 : os[j]? with
  | none => rw [e1] at e; cases e
  | some o2 =>
    rw [e1] at e
    cases e
    obtain ⟨v, h1, h2⟩ := g j o e1
    exact ⟨v, by rw [List.getElem?_map, h1]; rfl, h2⟩
/-- what was lent comes back, slot by slot: Fr j, what the callee's slot n + j owns now -/
theorem back_ok {G : Hp} : ∀ {ms : List (Option Nat)} {vs : List V} {outs : En} {env : En} {Fs : Nat → Fp} {Fr : Nat → Fp} {T : Fp} {n : Nat}, StOk K A G H σ env Fs → Lent σ env ms vs →
    (∀ j o, outs[j]? = some (some o) → ∃ v, vs[j]? = some v ∧ RepO K A G H o (Fr (n + j)) v) → (∀ j, (Fr j).Nodup) → (∀ i j b, b ∈ Fr i → b ∈ Fr j → i = j) → (∀ i b, b ∈ Fr i → G b = none ∧ H b ≠ none) → (∀ i j b, n ≤ i → b ∈ Fr i → b ∉ Fs j) → TOk G H Fs T → (∀ i b, b ∈ Fr i → b ∉ T) →
    ∃ Fs', StOk K A G H σ (backL ms outs env) Fs' ∧ TOk G H Fs' T ∧ (∀ i, some i ∉ ms → Fs' i = Fs i ∧ (backL ms outs env)[i]? = env[i]?) ∧ ∀ i b, b ∈ Fs' i → b ∈ Fs i ∨ ∃ j, b ∈ Fr j
  | [], vs, outs, env, Fs, Fr, T, n, so, l, h, nd, dj, ow, ap, tk, tt => ⟨Fs, by simpa [backL] using so, tk, fun i _ => ⟨rfl, by simp [backL]⟩, fun i b hb => .inl hb⟩
  | m :: ms, vs, [], env, Fs, Fr, T, n, so, l, h, nd, dj, ow, ap, tk, tt => ⟨Fs, by cases m <;> simpa [backL] using so, tk, fun i _ => ⟨rfl, by cases m <;> simp [backL]⟩, fun i b hb => .inl hb⟩
  | none :: ms, vs, o :: outs, env, Fs, Fr, T, n, so, l, h, nd, dj, ow, ap, tk, tt => by
    obtain ⟨v, ws, rfl, _, l2⟩ := l
    obtain ⟨Fs', a, b, c, d⟩ := back_ok (n := n + 1) so l2 (fun j o e => by
      obtain ⟨v', h1, h2⟩ := h (j + 1) o (by simpa using e)
      exact ⟨v', by simpa using h1, by rw [show n + 1 + j = n + (j + 1) by omega]; exact h2⟩) nd dj ow (fun i j b hi => ap i j b (by omega)) tk tt
    exact ⟨Fs', a, b, fun i hi => c i (by simpa using hi), d⟩
  | some i :: ms, vs, none :: outs, env, Fs, Fr, T, n, so, l, h, nd, dj, ow, ap, tk, tt => by
    obtain ⟨v, ws, rfl, kk, l2⟩ := l
    have tk' : TOk G H (upf Fs i []) T := ⟨tk.nd, fun j b hb hj => by
      by_cases hji : j = i
      · subst hji; rw [upf_same] at hj; cases hj
      · rw [upf_ne hji] at hj; exact tk.dj j b hb hj, tk.own⟩
    obtain ⟨Fs', a, b, c, d⟩ := back_ok (n := n + 1) (so.forget (i := i)) (l2.len (by simp)) (fun j o e => by
      obtain ⟨v', h1, h2⟩ := h (j + 1) o (by simpa using e)
      exact ⟨v', by simpa using h1, by rw [show n + 1 + j = n + (j + 1) by omega]; exact h2⟩) nd dj ow (fun l j b hi hb hj => by
        by_cases hji : j = i
        · subst hji; rw [upf_same] at hj; cases hj
        · rw [upf_ne hji] at hj; exact ap l j b (by omega) hb hj) tk' tt
    refine ⟨Fs', a, b, fun j hj => ?_, fun j b hb => ?_⟩
    · simp only [List.mem_cons, not_or] at hj
      have hji : j ≠ i := fun z => hj.1 (by rw [z])
      obtain ⟨c1, c2⟩ := c j hj.2
      exact ⟨by rw [c1, upf_ne hji], by rw [show backL (some i :: ms) (none :: outs) env = backL ms outs (env.set i none) from rfl, c2, List.getElem?_set_ne (Ne.symm hji)]⟩
    · rcases d j b hb with z | z
      · by_cases hji : j = i
        · subst hji; rw [upf_same] at z; cases z
        · rw [upf_ne hji] at z; exact .inl z
      · exact .inr z
  | some i :: ms, vs, some o :: outs, env, Fs, Fr, T, n, so, l, h, nd, dj, ow, ap, tk, tt => by
    obtain ⟨v, ws, rfl, kk, l2⟩ := l
    obtain ⟨hσ, hi⟩ := kk i rfl
    obtain ⟨v', h1, h2⟩ := h 0 o (by simp)
    cases h1
    have tk0 : TOk G H Fs (Fr n) := ⟨nd n, fun j b hb => ap n j b (Nat.le_refl _) hb, fun b hb => ow n b hb⟩
    have so' := so.assign tk0 (by simpa using h2) hi
    have eσ : σ.set i (some v) = σ := by
      refine List.ext_getElem? fun j => ?_
      by_cases hj : j = i
      · subst hj
        rw [List.getElem?_set_self (by rw [so.len]; exact hi), hσ]
      · rw [List.getElem?_set_ne (Ne.symm hj)]
    rw [eσ] at so'
    have tk' : TOk G H (upf Fs i (Fr n)) T := ⟨tk.nd, fun j b hb hj => by
      by_cases hji : j = i
      · subst hji; rw [upf_same] at hj; exact tt n b hj hb
      · rw [upf_ne hji] at hj; exact tk.dj j b hb hj, tk.own⟩
    obtain ⟨Fs', a, b, c, d⟩ := back_ok (n := n + 1) so' (l2.len (by simp)) (fun j o e => by
      obtain ⟨v', h1, h2⟩ := h (j + 1) o (by simpa using e)
      exact ⟨v', by simpa using h1, by rw [show n + 1 + j = n + (j + 1) by omega]; exact h2⟩) nd dj ow (fun l j b hl hb hj => by
        by_cases hji : j = i
        · subst hji
          rw [upf_same] at hj
          have := dj l n b hb hj
          omega
        · rw [upf_ne hji] at hj; exact ap l j b (by omega) hb hj) tk' tt
    refine ⟨Fs', a, b, fun j hj => ?_, fun j b hb => ?_⟩
    · simp only [List.mem_cons, not_or] at hj
      have hji : j ≠ i := fun z => hj.1 (by rw [z])
      obtain ⟨c1, c2⟩ := c j hj.2
      exact ⟨by rw [c1, upf_ne hji], by rw [show backL (some i :: ms) (some o :: outs) env = backL ms outs (env.set i (some o)) from rfl, c2, List.getElem?_set_ne (Ne.symm hji)]⟩
    · rcases d j b hb with z | z
      · by_cases hji : j = i
        · subst hji; rw [upf_same] at z; exact .inr ⟨n, z⟩
        · rw [upf_ne hji] at z; exact .inl z
      · exact .inr z
end

section
variable {X : Cx} {A : Tab} {W : WX} {occ occ1 occ2 : Nat → Bool} {fs : En → Res (List B × En)}
theorem sem_call {t : TA} {io : List Bool} {m : List O → Res (O × En)} (h : SemA X.K A W occ t fs) : SemE X.K A W occ (tCallS (spOf X.K A io m) (WE W) t) (evCall io m fs) := by
  intro G H σ env Fs Q so hq
  unfold evCall at hq
  rw [Res.wp_bind] at hq
  refine h G H σ env Fs _ so (Res.wp_mono hq (fun r hr vs G1 H1 Fs1 T s1 s2 s3 s4 s5 s6 => ?_) fun c e he => he)
  rw [Res.wp_bind] at hr
  obtain ⟨p, ep, hr⟩ := Res.wp_ofO hr
  obtain ⟨os, ms, e2⟩ := p
  obtain ⟨G2, Fs2, Fc, k⟩ := passL_ok s2 s4 s5 ep
  have lv : vs.length = io.length := by
    have : ∀ (ios : List Bool) (env env' : En) (bs : List B) (os : List O) (ms : List (Option Nat)), passL ios env bs = some (os, ms, env') → os.length = ios.length := by
      intro ios
      induction ios with
      | nil => intro env env' bs os ms e; cases bs with | nil => cases e; rfl | cons _ _ => cases e
      | cons io ios ih =>
        intro env env' bs os ms e
        cases bs with
        | nil => cases e
        | cons b bs =>
          simp only [passL] at e
          split at e
          · split at e
            · rename_i os' ms' e2' q2
              split at e
              · cases e; simp [ih _ _ _ _ _ q2]
              · cases e
            · cases e
          · cases e
    rw [← (k.r.get).1]
    exact this _ _ _ _ _ _ ep
  -- behind the call
  have after : ∀ {outs : En} {G' H' : Hp} {Fs' : Nat → Fp} {Tr : Fp}, Stp G2 H1 (fun j => Fc.getD j []) G' H' Fs' Tr → StOk X.K A G' H' (vs.map some) (maskE io outs) Fs' → TOk G' H' Fs' Tr →
      ∃ Fs3, Stp G H Fs G' H' Fs3 Tr ∧ StOk X.K A G' H' σ (backL ms (maskE io outs) e2) Fs3 ∧ Same' occ H env Fs H' (backL ms (maskE io outs) e2) Fs3 ∧ TOk G' H' Fs3 Tr := by
    intro outs G' H' Fs' Tr st so' tk'
    have nc : ∀ i b, b ∈ Fs2 i → ∀ j, b ∉ Fc.getD j [] := fun i b hb j hj => k.tko.dj i b (flat_get Fc j b hj) hb
    have same : ∀ i, ∀ b ∈ Fs2 i, H' b = H1 b := fun i b hb => by
      cases e : H1 b with
      | none => exact absurd e (k.so.own i b hb).2
      | some x => exact st.keep b x e (nc i b hb)
    have low : ∀ i b, b ∈ Fs2 i → G' b = none := fun i b hb => by
      cases e : G' b with
      | none => rfl
      | some x =>
        rcases st.gnew b x e with z | ⟨j, z⟩ | z
        · rw [(k.so.own i b hb).1] at z; cases z
        · exact absurd z (nc i b hb j)
        · exact absurd z (k.so.own i b hb).2
    have so2 : StOk X.K A G' H' σ e2 Fs2 := ⟨so'.sub, k.so.len, fun i o e => by
      obtain ⟨v, h1, h2⟩ := k.so.at_ i o e
      exact ⟨v, h1, RepO.keep st.g (same i) h2⟩, k.so.nd, k.so.dj, fun i b hb => ⟨low i b hb, by rw [same i b hb]; exact (k.so.own i b hb).2⟩⟩
    have new : ∀ b, ((∃ i, b ∈ Fs' i) ∨ b ∈ Tr) → ∀ j, b ∉ Fs2 j := fun b hb j hj => by
      rcases st.fnew b hb with ⟨l, z⟩ | z
      · exact nc j b hj l z
      · exact (k.so.own j b hj).2 z
    have tkr : TOk G' H' Fs2 Tr := ⟨tk'.nd, fun i b hb => new b (.inr hb) i, tk'.own⟩
    obtain ⟨Fs3, a, b, c, d⟩ := back_ok (n := 0) so2 (k.m.len k.len) (outs := maskE io outs) (Fr := Fs') (fun j o e => by
      obtain ⟨v, h1, h2⟩ := so'.at_ j o e
      rw [List.getElem?_map] at h1
      cases e1 : vs[j]? with
      | none => rw [e1] at h1; cases h1
      | some v' => rw [e1] at h1; cases h1; exact ⟨v, rfl, by simpa using h2⟩) so'.nd so'.dj so'.own (fun i j b _ hb => new b (.inl ⟨i, hb⟩) j) tkr (fun i b hb ht => tk'.dj i b ht hb)
    -- from the caller's beginning
    have up : ∀ b, (∃ j, b ∈ Fc.getD j []) → (∃ i, b ∈ Fs i) ∨ H b = none := fun b hb => by
      obtain ⟨j, hb⟩ := hb
      rcases k.f b (flat_get Fc j b hb) with z | z
      · exact s1.fnew b (.inl z)
      · exact s1.fnew b (.inr z)
    have stA : Stp G H Fs G' H' Fs3 Tr := by
      refine ⟨fun x y z => st.g _ _ (k.g _ _ (s1.g _ _ z)), fun x y z hn => ?_, fun x y z => ?_, fun x z => ?_⟩
      · refine st.keep x y (s1.keep x y z hn) fun j hj => ?_
        rcases up x ⟨j, hj⟩ with ⟨i, q⟩ | q
        · exact hn i q
        · rw [z] at q; cases q
      · rcases st.gnew x y z with q | q | q
        · rcases k.gn x y q with q | ⟨i, q⟩
          · exact s1.gnew x y q
          · exact .inr (s1.fnew x (.inl ⟨i, q⟩))
        · exact .inr (up x q)
        · exact .inr (s1.low x q)
      · have fromC : ((∃ i, x ∈ Fs' i) ∨ x ∈ Tr) → (∃ i, x ∈ Fs i) ∨ H x = none := fun q => by
          rcases st.fnew x q with q | q
          · exact up x q
          · exact s1.low x q
        rcases z with ⟨i, z⟩ | z
        · rcases d i x z with q | q
          · exact s1.fnew x (.inl ⟨i, k.fs i x q⟩)
          · exact fromC (.inl q)
        · exact fromC (.inr z)
    refine ⟨Fs3, stA, a, fun i hi => ?_, b⟩
    obtain ⟨f1, k1, g1⟩ := s3 i hi
    obtain ⟨f2, g2, nm⟩ := k.far i (bin_tou s6 hi)
    obtain ⟨f3, g3⟩ := c i nm
    refine ⟨f3.trans (f2.trans f1), fun x hx => ?_, g3.trans (g2.trans g1)⟩
    rw [same i x (by rw [f2, f1]; exact hx)]
    exact k1 x hx
  refine ⟨G2, fun j => Fc.getD j [], os, lv, k.entry, ?_⟩
  simp only at hr
  cases em : m os with
  | ok q =>
    rw [em] at hr
    intro v G' H' Fs' Tr st so' tk' ro
    obtain ⟨Fs3, a1, a2, a3, a4⟩ := after st so' tk'
    exact hr v G' H' Fs3 Tr a1 a2 a3 a4 ro trivial
  | exc c outs =>
    rw [em] at hr
    intro G' H' Fs' C d st so' hC
    obtain ⟨Fs3, a1, a2, a3, a4⟩ := after st so' .nil
    exact hr G' H' Fs3 C d a1 a2 a3 hC
  | stuck => rw [em] at hr; exact hr.elim
end
end Fz
end

section -- Fz17
namespace Fz
open PySem L2 RZ

section
variable {K : PySem.W.Frag} {A : Tab} {G H : Hp} {σ : St} {env : En} {Fs : Nat → Fp}
/-- an owned list is changed in its place, by arguments -/
theorem mut_core {G0 H0 : Hp} {Fs0 : Nat → Fp} {r : V → List V → Hp → VK → Prop} {g : List O → List O → Option (List O × D)} {T : Fp} {v : V} {b : B} {ws : List V} {bl : List B} {tt : List O × En} {x : Nat × List Sel × O × List O} {y : List O × D} {Q : VK}
    (hm : MutOk K A r g) (a0 : Stp G0 H0 Fs0 G H Fs T) (so : StOk K A G H σ env Fs) (tk : TOk G H Fs T) (bo : BorOk K A G H σ env Fs [] v b) (bs : BorsOk K A G H σ env Fs T ws bl) (et : tks env bl = some tt) (hst : stable (fun i => bl.any (tou i)) b = true)
    (ex : lstAt tt.2 b = some x) (ey : g x.2.2.2 tt.1 = some y)
    (hq : ∀ w G' H' Fs', Stp G0 H0 Fs0 G' H' Fs' [] → StOk K A G' H' σ (tt.2.set x.1 (some (x.2.2.1.put x.2.1 (.lst y.1)))) Fs' → (∀ j, j ≠ x.1 → bl.any (tou j) = false → Fs' j = Fs j ∧ (∀ c ∈ Fs j, H' c = H c) ∧ (tt.2.set x.1 (some (x.2.2.1.put x.2.1 (.lst y.1))))[j]? = env[j]?) → RepD K A G' y.2 w → Q w H') : r v ws H Q := by
  obtain ⟨G3, Fs3, T3, c1, c2, c3, c4, c5, far⟩ := tks_ok so tk bs et
  have sm3 : Same' (fun i => bl.any (tou i)) H env Fs H tt.2 Fs3 := fun i hi => by
    obtain ⟨f, e⟩ := far i hi
    exact ⟨f, fun _ _ => rfl, e⟩
  have bo3 : BorOk K A G3 H σ tt.2 Fs3 [] v b := bo.step c1 c2 sm3 hst (by simp) so
  obtain ⟨i, p, oo, os⟩ := x
  obtain ⟨nk, e0, e1, a, vs, rfl, hHa, hl⟩ := lstAt_ok c2 bo3 ex
  have stA : Stp G0 H0 Fs0 G3 H Fs3 T3 := (a0.trans tk c1).drop fun b hb => by simp [c5.subset hb]
  obtain ⟨oo', o1', F1, F', F2, ho, hf, hF, ro, _⟩ := id nk
  rw [e0] at ho; cases ho
  rw [e1] at hf; cases hf
  obtain ⟨a', vs', F0, ea, hHa', rfl, ros⟩ := id ro
  cases ea
  rw [hHa] at hHa'; cases hHa'
  have ndF : (a :: F0).Nodup := by
    have := c2.nd i
    rw [hF, List.append_assoc] at this
    exact (List.nodup_append.mp (List.nodup_append.mp this).2.1).1
  have djT : ∀ b ∈ a :: F0, b ∉ T3 := fun b hb z => c3.dj i b z (by rw [hF]; simp only [List.mem_append]; exact .inl (.inr hb))
  refine hm G3 H a vs ws os tt.1 y.1 F0 T3 y.2 Q c2.sub hHa ros c4 (List.nodup_cons.mp ndF).1 (djT a (by simp)) (List.nodup_cons.mp ndF).2 c3.nd (fun b hb => djT b (by simp [hb])) ey fun w vs2 Fn rd rn ndn na hn => ?_
  obtain ⟨Fs4, so4, far4, st4⟩ := mutate (u := .lst vs2) (o2 := .lst y.1) (T := T3) c2 c3 nk e0 e1 fun F'' r'' nd'' dj'' => by
    obtain ⟨a2, vs3, F3, ea2, h2, rfl, r3⟩ := r''
    cases ea2
    rw [hHa] at h2; cases h2
    have eF : F3 = F0 := RepOs.fp_inj r3 ros
    subst eF
    exact ⟨by simp, a :: Fn, ⟨a, vs2, Fn, rfl, upd_same, rfl, rn⟩, List.nodup_cons.mpr ⟨na, ndn⟩, fun b hb => by
      rcases List.mem_cons.mp hb with z | z
      · exact .inl (by simp [z])
      · exact (hn b z).imp (fun q => by simp [q]) id⟩
  refine hq w G3 (upd H a (.lst vs2)) Fs4 (st4.comp stA) so4 (fun j hji hj => ?_) rd
  obtain ⟨f1, g1⟩ := far j hj
  obtain ⟨f2, k2⟩ := far4 j hji
  exact ⟨f2.trans f1, fun b hb => k2 b (by rw [f1]; exact hb), (List.getElem?_set_ne (Ne.symm hji)).trans g1⟩
/-- o[k] = v; by k, v -/
def setG (os : List O) : List O → Option (List O × D)
  | [o, .val (.int k)] => match ixN os.length k with
    | some j => some (os.set j o, .non)
    | none => none
  | _ => none
theorem RepOs.set {o : O} {T2 : Fp} {y : V} : ∀ {os : List O} {T : Fp} {vs : List V} {j : Nat}, RepOs K A G H os T vs → j < os.length → T.Nodup → T2.Nodup → (∀ b ∈ T, b ∉ T2) → RepO K A G H o T2 y → ∃ Tn, RepOs K A G H (os.set j o) Tn (vs.set j y) ∧ Tn.Nodup ∧ ∀ b ∈ Tn, b ∈ T ∨ b ∈ T2
  | [], _, _, j, _, hj, _, _, _, _ => by simp at hj
  | p :: os, _, _, 0, h, _, n1, n2, dj, r => by
    obtain ⟨F1, F2, x, xs, rfl, rfl, h1, h2⟩ := h
    refine ⟨T2 ++ F2, ⟨T2, F2, y, xs, rfl, rfl, r, h2⟩, List.nodup_append.mpr ⟨n2, (List.nodup_append.mp n1).2.1, fun a ha b hb e => dj b (by simp [hb]) (e ▸ ha)⟩, fun b hb => ?_⟩
    rcases List.mem_append.mp hb with z | z
    · exact .inr z
    · exact .inl (by simp [z])
  | p :: os, _, _, j + 1, h, hj, n1, n2, dj, r => by
    obtain ⟨F1, F2, x, xs, rfl, rfl, h1, h2⟩ := h
    have nn := List.nodup_append.mp n1
    obtain ⟨Tn, r2, nd, hn⟩ := RepOs.set h2 (by simpa using hj) nn.2.1 n2 (fun b hb => dj b (by simp [hb])) r
    refine ⟨F1 ++ Tn, ⟨F1, Tn, x, _, rfl, rfl, h1, r2⟩, List.nodup_append.mpr ⟨nn.1, nd, fun a ha b hb e => ?_⟩, fun b hb => ?_⟩
    · subst e
      rcases hn a hb with z | z
      · exact nn.2.2 a ha a z rfl
      · exact dj a (by simp [ha]) z
    · rcases List.mem_append.mp hb with z | z
      · exact .inl (by simp [z])
      · exact (hn b z).imp (fun q => by simp [q]) id
def rSetG : V → List V → Hp → VK → Prop := fun o ws H Q => match ws with
  | [v, i] => rSetL o i v H (Q .non)
  | _ => False
theorem ixN_lt {n : Nat} {k : Int} {j : Nat} (h : ixN n k = some j) : j < n := by
  unfold ixN at h
  split at h
  · split at h
    · cases h; omega
    · cases h
  · split at h
    · cases h; omega
    · cases h
theorem mut_set : MutOk K A rSetG setG := by
  intro G H a vs ws os zs os' F T d Q s hH ros rzs na nt ndF ndT dj e k
  match zs, e with
  | [o, .val (.int i)], e =>
    simp only [setG] at e
    split at e
    · rename_i j hj
      cases e
      obtain ⟨F1, F2, y, ys, rfl, rfl, r1, F3, F4, z, zs, rfl, rfl, ⟨rfl, r2⟩, r3, rfl⟩ := rzs
      subst r3
      cases r2
      simp only [List.append_nil] at nt ndT dj k
      have hj' := ixN_lt hj
      obtain ⟨Tn, q1, q2, q3⟩ := RepOs.set (ros.at_upd (u := .lst (vs.set j y)) na) hj' ndF ndT dj (RepO.keep (fun _ _ h => h) (fun b hb => upd_ne (fun z : b = a => nt (by rw [← z]; exact hb))) r1)
      refine ⟨a, vs, i, j, rfl, rfl, hH, by rw [← ros.len]; exact hj, k .non _ Tn rfl q1 q2 (fun z => ?_) q3⟩
      rcases q3 a z with w | w
      · exact na w
      · exact nt w
    · cases e
end

/-! ### statements of the text -/
section
variable {X : Cx} {A : Tab} {W : WX} {occ occ1 occ2 occ3 : Nat → Bool} {asg asg1 asg2 : Nat → Bool} {pos pos' : Pos} {a b c e o : Expr} {es : List Expr} {fa fb fe fo : En → Res (B × En)} {fs : En → Res (List B × En)} {ga : En → Res (Bool × En)} {f g : En → Res (Fl × En)} {sa sb : List Stmt} {st : Stmt}
theorem ex_call {x : Str} {p : Pos} {k : Nat} {fn : Addr} {fd : FuncData} {ps : List Str} {io : List Bool} {m : List O → Res (O × En)} (F : FnOk X.prog X.w X.K X.mg X.base (L2.CX X.prog X.w) k fn fd ps (spOf X.K A io m)) (hr : Room k X.A) (hg : Gl X x) (hm : X.mg x = some (.ref fn)) (hk : PySem.W.keepIn X.K (.ref fn) = true) (hb : Binds X.K fd ps [])
    (tk : Takes X W) (h : ExA X A W occ (e :: es) fs) (hs : (e :: es).all notStar = true) (hd : (x == ("__debug__" : Str)) = false) : ExE X A W occ (.Call (.Name x p) (e :: es) [] pos) (evCall io m fs) := by
  obtain ⟨t, pa, sa⟩ := h
  simp only [List.all_cons, Bool.and_eq_true] at hs
  exact ⟨_, pe_callS (E := WE W) F hr hg hm hk hb (fun σ => passAt tk σ) pa hd (star_cons hs.1) (star_any hs.2), sem_call sa⟩
def noSwap : Expr → Bool
  | .ListComp .. => false
  | .SetComp .. => false
  | .DictComp .. => false
  | _ => true
theorem swap_no {t : Option Expr} {l : Nat} {env : Env} (h : noSwap e = true) : swapsWith e t l env = pure false := by
  cases e <;> first | rfl | cases h
theorem ess_nil : ExSs X A W (fun _ => false) [] flNx := ⟨_, pss_nil, semS_nx⟩
theorem ess_cons {rest : List Stmt} (h1 : ExS X A W asg1 st f) (h2 : ExSs X A W asg2 rest g) : ExSs X A W (fun i => asg1 i || asg2 i) (st :: rest) (flSeq f g) := by
  obtain ⟨t, p, s⟩ := h1
  obtain ⟨u, q, r⟩ := h2
  exact ⟨_, pss_cons p q, semS_seq s r⟩
theorem es_pass : ExS X A W (fun _ => false) (.Pass pos) flNx := ⟨_, ps_pass, semS_nx⟩
theorem es_break : ExS X A W (fun _ => false) (.Break pos) flBk := ⟨_, ps_break, semS_bk⟩
def flCt : En → Res (Fl × En) := fun env => .ok (.ct, env)
theorem semS_ct {K : PySem.W.Frag} : SemS K A W asg tCont flCt := fun G H σ env Fs D so hq => hq σ G H Fs [] .refl so .refl .nil
theorem es_cont : ExS X A W (fun _ => false) (.Continue pos) flCt := ⟨_, ps_continue, semS_ct⟩
theorem es_ex (h : ExE X A W occ e fe) (hs : noSwap e = true) : ExS X A W (fun _ => false) (.Expr e pos) (flEx fe) := by
  obtain ⟨t, p, s⟩ := h
  exact ⟨_, ps_expr p (swap_no hs), semS_ex s⟩
theorem es_set {i : Nat} {x : Str} (h : ExE X A W occ e fe) (hN : X.N.Nodup) (hi : X.N[i]? = some x) (hx : X.env.scope.names.lookup x = some .local) (hs : noSwap e = true) : ExS X A W (fun j => decide (j = i)) (.Assign [.Name x pos'] e pos) (flAsg i fe) := by
  obtain ⟨t, p, s⟩ := h
  exact ⟨_, ps_set hN hi (.inl hx) p (swap_no hs) (.inr hx), semS_asg s⟩
theorem es_setLc' {y : Str} {i : Nat} {py spos lpos : Pos} {elt tg iter : Expr} {ifs : List Expr} {scope : Scope} {own : List (Str × Nat)} {gg : TG} {as : List Nat} {ftg : D → En → Option En} {fi : En → Res (List D × En)} {fc : En → Res (Bool × En)} {fe : En → Res (B × En)} (hc : X.calm = true) (hkd : X.env.scope.kind = .function) (hN : X.N.Nodup) (hy : X.N[i]? = some y) (hyl : X.env.scope.names.lookup y = some .local) (hl : (py.line == lpos.line) = true) (hcap : (scope.names.any fun (n, k) => n == y && (k == .local || k == .cell)) = false) (ok : BlkOk X.N X.env.scope scope own) (hn : notSet iter = true)
    (hi : ExI X A W occ1 tg iter fi) (hg : ∀ c : Ctx4, PG (blkOf X scope c) tg gg) (sg : SemG X.K A as gg ftg) (has : ∀ i ∈ as, i ∈ own.map (·.2)) (ht : ∀ c : Ctx4, ExIfs (blkOf X scope c) A occ2 ifs fc) (he : ∀ c : Ctx4, ExE (blkOf X scope c) A W0 occ3 elt fe) :
    ExS X A W (fun j => decide (j = i)) (.Assign [.Name y py] (.ListComp elt [⟨tg, iter, ifs, 0⟩] scope lpos) spos) (flAsg i (evComp (own.map (·.2)) ftg fi fc fe)) := by
  obtain ⟨te, p, s⟩ := es_setLc (py := py) (spos := spos) hc hN hy hyl (sw_true hkd hyl hl hcap) ok hn hi hg sg has ht he
  exact ⟨_, p, semS_asg s⟩
theorem es_ret (h : ExE X A W occ e fe) : ExS X A W (fun _ => false) (.Return (some e) pos) (flRet fe) := by
  obtain ⟨t, p, s⟩ := h
  exact ⟨_, ps_ret p, semS_ret s⟩
theorem es_retN : ExS X A W (fun _ => false) (.Return none pos) flRetN := ⟨_, ps_retN, semS_retN⟩
theorem es_if (hc : ExT X A W occ c ga) (h1 : ExSs X A W asg1 sa f) (h2 : ExSs X A W asg2 sb g) : ExS X A W (fun i => asg1 i || asg2 i) (.If c sa sb pos) (flIf ga f g) := by
  obtain ⟨_, p, s⟩ := hc
  obtain ⟨_, p1, s1⟩ := h1
  obtain ⟨_, p2, s2⟩ := h2
  exact ⟨_, ps_if p p1 p2, semS_if s s1 s2⟩
theorem es_while {n : Nat} (hp : PassesOwn (model X.prog X.w) X.A X.env X.xe) (hc : ExT X A W occ c ga) (h : ExSs X A W asg sa f) : ExS X A W asg (.While c sa [] pos) (flWhile n ga f) := by
  obtain ⟨_, p, s⟩ := hc
  obtain ⟨_, p1, s1⟩ := h
  exact ⟨_, ps_while hp p p1, semS_while s s1⟩
theorem es_for {tg iter : Expr} {gg : TG} {as : List Nat} {ftg : D → En → Option En} {fi : En → Res (List D × En)} (hp : PassesOwn (model X.prog X.w) X.A X.env X.xe) (hc : X.calm = true) (hi : ExI X A W occ tg iter fi) (hg : PG X tg gg) (sg : SemG X.K A as gg ftg) (h : ExSs X A W asg sa f) (hn : notSet iter = true) :
    ExS X A W (fun i => decide (i ∈ as) || asg i) (.For tg iter sa [] pos) (flForI fi ftg f) := by
  obtain ⟨_, p, s⟩ := hi
  obtain ⟨_, p1, s1⟩ := h
  exact ⟨_, ps_for hp hc p hg p1 (folded_of hn), semS_for s sg s1⟩
/-- targets of the text -/
def ExG (X : Cx) (A : Tab) (as : List Nat) (tg : Expr) (f : D → En → Option En) : Prop := ∃ t, PG X tg t ∧ SemG X.K A as t f
theorem eg_name {i : Nat} {x : Str} (hN : X.N.Nodup) (hi : X.N[i]? = some x) (hx : X.env.scope.names.lookup x = some .local) : ExG X A [i] (.Name x pos) (setTgt (.nm i)) := ⟨_, pg_name hN hi (.inl hx) (.inr hx), semG_name⟩
def ExGs (X : Cx) (A : Tab) (as : List Nat) (ts : List Expr) : Prop := ∃ t, PGs X ts t ∧ SemGs X.K A as t (setDs as)
theorem egs_nil : ExGs X A [] [] := ⟨_, pgs_nil, semGs_nil⟩
def isName : Expr → Bool
  | .Name .. => true
  | _ => false
theorem egs_cons {i : Nat} {is : List Nat} {x : Str} {ts : List Expr} (hN : X.N.Nodup) (hi : X.N[i]? = some x) (hx : X.env.scope.names.lookup x = some .local) (h : ExGs X A is ts) : ExGs X A (i :: is) (.Name x pos :: ts) := by
  obtain ⟨t, p, s⟩ := h
  exact ⟨_, pgs_cons (pg_name hN hi (.inl hx) (.inr hx)) p rfl, semGs_cons s⟩
theorem asg_len {env : Env} : ∀ {ts : List Expr}, ts.all isName = true → (assignEach ts env).length = ts.length ∧ (assignEach ts env).findIdx? (·.1) = none
  | [], _ => ⟨rfl, rfl⟩
  | t :: ts, h => by
    simp only [List.all_cons, Bool.and_eq_true] at h
    obtain ⟨a, b⟩ := asg_len (env := env) h.2
    cases t <;> first | cases h.1 | skip
    simp [assignEach, List.findIdx?_cons, a, b]
theorem eg_tup {is : List Nat} {ts : List Expr} {k : Nat} (hc : X.calm = true) (h : ExGs X A is ts) (hn : ts.all isName = true) (hl : ts.length = is.length) : ExG X A is (.Tuple ts k pos) (setTgt (.tup is)) := by
  obtain ⟨t, p, s⟩ := h
  exact ⟨_, pg_tup (n := ts.length) hc p (asg_len hn).1 (asg_len hn).2, semG_tup hl s⟩
end
end Fz
end

section -- Fz18
namespace Fz
open PySem L2 RZ

/-! ### o[k] = v -/
def flSetI (fs : En → Res (List B × En)) : En → Res (Fl × En) := fun env => (fs env).bind fun r => match r.1 with
  | [bv, bo, bk] => (Res.ofO (tks r.2 [bv, bk])).bind fun t => if stable (fun i => [bv, bk].any (tou i)) bo = true then
      (Res.ofO (lstAt t.2 bo)).bind fun x => (Res.ofO (setG x.2.2.2 t.1)).bind fun y => .ok (.nx, t.2.set x.1 (some (x.2.2.1.put x.2.1 (.lst y.1)))) else .stuck
  | _ => .stuck
theorem bor_place {K : PySem.W.Frag} {A : Tab} {G H : Hp} {σ : St} {env env' : En} {Fs : Nat → Fp} {T : Fp} {v : V} {b : B} {x : Nat × List Sel × O × List O} (h : BorOk K A G H σ env Fs T v b) (e : lstAt env' b = some x) : T = [] := by
  cases b with
  | slot i => exact h.1
  | nest i p => exact h.1
  | tmp o => unfold lstAt place at e; cases e
section
variable {K : PySem.W.Frag} {A : Tab} {W : WX} {occ occ1 occ2 : Nat → Bool} {asg : Nat → Bool} {fs : En → Res (List B × En)} {fe : En → Res (B × En)}
theorem semS_setI {te to ti : TE} (h : SemA K A W occ (tCons te (tCons to (tCons ti tNil))) fs) : SemS K A W asg (tAsg te (gSub to ti rSetL)) (flSetI fs) := by
  intro G H σ env Fs D so hq
  unfold flSetI at hq
  rw [Res.wp_bind] at hq
  have := h G H σ env Fs (fun vs H1 => match vs with
    | [v, o, i] => rSetL o i v H1 fun H2 => D.nx σ H2
    | _ => False) so (Res.wp_mono hq (fun r hr vs G1 H1 Fs1 T s1 s2 s3 s4 s5 s6 => ?_) fun c e he G' H' Fs' C d a b _ => he σ G' H' Fs' C d a b .refl)
  · exact this
  split at hr
  · rename_i bv bo bk hb
    rw [Res.wp_bind] at hr
    obtain ⟨t, et, hr⟩ := Res.wp_ofO hr
    split at hr
    · rename_i hst
      rw [Res.wp_bind] at hr
      obtain ⟨x, ex, hr⟩ := Res.wp_ofO hr
      rw [Res.wp_bind] at hr
      obtain ⟨y, ey, hr⟩ := Res.wp_ofO hr
      rw [hb] at s5
      obtain ⟨T1, R1, v, vs1, rfl, rfl, b1, T2, R2, o, vs2, rfl, rfl, b2, T3, R3, i, vs3, rfl, rfl, b3, rfl, rfl⟩ := s5
      have hT2 := bor_place b2 ex
      subst hT2
      show rSetL o i v H1 _
      have key := mut_core (r := rSetG) (g := setG) (Q := fun _ H' => D.nx σ H') mut_set s1 s2 s4 b2 (ws := [v, i]) (bl := [bv, bk]) ⟨T1, T3, v, [i], by simp, rfl, b1, T3, [], i, [], by simp, rfl, b3, rfl, rfl⟩ et hst ex ey fun w G' H' Fs' a1 a2 a3 a4 => hr σ G' H' Fs' [] a1 a2 .refl .nil
      exact key
    · exact hr.elim
  · exact hr.elim
/-- x[a], x[b] = a pair by worth -/
def setAt (env : En) (i j : Nat) (d : D) : Option En := match env[i]?, env[j]? with
  | some (some (.lst os)), some (some (.val (.int k))) => match ixN os.length k with
    | some n => some (env.set i (some (.lst (os.set n (.val d)))))
    | none => none
  | _, _ => none
def flSet2 (i a b : Nat) (f : En → Res (B × En)) : En → Res (Fl × En) := fun env => (f env).bind fun r => (Res.ofO (fzAll r.2 [r.1])).bind fun q => match q.1 with
  | [.tup [d1, d2]] => (Res.ofO (setAt q.2 i a d1)).bind fun e1 => (Res.ofO (setAt e1 i b d2)).bind fun e2 => .ok (.nx, e2)
  | _ => .stuck
theorem set_at {G0 H0 G H : Hp} {σ : St} {env env' : En} {Fs0 Fs : Nat → Fp} {i j : Nat} {d : D} {v : V} {Q : Hp → Prop} (a0 : Stp G0 H0 Fs0 G H Fs []) (so : StOk K A G H σ env Fs) (rd : RepD K A G d v) (e : setAt env i j d = some env')
    (hq : ∀ G' H' Fs', Stp G0 H0 Fs0 G' H' Fs' [] → Sub G G' → StOk K A G' H' σ env' Fs' → Q H') : gSub (tVar i) (tVar j) rSetL v σ H fun _ H' => Q H' := by
  unfold setAt at e
  split at e
  · rename_i os k hi hj
    split at e
    · rename_i n hn
      cases e
      obtain ⟨o, ho, ro⟩ := so.at_ i _ hi
      obtain ⟨c, hc, rc⟩ := so.at_ j _ hj
      obtain ⟨_, rc⟩ := rc
      cases rc
      refine ⟨o, ho, .int k, hc, ?_⟩
      have ex : lstAt env (.slot i) = some (i, [], .lst os, os) := by simp [lstAt, place, hi, O.follow]
      have key := mut_core (G0 := G) (H0 := H) (Fs0 := Fs) (r := rSetG) (g := setG) (Q := fun _ H' => Q H') (T := []) (b := .slot i) (v := o) (ws := [v, .int k]) (bl := [.tmp (.val d), .tmp (.val (.int k))]) (tt := ([.val d, .val (.int k)], env)) (x := (i, [], .lst os, os)) (y := (os.set n (.val d), .non)) mut_set .refl so .nil ⟨rfl, ho⟩
        (show BorsOk K A G H σ env Fs [] [v, .int k] [.tmp (.val d), .tmp (.val (.int k))] from ⟨[], [], v, [.int k], rfl, rfl, ⟨rfl, rd⟩, [], [], .int k, [], rfl, rfl, ⟨rfl, rfl⟩, rfl, rfl⟩) (by simp [tks, tk, notNest]) rfl ex (by simp [setG, hn]) fun w G' H' Fs' a1 a2 a3 a4 => hq G' H' Fs' (a0.trans0 a1) a1.g a2
      exact key
    · cases e
  · cases e
theorem semS_set2 {te : TE} {i a b : Nat} (h : SemE K A W occ te fe) : SemS K A W asg (tAsg te (gTup K 2 (gCons (gSub (tVar i) (tVar a) rSetL) (gCons (gSub (tVar i) (tVar b) rSetL) gNil)))) (flSet2 i a b fe) := by
  intro G H σ env Fs D so hq
  unfold flSet2 at hq
  rw [Res.wp_bind] at hq
  refine h G H σ env Fs _ so (Res.wp_mono hq (fun r hr v G1 H1 Fs1 T s1 s2 _ s4 s5 _ => ?_) fun c e he G' H' Fs' C d a b _ => he σ G' H' Fs' C d a b .refl)
  rw [Res.wp_bind] at hr
  obtain ⟨q, eq, hr⟩ := Res.wp_ofO hr
  obtain ⟨ds, e2⟩ := q
  split at hr
  · rename_i d1 d2 hd
    simp only at hd
    subst hd
    rw [Res.wp_bind] at hr
    obtain ⟨e3, h3, hr⟩ := Res.wp_ofO hr
    rw [Res.wp_bind] at hr
    obtain ⟨e4, h4, hr⟩ := Res.wp_ofO hr
    obtain ⟨G2, Fs2, st2, so2, rd⟩ := fz1_ok s1 s2 s4 s5 eq
    obtain ⟨p, xs, rfl, hp, x, xs1, rfl, r1, y, xs2, rfl, r2, rfl⟩ := rd
    refine ⟨p, _, rfl, SqT.sub so2.sub hp, rfl, x, [y], rfl, ?_⟩
    refine set_at st2 so2 r1 h3 fun G3 H3 Fs3 a1 g1 a2 => ⟨y, [], rfl, ?_⟩
    exact set_at a1 a2 (RepD.sub g1 r2) h4 fun G4 H4 Fs4 b1 g2 b2 => ⟨rfl, hr σ G4 H4 Fs4 [] b1 b2 .refl .nil⟩
  · exact hr.elim
end
section
variable {X : Cx} {A : Tab} {W : WX} {occ occ1 occ2 occ3 : Nat → Bool} {asg asg1 asg2 : Nat → Bool} {pos pos' p1 p2 p3 p4 p5 p6 : Pos} {a b c e o i : Expr} {es : List Expr} {fa fb fe fo : En → Res (B × En)} {fs : En → Res (List B × En)}
theorem swapS_no {t : Expr} {l : Nat} {env : Env} (h : noSwap e = true) : swapsWithSole [t] e l env = pure false := swap_no h
/-- not a pair that is stored from the right -/
def notDisp : Expr → Bool
  | .Tuple .. => false
  | .List .. => false
  | _ => true
theorem stores_no {ts : List Expr} {env : Env} (h : notDisp e = true) : swappedStores ts e env = pure none := by
  unfold swappedStores
  cases e <;> first | cases h | skip
  all_goals (split <;> first | rfl | skip)
  all_goals simp_all
theorem es_asgT {ts : List Expr} {k : Nat} {as : List Nat} {f : D → En → Option En} (h : ExE X A W occ e fe) (hg : ExG X A as (.Tuple ts k pos') f) (hs : noSwap e = true) (hd : notDisp e = true) : ExS X A W (fun j => decide (j ∈ as)) (.Assign [.Tuple ts k pos'] e pos) (flAsgT f fe) := by
  obtain ⟨t, p, s⟩ := h
  obtain ⟨g, p2, s2⟩ := hg
  exact ⟨_, ps_asg p p2 (swapS_no hs) (stores_no hd) rfl, semS_asgT s s2⟩
theorem stores_sub {env : Env} : swappedStores [.Subscript o i pos'] e env = pure none := by
  unfold swappedStores
  rfl
theorem es_setI (he : ExE X A W occ1 e fe) (ho : ExE X A W occ2 o fo) (hi : ExE X A W occ3 i fa) (hs : noSwap e = true) (hn : notSlice i = true) :
    ExS X A W (fun _ => false) (.Assign [.Subscript o i pos'] e pos) (flSetI (evsCons (fun j => occ2 j || (occ3 j || false)) fe (evsCons (fun j => occ3 j || false) fo (evsCons (fun _ => false) fa evsNil)))) := by
  obtain ⟨_, q1, s1⟩ := he
  obtain ⟨_, q2, s2⟩ := ho
  obtain ⟨_, q3, s3⟩ := hi
  exact ⟨_, ps_asg q1 (pg_sub q2 q3 set_list (fun v => by cases i <;> first | rfl | cases hn)) (swapS_no hs) stores_sub rfl, semS_setI (semA_cons s1 (semA_cons s2 (semA_cons s3 semA_nil)))⟩
theorem es_set2 {x y z : Str} {ix iy iz : Nat} {k : Nat} (he : ExE X A W occ1 e fe) (hc : X.calm = true) (hx : X.N[ix]? = some x) (hy : X.N[iy]? = some y) (hz : X.N[iz]? = some z) (vx : Vis X.env.scope x) (vy : Vis X.env.scope y) (vz : Vis X.env.scope z)
    (dx : (x == ("__debug__" : Str)) = false) (dx2 : (x == ("__classdict__" : Str)) = false) (dy : (y == ("__debug__" : Str)) = false) (dy2 : (y == ("__classdict__" : Str)) = false) (dz : (z == ("__debug__" : Str)) = false) (dz2 : (z == ("__classdict__" : Str)) = false) (hs : noSwap e = true)
    (hw : swappedStores [.Tuple [.Subscript (.Name x p1) (.Name y p2) p3, .Subscript (.Name x p4) (.Name z p5) p6] k pos'] e X.env = pure none) :
    ExS X A W (fun _ => false) (.Assign [.Tuple [.Subscript (.Name x p1) (.Name y p2) p3, .Subscript (.Name x p4) (.Name z p5) p6] k pos'] e pos) (flSet2 ix iy iz fe) := by
  obtain ⟨_, q1, s1⟩ := he
  refine ⟨_, ps_asg q1 (pg_tup (n := 2) hc (pgs_cons (pg_sub (pe_var hx vx dx dx2) (pe_var hy vy dy dy2) set_list) (pgs_cons (pg_sub (pe_var hx vx dx dx2) (pe_var hz vz dz dz2) set_list) pgs_nil))) (swapS_no hs) hw rfl, semS_set2 s1⟩
/-! x op= e, x an int's name -/
theorem es_aug {op : Operator} {g : D → D → Option O} {x : Str} {i : Nat} (ho : OpOk X A (inplaceOp op) g) (h : ExE X A W occ e fe) (hN : X.N.Nodup) (hi : X.N[i]? = some x) (hx : X.env.scope.names.lookup x = some .local) :
    ExS X A W (fun j => decide (j = i)) (.AugAssign (.Name x pos') op e pos) (flAsg i (opL (g2 g) (evsCons (fun i => occ i || false) (evName i) (evsCons (fun _ => false) fe evsNil)))) := by
  obtain ⟨r, o, k⟩ := ho
  obtain ⟨_, q, s⟩ := h
  have sn : SemE X.K A W (fun j => decide (j = i)) (tVar i) (evName i) := fun G H σ env Fs Q so hq => by
    unfold evName at hq
    split at hq
    · rename_i o e
      obtain ⟨v, hv, _⟩ := so.at_ i o e
      exact ⟨v, hv, hq v G H Fs [] .refl so .refl .nil ⟨rfl, hv⟩ (by simp [BIn])⟩
    · exact hq.elim
  refine ⟨_, ps_aug hN hi (.inl hx) q o (.inr hx), ?_⟩
  have := semS_asg (i := i) (sem_op (A := A) (W := W) (f := inplaceOp op) rfl k sn s)
  exact this
theorem ok_iadd : OpOk X A (inplaceOp .Add) (b2 fun i j => some (i + j)) := OpOk.int0 iop_add
/-! is -/
theorem RepL.isNon {K : PySem.W.Frag} {G H : Hp} {d : D} {v : V} (h : RepL K A G H d v) : decide (v = .non) = (match d with | .non => true | _ => false) := by
  rcases h with h | ⟨_, _, _, rfl, rfl, _⟩
  · cases d <;> simp only [RepD] at h
    all_goals first
      | (subst h; simp; done)
      | (obtain ⟨a, xs, rfl, _⟩ := h; simp; done)
      | (obtain ⟨a, rfl, _⟩ := h; simp; done)
      | (obtain ⟨a, C, dx, xs, rfl, _⟩ := h; simp; done)
      | (obtain ⟨a, _, rfl⟩ := h; simp; done)
  · simp
theorem ok_is : OpOk X A (compareOp .Is) (fun d e => (isO d e).map fun b => .val (.bl b)) := by
  refine .or (g1 := fun d e => match e with | .non => (isO d .non).map fun b => .val (.bl b) | _ => none) (g2 := fun d e => match d, e with | .bl a, .bl b => some (.val (.bl (decide (a = b)))) | _, _ => none) ⟨_, op_isN, fun G H x y d e o Q s rx ry hg k => ?_⟩ ⟨_, op_isBl, fun G H x y d e o Q s rx ry hg k => ?_⟩ fun d e o h => ?_
  · cases e <;> try cases hg
    refine ⟨ry.non, ?_⟩
    rw [rx.isNon]
    cases d <;> (cases hg; exact k _ _ _ _ (Grow.sc s rfl))
  · cases d <;> cases e <;> try cases hg
    exact ⟨_, _, rx.bl, ry.bl, k _ _ _ _ (Grow.sc s rfl)⟩
  · cases d <;> cases e <;> first | exact .inl h | exact .inr h | cases h
theorem ok_isNot : OpOk X A (compareOp .IsNot) (fun d e => (isO d e).map fun b => .val (.bl (!b))) := by
  refine .or (g1 := fun d e => match e with | .non => (isO d .non).map fun b => .val (.bl (!b)) | _ => none) (g2 := fun d e => match d, e with | .bl a, .bl b => some (.val (.bl (!decide (a = b)))) | _, _ => none) ⟨_, op_notN, fun G H x y d e o Q s rx ry hg k => ?_⟩ ⟨_, op_notBl, fun G H x y d e o Q s rx ry hg k => ?_⟩ fun d e o h => ?_
  · cases e <;> try cases hg
    refine ⟨ry.non, ?_⟩
    rw [rx.isNon]
    cases d <;> (cases hg; exact k _ _ _ _ (Grow.sc s rfl))
  · cases d <;> cases e <;> try cases hg
    exact ⟨_, _, rx.bl, ry.bl, k _ _ _ _ (Grow.sc s rfl)⟩
  · cases d <;> cases e <;> first | exact .inl h | exact .inr h | cases h
/-! {} -/
def evD0 : En → Res (B × En) := fun env => .ok (.tmp (.dct []), env)
theorem semE_new {K : PySem.W.Frag} {u : HO} {o : O} (h : ∀ (G H : Hp) (p : Addr), H p = some u → RepO K A G H o [p] (.ref p)) : SemE K A W occ (fun _ H Q => ∀ p, H p = none → Q (.ref p) (upd H p u)) (fun env => .ok (.tmp o, env)) := by
  intro G H σ env Fs Q so hq p hp
  have gp := sub_none so.sub hp
  have gr : Grow K A G H o [p] (.ref p) G (upd H p u) := .put so.sub hp (h G _ p upd_same) (by simp) (by simp)
  obtain ⟨so2, tk2, same⟩ := GrowT.so so .nil gr
  exact hq (.ref p) G _ Fs [p] (GrowT.stp .refl gr) so2 (fun i hi => ⟨rfl, fun c hc => same i c hc, rfl⟩) tk2 gr.r trivial
theorem ex_d0K : ExE X A W occ (.Dict [] [] pos) evD0 := ⟨_, pe_dnewK, semE_new fun G H p hp => ⟨p, [], rfl, rfl, .inl ⟨[], hp, rfl, rfl⟩⟩⟩
theorem ex_d0T : ExE X A W occ (.Dict [] [] pos) evD0 := ⟨_, pe_dnewT, semE_new fun G H p hp => ⟨p, [], rfl, rfl, .inr ⟨[], hp, rfl, rfl⟩⟩⟩
end
end Fz
end

section -- Fz18b
namespace Fz
open PySem L2 RZ

/-! ### {k: v, ..} by constant keys -/
def tAs : List TE → TA
  | [] => tNil
  | t :: ts => tCons t (tAs ts)
theorem tPairs_eq : ∀ (ks : List Key) (ts : List TE) (σ : St) (H : Hp) (Q : List (V × V) → Hp → Prop), ks.length = ts.length →
    tPairs ((ks.map fun k => tC (kV k)).zip ts) σ H Q = tAs ts σ H fun vs H' => Q ((ks.map kV).zip vs) H'
  | [], [], σ, H, Q, _ => rfl
  | k :: ks, t :: ts, σ, H, Q, h => by
    show t σ H (fun y H2 => tPairs ((ks.map fun k => tC (kV k)).zip ts) σ H2 fun ps H3 => Q ((kV k, y) :: ps) H3) = t σ H fun y H2 => tAs ts σ H2 fun vs H3 => Q ((kV k, y) :: (ks.map kV).zip vs) H3
    congr 1
    funext y H2
    exact tPairs_eq ks ts σ H2 _ (by simpa using h)
  | [], _ :: _, _, _, _, h => by simp at h
  | _ :: _, [], _, _, _, h => by simp at h
inductive PEs (X : Cx) : List Expr → List TE → Prop
  | nil : PEs X [] []
  | cons {e es t ts} (h : PE X e t) (r : PEs X es ts) : PEs X (e :: es) (t :: ts)
theorem PEs.len {X : Cx} {es : List Expr} {ts : List TE} (h : PEs X es ts) : es.length = ts.length := by
  induction h with
  | nil => rfl
  | cons _ _ ih => simp [ih]
def ExV (X : Cx) (A : Tab) (W : WX) (occ : Nat → Bool) (es : List Expr) (f : En → Res (List B × En)) : Prop := ∃ ts, PEs X es ts ∧ SemA X.K A W occ (tAs ts) f
def keyE : Key → Option Expr → Bool
  | .inl i, some (.Constant (.int j) _ _) => decide (i = j)
  | .inr x, some (.Constant (.str y) _ _) => decide (x = y)
  | _, _ => false
def keysE : List Key → List (Option Expr) → Bool
  | [], [] => true
  | k :: ks, e :: es => keyE k e && keysE ks es
  | _, _ => false
def dKey : Key → D
  | .inl i => .int i
  | .inr x => .str x
def mkDct (ks : List Key) (os : List O) : Option O := if ks.Nodup ∧ ks.length ≤ 15 ∧ os.length = ks.length then some (.dct ((ks.map dKey).zip os)) else none
theorem mergeK_self : ∀ (kvs acc : List (Key × V)), (acc.map (·.1) ++ kvs.map (·.1)).Nodup → mergeK acc kvs = acc ++ kvs
  | [], acc, _ => by simp [mergeK]
  | p :: r, acc, h => by
    show mergeK (putK acc p.1 p.2) r = _
    have hn : (acc.any fun kv => decide (kv.1 = p.1)) = false := by
      rw [List.any_eq_false]
      intro q hq e
      have e' : q.1 = p.1 := of_decide_eq_true e
      have := (List.nodup_append.mp h).2.2 q.1 (List.mem_map_of_mem hq) p.1 (by simp)
      exact this e'
    have e : putK acc p.1 p.2 = acc ++ [p] := by unfold putK; rw [hn]; simp
    rw [e, mergeK_self r (acc ++ [p]) (by simpa using h)]
    simp
theorem repOK1_of {K : PySem.W.Frag} {A : Tab} {G H : Hp} : ∀ {ks : List Key} {os : List O} {T : Fp} {vs : List V}, os.length = ks.length → RepOs K A G H os T vs → RepOK1 K A G H ((ks.map dKey).zip os) T (ks.zip vs)
  | [], [], _, _, _, h => by obtain ⟨rfl, rfl⟩ := h; exact ⟨rfl, rfl⟩
  | k :: ks, o :: os, _, _, hl, h => by
    obtain ⟨F1, F2, x, xs, rfl, rfl, h1, h2⟩ := h
    exact ⟨F1, F2, k, x, _, rfl, rfl, by cases k <;> rfl, h1, repOK1_of (by simpa using hl) h2⟩
  | [], _ :: _, _, _, h, _ => by simp at h
  | _ :: _, [], _, _, h, _ => by simp at h
theorem zip_kV : ∀ (ks : List Key) (vs : List V), (ks.map kV).zip vs = (ks.zip vs).map fun kv => (kV kv.1, kv.2)
  | [], _ => by simp
  | _ :: _, [] => by simp
  | k :: ks, v :: vs => by simp [zip_kV ks vs]
section
variable {K : PySem.W.Frag} {A : Tab} {W : WX} {occ occ1 occ2 : Nat → Bool} {fs : En → Res (List B × En)}
theorem sem_disp {ks : List Key} {ts : List TE} (hl : ks.length = ts.length) (h : SemA K A W occ (tAs ts) fs) : SemE K A W occ (tDisp ((ks.map fun k => tC (kV k)).zip ts)) (opT (mkDct ks) fs) := by
  intro G H σ env Fs Q so hq p hp
  rw [tPairs_eq ks ts σ _ _ hl]
  have gp := sub_none so.sub hp
  have np : ∀ i, p ∉ Fs i := fun i z => (so.own i p z).2 hp
  have so0 := so.upd (u := .dK []) np gp
  have cv : ∀ {G1 H1 : Hp} {Fs1 : Nat → Fp} {T1 : Fp}, Stp G (upd H p (.dK [])) Fs G1 H1 Fs1 T1 → Stp G H Fs G1 H1 Fs1 T1 := fun {G1 H1 Fs1 T1} st => by
    refine ⟨st.g, fun b x e hn => ?_, fun b x e => ?_, fun b e => ?_⟩
    · exact st.keep b x (by rw [upd_ne (ne_of_none e hp)]; exact e) hn
    · rcases st.gnew b x e with z | z | z
      · exact .inl z
      · exact .inr (.inl z)
      · refine .inr (.inr ?_)
        by_cases hb : b = p
        · rw [hb]; exact hp
        · rw [upd_ne hb] at z; exact z
    · rcases st.fnew b e with z | z
      · exact .inl z
      · refine .inr ?_
        by_cases hb : b = p
        · rw [hb]; exact hp
        · rw [upd_ne hb] at z; exact z
  have cs : ∀ {H1 : Hp} {e1 : En} {Fs1 : Nat → Fp}, Same' occ (upd H p (.dK [])) env Fs H1 e1 Fs1 → Same' occ H env Fs H1 e1 Fs1 := fun {H1 e1 Fs1} sm i hi => by
    obtain ⟨a, b, c⟩ := sm i hi
    exact ⟨a, fun x hx => by rw [b x hx, upd_ne (fun z : x = p => np i (by rw [← z]; exact hx))], c⟩
  refine h G _ σ env Fs _ so0 ?_
  unfold opT at hq
  rw [Res.wp_bind] at hq
  refine Res.wp_mono hq (fun r1 hr1 vs G' H' Fs' T st so' sm tk b bi => ?_) fun c e he G' H' Fs' C d a1 a2 a3 => he G' H' Fs' C d (cv a1) a2 (cs a3)
  rw [Res.wp_bind] at hr1
  obtain ⟨q, e1, hr1⟩ := Res.wp_ofO hr1
  rw [Res.wp_bind] at hr1
  obtain ⟨o, e2, hr1⟩ := Res.wp_ofO hr1
  obtain ⟨G1, Fs1, T1, st1, so1, tk1, r1', sl, far⟩ := tks_ok so' tk b e1
  unfold mkDct at e2
  split at e2
  · rename_i hk
    cases e2
    obtain ⟨nd, h15, lo⟩ := hk
    have lv : vs.length = ks.length := by rw [← lo]; exact r1'.len.symm
    have hp1 : H' p = some (.dK []) := st.keep p _ upd_same np
    have stA : Stp G (upd H p (.dK [])) Fs G1 H' Fs1 T1 := (st.trans tk st1).drop fun b hb => by simp [sl.subset hb]
    have fr : ∀ b, ((∃ i, b ∈ Fs1 i) ∨ b ∈ T1) → b ≠ p := fun b hb z => by
      subst z
      rcases stA.fnew b hb with ⟨i, q⟩ | q
      · exact np i q
      · rw [upd_same] at q; cases q
    have gp1 : G1 p = none := by
      cases e : G1 p with
      | none => rfl
      | some x =>
        rcases stA.gnew p x e with z | ⟨i, z⟩ | z
        · rw [gp] at z; cases z
        · exact absurd z (np i)
        · rw [upd_same] at z; cases z
    refine ⟨hp1, ks.zip vs, ?_, by rw [List.length_zip]; omega, ?_⟩
    · exact zip_kV ks vs
    · have em : mergeK [] (ks.zip vs) = ks.zip vs := by
        have : (ks.zip vs).map (·.1) = ks := by rw [List.map_fst_zip (by omega)]
        have := mergeK_self (ks.zip vs) [] (by simpa [this] using nd)
        simpa using this
      rw [em]
      have kT : ∀ b ∈ T1, upd H' p (.dK (ks.zip vs)) b = H' b := fun b hb => upd_ne (fr b (.inr hb))
      refine hr1 (.ref p) G1 (upd H' p (.dK (ks.zip vs))) Fs1 (p :: T1) ?_ (so1.upd (fun i z => fr p (.inl ⟨i, z⟩) rfl) gp1) (fun i hi => ?_) ⟨List.nodup_cons.mpr ⟨fun z => fr p (.inr z) rfl, tk1.nd⟩, fun i b hb z => ?_, fun b hb => ?_⟩ ⟨p, T1, rfl, rfl, .inl ⟨_, upd_same, RepOK1.keep (fun _ _ h => h) kT (repOK1_of lo r1')⟩⟩ trivial
      · have sA := cv stA
        refine ⟨sA.g, fun b x e hn => ?_, sA.gnew, fun b e => ?_⟩
        · rw [upd_ne (ne_of_none e hp)]; exact sA.keep b x e hn
        · rcases e with e | e
          · exact sA.fnew b (.inl e)
          · rcases List.mem_cons.mp e with rfl | e
            · exact .inr hp
            · exact sA.fnew b (.inr e)
      · obtain ⟨f1, k1, e1⟩ := cs sm i hi
        obtain ⟨f2, e2⟩ := far i (bin_tou bi hi)
        refine ⟨f2.trans f1, fun c hc => ?_, e2.trans e1⟩
        rw [upd_ne (fun z : c = p => np i (by rw [← z]; exact hc))]
        exact k1 c hc
      · rcases List.mem_cons.mp hb with rfl | hb
        · exact fr b (.inl ⟨i, z⟩) rfl
        · exact tk1.dj i b hb z
      · rcases List.mem_cons.mp hb with rfl | hb
        · exact ⟨gp1, by rw [upd_same]; simp⟩
        · exact ⟨(tk1.own b hb).1, by rw [kT b hb]; exact (tk1.own b hb).2⟩
  · cases e2
end
section
variable {X : Cx} {A : Tab} {W : WX} {occ occ1 occ2 : Nat → Bool} {pos : Pos} {es : List Expr} {fs : En → Res (List B × En)}
theorem pps_of : ∀ {ks : List Key} {keys : List (Option Expr)} {es : List Expr} {ts : List TE}, keysE ks keys = true → PEs X es ts → ks.length = ts.length → PPs X pos keys es ((ks.map fun k => tC (kV k)).zip ts)
  | [], [], _, _, _, .nil, _ => pps_nil
  | k :: ks, e :: keys, _, _, h, .cons h1 r, hl => by
    simp only [keysE, Bool.and_eq_true] at h
    have rest := pps_of h.2 r (by simpa using hl)
    have hk := h.1
    cases k with
    | inl i =>
      unfold keyE at hk
      split at hk
      · rename_i heq
        cases heq
        have := of_decide_eq_true hk
        subst this
        exact pps_cons pe_int h1 rest
      · rename_i heq; cases heq
      · cases hk
    | inr i =>
      unfold keyE at hk
      split at hk
      · rename_i heq; cases heq
      · rename_i heq
        cases heq
        have := of_decide_eq_true hk
        subst this
        exact pps_cons pe_str h1 rest
      · cases hk
  | [], _ :: _, _, _, h, _, _ => by cases h
  | _ :: _, [], _, _, h, _, _ => by cases h
  | [], [], _, _, _, .cons _ _, h => by simp at h
  | _ :: _, _ :: _, _, _, _, .nil, h => by simp at h
theorem keysE_len : ∀ {ks : List Key} {keys : List (Option Expr)}, keysE ks keys = true → ks.length = keys.length ∧ keys.all (·.isSome) = true
  | [], [], _ => ⟨rfl, rfl⟩
  | k :: ks, e :: keys, h => by
    simp only [keysE, Bool.and_eq_true] at h
    obtain ⟨a, b⟩ := keysE_len h.2
    refine ⟨by simp [a], ?_⟩
    cases e with
    | none => cases k <;> cases h.1
    | some _ => simpa using b
  | [], _ :: _, h => by cases h
  | _ :: _, [], h => by cases h
theorem ex_disp {ks : List Key} {keys : List (Option Expr)} (h : ExV X A W occ es fs) (hk : keysE ks keys = true) (hl : keys.length = es.length) (h0 : ks ≠ []) (h15 : ks.length ≤ 15) : ExE X A W occ (.Dict keys es pos) (opT (mkDct ks) fs) := by
  obtain ⟨ts, p, s⟩ := h
  obtain ⟨l1, al⟩ := keysE_len hk
  have lt : ks.length = ts.length := by rw [l1, hl]; exact p.len
  refine ⟨_, pe_disp (pps_of hk p lt) al hl (fun z => ?_) (by omega), sem_disp lt s⟩
  rw [z] at l1
  exact h0 (List.length_eq_zero_iff.mp l1)
end
end Fz
end

section -- Fz19
namespace Fz
open PySem L2 RZ

/-! ### the text as a tree of one's own -/
inductive Cop where
  | eq | ne | lt | le | gt | ge | is | isNot | in_ | notIn
  deriving DecidableEq
def Cop.op : Cop → CmpOp
  | .eq => .Eq | .ne => .NotEq | .lt => .Lt | .le => .LtE | .gt => .Gt | .ge => .GtE | .is => .Is | .isNot => .IsNot | .in_ => .In | .notIn => .NotIn
def boO (f : D → D → Option Bool) (d e : D) : Option O := (f d e).map fun b => .val (.bl b)
def boN (f : D → D → Option Bool) (d e : D) : Option O := (f d e).map fun b => .val (.bl (!b))
def Cop.g : Cop → D → D → Option O
  | .eq => boO eqO | .ne => boN eqO
  | .lt => c2 fun i j => decide (i < j) | .le => c2 fun i j => decide (i ≤ j) | .gt => c2 fun i j => decide (j < i) | .ge => c2 fun i j => decide (j ≤ i)
  | .is => boO isO | .isNot => boN isO | .in_ => boO inO | .notIn => boN inO
theorem ok_cop {X : Cx} {A : Tab} (hu : X.A.units + 64 < cLine) (o : Cop) : OpOk X A (compareOp o.op) o.g := by
  cases o
  · exact ok_eq hu
  · exact ok_ne hu
  · exact OpOk.cmp op_lt
  · exact OpOk.cmp op_le
  · exact OpOk.cmp op_gt
  · exact OpOk.cmp op_ge
  · exact ok_is
  · exact ok_isNot
  · exact ok_in
  · exact ok_notIn
inductive Iop where
  | lt | le | gt | ge
  deriving DecidableEq
def Iop.op : Iop → CmpOp
  | .lt => .Lt | .le => .LtE | .gt => .Gt | .ge => .GtE
def Iop.g : Iop → Int → Int → Bool
  | .lt => fun i j => decide (i < j) | .le => fun i j => decide (i ≤ j) | .gt => fun i j => decide (j < i) | .ge => fun i j => decide (j ≤ i)
theorem ok_iop {X : Cx} (o : Iop) : OpR X (compareOp o.op) (rI0 fun i j => .bl (o.g i j)) := by
  cases o
  · exact op_lt
  · exact op_le
  · exact op_gt
  · exact op_ge
/-- the built-ins that are called -/
inductive Bf where
  | len | abs | max2 | min2 | int | all | any | tuple | list | isi
  deriving DecidableEq
def Bf.name : Bf → Str
  | .len => "len" | .abs => "abs" | .max2 => "max" | .min2 => "min" | .int => "int" | .all => "all" | .any => "any" | .tuple => "tuple" | .list => "list" | .isi => "isinstance"
def Bf.v : Bf → Value
  | .len => .builtin "len" | .abs => .builtin "abs" | .max2 => .builtin "max" | .min2 => .builtin "min" | .int => .type "int" | .all => .builtin "all" | .any => .builtin "any" | .tuple => .type "tuple" | .list => .type "list" | .isi => .builtin "isinstance"
def Bf.g : Bf → List D → Option O
  | .len => g1 lenD | .abs => g1 absD | .max2 => g2 Fz.max2 | .min2 => g2 Fz.min2 | .int => g1 intD | .all => g1 allD | .any => g1 anyD | .tuple => g1 tupleD | .list => g1 listD | .isi => g2 isiD
theorem ok_bf {X : Cx} {A : Tab} (hc : X.calm = true) (b : Bf) : CallOk X A b.v b.g := by
  cases b
  · exact ok_len
  · exact ok_abs
  · exact ok_max2 hc
  · exact ok_min2 hc
  · exact ok_int
  · exact ok_all hc
  · exact ok_any hc
  · exact ok_tuple
  · exact ok_list
  · exact ok_isi
inductive Tn where
  | int | bool | tuple | list | str | dict
  deriving DecidableEq
def Tn.s : Tn → String
  | .int => "int" | .bool => "bool" | .tuple => "tuple" | .list => "list" | .str => "str" | .dict => "dict"
def Tn.x : Tn → Str
  | .int => "int" | .bool => "bool" | .tuple => "tuple" | .list => "list" | .str => "str" | .dict => "dict"
/-- the names that the text may call as built in -/
def bltNames : List Str := ["len", "abs", "max", "min", "int", "all", "any", "tuple", "list", "isinstance", "bool", "str", "dict", "range", "enumerate", "zip"]
theorem Bf.mem (b : Bf) : b.name ∈ bltNames := by cases b <;> simp [Bf.name, bltNames]
theorem Tn.mem (b : Tn) : b.x ∈ bltNames := by cases b <;> simp [Tn.x, bltNames]
theorem Bf.boot (b : Bf) : bootBuiltins b.name = some b.v := by cases b <;> rfl
theorem Tn.boot (b : Tn) : bootBuiltins b.x = some (.type b.s) := by cases b <;> rfl
inductive Ik where
  | any | range1 | range2 | enum | zip
  deriving DecidableEq
mutual
inductive Ex where
  | nm (i : Nat) | int (n : Int) | bl (b : Bool) | non | str (s : Str) | ty (t : Tn)
  | bin (o : Bop) (a b : Ex) | cmp (o : Cop) (a b : Ex) | ch (o p : Iop) (a b c : Ex)
  | and (a b : Ex) | or (a b : Ex) | not (a : Ex) | ife (c a b : Ex)
  | idx (a b : Ex) | sl (a : Ex) (lo hi : Mb) | tup (as : As) | lst (as : As) | neg (a : Ex)
  | blt (f : Bf) (as : As) | call (j : Nat) (as : As) | lm (m : Lm) (o : Ex) (as : As)
  | comp (own : List (Str × Nat)) (tg : Tgt) (k : Ik) (as : As) (c : Mb) (x : Ex)
  | d0 (t : Bool)
  | dk (ks : List Key) (as : As)
inductive As where
  | nil
  | cons (a : Ex) (as : As)
inductive Mb where
  | no
  | yes (a : Ex)
end

/-! which slots are spoken of -/
mutual
def oc : Ex → Nat → Bool
  | .nm i => fun j => decide (j = i)
  | .int _ => fun _ => false
  | .bl _ => fun _ => false
  | .non => fun _ => false
  | .str _ => fun _ => false
  | .ty _ => fun _ => false
  | .bin _ a b => fun i => oc a i || (oc b i || false)
  | .cmp _ a b => fun i => oc a i || (oc b i || false)
  | .ch _ _ a b c => fun i => (oc a i || (oc b i || false)) || oc c i
  | .and a b => fun i => oc a i || oc b i
  | .or a b => fun i => oc a i || oc b i
  | .not a => oc a
  | .ife c a b => fun i => oc c i || (oc a i || oc b i)
  | .idx a b => fun i => oc a i || (oc b i || false)
  | .sl a lo hi => fun i => oc a i || (ocM lo i || ocM hi i)
  | .tup as => ocA as
  | .lst as => ocA as
  | .neg a => fun i => oc a i || false
  | .blt _ as => ocA as
  | .call _ as => ocA as
  | .lm _ o as => fun i => oc o i || ocA as i
  | .comp own _ _ as c x => fun i => ocA as i || (ocM c i || (oc x i || decide (i ∈ own.map (·.2))))
  | .d0 _ => fun _ => false
  | .dk _ as => ocA as
def ocA : As → Nat → Bool
  | .nil => fun _ => false
  | .cons a as => fun i => oc a i || ocA as i
def ocM : Mb → Nat → Bool
  | .no => fun _ => false
  | .yes a => oc a
end
def Ik.g : Ik → List D → Option (List D)
  | .any => itemsD | .range1 => Fz.range1 | .range2 => Fz.range2 | .enum => enumD | .zip => zipD

/-! ### what it comes to -/
section
variable (rn : Nat → List O → Res (O × En)) (ios : Nat → List Bool)
mutual
def ev : Ex → En → Res (B × En)
  | .nm i => evName i
  | .int n => evC (.int n)
  | .bl b => evC (.bl b)
  | .non => evC .non
  | .str s => evC (.str s)
  | .ty t => evC (.ty t.s)
  | .bin o a b => opL (g2 (binD o)) (evsCons (fun i => oc b i || false) (ev a) (evsCons (fun _ => false) (ev b) evsNil))
  | .cmp o a b => opL (g2 o.g) (evsCons (fun i => oc b i || false) (ev a) (evsCons (fun _ => false) (ev b) evsNil))
  | .ch o p a b c => evChain (fun i => oc b i || false) o.g p.g (ev a) (ev b) (ev c)
  | .and a b => vAndB (ev a) (ev b)
  | .or a b => vOrB (ev a) (ev b)
  | .not a => vNotB (ev a)
  | .ife c a b => vIf (evT c) (ev a) (ev b)
  | .idx a b => evIdx (fun i => oc b i || false) (ev a) (ev b)
  | .sl a lo hi => evSl (fun i => ocM lo i || ocM hi i) (ev a) (evM lo) (evM hi)
  | .tup as => opT mkTup (evA as)
  | .lst as => opT mkLst (evA as)
  | .neg a => opV negD (evsCons (fun _ => false) (ev a) evsNil)
  | .blt f as => opL f.g (evA as)
  | .call j as => evCall (ios j) (rn j) (evA as)
  | .lm m o as => evMut (ocA as) (ev o) (evA as) m.g
  | .comp own tg k as c x => evComp (own.map (·.2)) (setTgt tg) (itV k.g (evA as)) (evC1 c) (ev x)
  | .d0 _ => evD0
  | .dk ks as => opT (mkDct ks) (evA as)
def evT : Ex → En → Res (Bool × En)
  | .cmp o a b => toBl (opL (g2 o.g) (evsCons (fun i => oc b i || false) (ev a) (evsCons (fun _ => false) (ev b) evsNil)))
  | .ch o p a b c => toBl (evChain (fun i => oc b i || false) o.g p.g (ev a) (ev b) (ev c))
  | .and a b => tAndB (evT a) (evT b)
  | .or a b => tOrB (evT a) (evT b)
  | .not a => tNotB (evT a)
  | .nm i => toTru (evName i)
  | .int n => toTru (evC (.int n))
  | .bl b => toTru (evC (.bl b))
  | .non => toTru (evC .non)
  | .str s => toTru (evC (.str s))
  | .bin o a b => toTru (opL (g2 (binD o)) (evsCons (fun i => oc b i || false) (ev a) (evsCons (fun _ => false) (ev b) evsNil)))
  | .idx a b => toTru (evIdx (fun i => oc b i || false) (ev a) (ev b))
  | .sl a lo hi => toTru (evSl (fun i => ocM lo i || ocM hi i) (ev a) (evM lo) (evM hi))
  | .tup as => toTru (opT mkTup (evA as))
  | .lst as => toTru (opT mkLst (evA as))
  | .blt f as => toTru (opL f.g (evA as))
  | .call j as => toTru (evCall (ios j) (rn j) (evA as))
  | .lm m o as => toTru (evMut (ocA as) (ev o) (evA as) m.g)
  | _ => fun _ => .stuck
def evA : As → En → Res (List B × En)
  | .nil => evsNil
  | .cons a as => evsCons (ocA as) (ev a) (evA as)
/-- a slice's end -/
def evM : Mb → En → Res (Option Int × En)
  | .no => evNoPart
  | .yes a => evPart (ev a)
/-- a clause's test -/
def evC1 : Mb → En → Res (Bool × En)
  | .no => yesT
  | .yes a => evT a
end
end
example (rn) (ios) : ev rn ios (.bin .add (.int 1) (.int 2)) [] = .ok (.tmp (.val (.int 3)), []) := rfl
end Fz
end

section -- Fz20
namespace Fz
open PySem L2 RZ

/-! ### does a tree of the text read so -/
instance {sc : Scope} {x : Str} : Decidable (Vis sc x) := inferInstanceAs (Decidable (_ ∨ _ ∨ _))
instance {sc : Scope} {x : Str} : Decidable (Loc sc x) := inferInstanceAs (Decidable (_ ∨ _))
def okName (x : Str) : Bool := !(x == ("__debug__" : Str)) && !(x == ("__classdict__" : Str))
def glB (sc : Scope) (x : Str) : Bool := decide (sc.names.lookup x = some .globalImplicit)
def chkBlk (N : List Str) (sc scope : Scope) (own : List (Str × Nat)) : Bool :=
  decide (scope.kind = .function) && (scope.names.all (fun y => decide (scope.names.lookup y.1 = some y.2)) && (own.all (fun p => decide (N[p.2]? = some p.1)) &&
    (scope.names.all (fun y => !decide (y.2 = .free) || decide (sc.names.lookup y.1 = some .cell ∨ sc.names.lookup y.1 = some .free)) &&
      scope.names.all (fun y => !decide (y.2 = .local ∨ y.2 = .cell) || decide (y.1 ∈ own.map (·.1) ∨ y.1 ∉ N)))))
theorem chkBlk_ok {N : List Str} {sc scope : Scope} {own : List (Str × Nat)} (h : chkBlk N sc scope own = true) : BlkOk N sc scope own := by
  simp only [chkBlk, Bool.and_eq_true, List.all_eq_true, decide_eq_true_eq, Bool.or_eq_true, Bool.not_eq_true', decide_eq_false_iff_not] at h
  obtain ⟨h1, h2, h3, h4, h5⟩ := h
  exact ⟨h1, h2, h3, fun y hy e => (h4 y hy).resolve_left fun z => z e, fun y hy e => (h5 y hy).resolve_left fun z => z e⟩
def chkNames (N : List Str) (sc : Scope) : List Nat → List Expr → Bool
  | [], [] => true
  | i :: is, e :: es => (match e with
    | .Name x _ => decide (N[i]? = some x) && decide (Loc sc x)
    | _ => false) && chkNames N sc is es
  | _, _ => false
def chkTg (N : List Str) (sc : Scope) : Tgt → Expr → Bool
  | .nm i, .Name x _ => decide (N[i]? = some x) && decide (Loc sc x)
  | .tup is, .Tuple ts _ _ => chkNames N sc is ts
  | _, _ => false
def gNames : List Nat → TGs
  | [] => gNil
  | i :: is => gCons (gName i) (gNames is)
def gOf (K : PySem.W.Frag) : Tgt → TG
  | .nm i => gName i
  | .tup is => gTup K is.length (gNames is)
theorem semGs_of {K : PySem.W.Frag} {A : Tab} : ∀ is : List Nat, SemGs K A is (gNames is) (setDs is)
  | [] => semGs_nil
  | i :: is => semGs_cons (semGs_of is)
theorem semG_of {K : PySem.W.Frag} {A : Tab} : ∀ tg : Tgt, SemG K A tg.slots (gOf K tg) (setTgt tg)
  | .nm i => semG_name
  | .tup is => semG_tup rfl (semGs_of is)
def chkSrc (sc : Scope) (tg : Expr) (k : Ik) (e : Expr) : Option (List Expr) := match k with
  | .any => if notSet e = true then some [e] else none
  | .range1 => match e with
    | .Call (.Name x _) [a] [] _ => if x = "range" ∧ glB sc x = true then some [a] else none
    | _ => none
  | .range2 => match e with
    | .Call (.Name x _) [a, b] [] _ => if x = "range" ∧ glB sc x = true then some [a, b] else none
    | _ => none
  | .enum => match e, tg with
    | .Call (.Name x _) [a] [] _, .Tuple .. => if x = "enumerate" ∧ glB sc x = true then some [a] else none
    | _, _ => none
  | .zip => match e, tg with
    | .Call (.Name x _) [a, b] [] _, .Tuple .. => if x = "zip" ∧ glB sc x = true then some [a, b] else none
    | _, _ => none
def isAnd : Ex → Bool
  | .and _ _ => true
  | _ => false
def isOr : Ex → Bool
  | .or _ _ => true
  | _ => false
section
variable (N : List Str) (Γ : List Str)
mutual
def chk (sc : Scope) : Ex → Expr → Bool
  | .nm i, e => match e with
    | .Name x _ => decide (N[i]? = some x) && (decide (Vis sc x) && okName x)
    | _ => false
  | .int n, e => match e with
    | .Constant (.int m) _ _ => decide (n = m)
    | _ => false
  | .bl b, e => match e with
    | .Constant (.bool m) _ _ => decide (b = m)
    | _ => false
  | .non, e => match e with
    | .Constant .none _ _ => true
    | _ => false
  | .str s, e => match e with
    | .Constant (.str m) _ _ => decide (s = m)
    | _ => false
  | .ty t, e => match e with
    | .Name x _ => decide (t.x = x) && glB sc x
    | _ => false
  | .bin o a b, e => match e with
    | .BinOp l p r _ => decide (o.op = p) && (chk sc a l && chk sc b r)
    | _ => false
  | .cmp o a b, e => match e with
    | .Compare l [p] [r] _ => decide (o.op = p) && (!behindInMarks p r && (chk sc a l && chk sc b r))
    | _ => false
  | .ch o o' a b c, e => match e with
    | .Compare l [p, p'] [r, q] _ => decide (o.op = p) && (decide (o'.op = p') && (!lastMarks [p, p'] [r, q] && (chk sc a l && (chk sc b r && chk sc c q))))
    | _ => false
  | .and a b, e => match e with
    | .BoolOp .And (l :: r :: rest) pos => chk sc a l && (match rest with
      | [] => chk sc b r
      | _ => chk sc b (.BoolOp .And (r :: rest) pos))
    | _ => false
  | .or a b, e => match e with
    | .BoolOp .Or (l :: r :: rest) pos => chk sc a l && (match rest with
      | [] => chk sc b r
      | _ => chk sc b (.BoolOp .Or (r :: rest) pos))
    | _ => false
  | .not a, e => match e with
    | .UnaryOp .Not l _ => chk sc a l
    | _ => false
  | .ife c a b, e => match e with
    | .IfExp t l r _ => chkT sc c t && (chk sc a l && chk sc b r)
    | _ => false
  | .idx a b, e => match e with
    | .Subscript l r _ => notSlice r && (chk sc a l && chk sc b r)
    | _ => false
  | .sl a lo hi, e => match e with
    | .Subscript l (.Slice p q none _) _ => chk sc a l && (chkM sc lo p && chkM sc hi q)
    | _ => false
  | .tup as, e => match e with
    | .Tuple es _ _ => chkA sc as es
    | _ => false
  | .lst as, e => match e with
    | .List es _ => chkA sc as es
    | _ => false
  | .neg a, e => match e with
    | .UnaryOp .USub l _ => chk sc a l
    | _ => false
  | .blt f as, e => match e with
    | .Call (.Name x _) (a :: es) [] _ => decide (f.name = x) && (glB sc x && chkA sc as (a :: es))
    | _ => false
  | .call j as, e => match e with
    | .Call (.Name x _) (a :: es) [] _ => decide (Γ[j]? = some x) && (glB sc x && (okName x && chkA sc as (a :: es)))
    | _ => false
  | .lm m o as, e => match e with
    | .Call (.Attribute q y ap) (a :: es) [] pos => decide (m.name = y) && (notCall0 q && (decide ((a :: es).length < 30) && ((ap.endLine == pos.line) && (chk sc o q && chkA sc as (a :: es)))))
    | _ => false
  | .comp own tg k as c x, e => match e with
    | .ListComp elt [⟨t, iter, ifs, 0⟩] scope _ => chkBlk N sc scope own && (chkTg N scope tg t && (tg.slots.all (fun i => decide (i ∈ own.map (·.2))) && ((match chkSrc sc t k iter with
      | some es => notSet iter && chkA sc as es
      | none => false) && (chkC scope c ifs && chk scope x elt))))
    | _ => false
  | .d0 _, e => match e with
    | .Dict [] [] _ => true
    | _ => false
  | .dk ks as, e => match e with
    | .Dict keys es _ => keysE ks keys && (decide (keys.length = es.length) && (decide (ks ≠ [] ∧ ks.length ≤ 15) && chkA sc as es))
    | _ => false
def chkT (sc : Scope) : Ex → Expr → Bool
  | .cmp o a b, e => match e with
    | .Compare l [p] [r] _ => decide (o.op = p) && (!behindInMarks p r && (chk sc a l && chk sc b r))
    | _ => false
  | .ch o o' a b c, e => match e with
    | .Compare l [p, p'] [r, q] _ => decide (o.op = p) && (decide (o'.op = p') && (!lastMarks [p, p'] [r, q] && (chk sc a l && (chk sc b r && chk sc c q))))
    | _ => false
  | .and a b, e => match e with
    | .BoolOp .And (l :: r :: rest) pos => chkT sc a l && (match rest with
      | [] => chkT sc b r
      | _ => isAnd b && chkT sc b (.BoolOp .And (r :: rest) pos))
    | _ => false
  | .or a b, e => match e with
    | .BoolOp .Or (l :: r :: rest) pos => chkT sc a l && (match rest with
      | [] => chkT sc b r
      | _ => isOr b && chkT sc b (.BoolOp .Or (r :: rest) pos))
    | _ => false
  | .not a, e => match e with
    | .UnaryOp .Not l _ => chkT sc a l
    | _ => false
  | .nm i, e => plainT e && (match e with
    | .Name x _ => decide (N[i]? = some x) && (decide (Vis sc x) && okName x)
    | _ => false)
  | .blt f as, e => match e with
    | .Call (.Name x _) (a :: es) [] _ => decide (f.name = x) && (glB sc x && chkA sc as (a :: es))
    | _ => false
  | .call j as, e => match e with
    | .Call (.Name x _) (a :: es) [] _ => decide (Γ[j]? = some x) && (glB sc x && (okName x && chkA sc as (a :: es)))
    | _ => false
  | .idx a b, e => match e with
    | .Subscript l r _ => notSlice r && (chk sc a l && chk sc b r)
    | _ => false
  | _, _ => false
def chkA (sc : Scope) : As → List Expr → Bool
  | .nil, [] => true
  | .cons a as, e :: es => notStar e && (chk sc a e && chkA sc as es)
  | _, _ => false
def chkM (sc : Scope) : Mb → Option Expr → Bool
  | .no, none => true
  | .yes a, some e => chk sc a e
  | _, _ => false
def chkC (sc : Scope) : Mb → List Expr → Bool
  | .no, [] => true
  | .yes a, [e] => chkT sc a e
  | _, _ => false
end
end
end Fz
end

section -- Fz21
namespace Fz
open PySem L2 RZ

/-- where a tree stands -/
structure Fit (X : Cx) (A : Tab) (W : WX) (rn : Nat → List O → Res (O × En)) (ios : Nat → List Bool) (Γ : List Str) (N : List Str) (sc : Scope) : Prop where
  hN : X.N = N
  nd : N.Nodup
  keep : ∀ x k, k ≠ .free → sc.names.lookup x = some k → X.env.scope.names.lookup x = some k
  free : ∀ x, sc.names.lookup x = some .free → X.env.scope.names.lookup x = some .cell ∨ X.env.scope.names.lookup x = some .free
  kd : X.env.scope.kind = .function
  calm : X.calm = true
  un : X.A.units + 64 < cLine
  tk : Takes X W
  fn : ∀ x, sc.names.lookup x = some .cell → X.fn x = true
  blt : ∀ x ∈ bltNames, X.mg x = none
  fns : ∀ j x, Γ[j]? = some x → ∃ k fn fd ps, FnOk X.prog X.w X.K X.mg X.base (L2.CX X.prog X.w) k fn fd ps (spOf X.K A (ios j) (rn j)) ∧ Room k X.A ∧ X.mg x = some (.ref fn) ∧ PySem.W.keepIn X.K (.ref fn) = true ∧ Binds X.K fd ps []
section
variable {A : Tab} {rn : Nat → List O → Res (O × En)} {ios : Nat → List Bool} {Γ : List Str} {N : List Str}
theorem lookup_rel_free {sc : Scope} : ∀ {names : List (Str × NameKind)} {x : Str}, names.lookup x = some .free →
    (names.map fun (n, k) => if (k == NameKind.free && sc.kind == .function && sc.names.lookup n == some .cell) then (n, NameKind.cell) else (n, k)).lookup x = some .cell ∨
      (names.map fun (n, k) => if (k == NameKind.free && sc.kind == .function && sc.names.lookup n == some .cell) then (n, NameKind.cell) else (n, k)).lookup x = some .free
  | [], _, h => by simp at h
  | (n, k) :: r, x, h => by
    have ih := @lookup_rel_free sc r x
    show List.lookup x ((if (k == NameKind.free && sc.kind == .function && sc.names.lookup n == some .cell) = true then (n, NameKind.cell) else (n, k)) :: (r.map _)) = _ ∨ List.lookup x ((if (k == NameKind.free && sc.kind == .function && sc.names.lookup n == some .cell) = true then (n, NameKind.cell) else (n, k)) :: (r.map _)) = _
    cases hx : x == n with
    | true =>
      simp only [List.lookup_cons, hx] at h
      cases h
      by_cases hc : (NameKind.free == NameKind.free && sc.kind == .function && sc.names.lookup n == some .cell) = true
      · rw [if_pos hc]; simp [List.lookup_cons, hx]
      · rw [if_neg hc]; simp [List.lookup_cons, hx]
    | false =>
      simp only [List.lookup_cons, hx] at h
      by_cases hc : (k == NameKind.free && sc.kind == .function && sc.names.lookup n == some .cell) = true
      · rw [if_pos hc]; simp only [List.lookup_cons, hx]; exact ih h
      · rw [if_neg hc]; simp only [List.lookup_cons, hx]; exact ih h
theorem Fit.blk {X : Cx} {W : WX} {sc : Scope} (F : Fit X A W rn ios Γ N sc) {scope : Scope} (hk : scope.kind = .function) (c : Ctx4) : Fit (blkOf X scope c) A W0 rn ios Γ N scope :=
  ⟨F.hN, F.nd, fun x k hk h => lookup_relS_keep hk h, fun x h => lookup_rel_free h, hk, F.calm, F.un, takes0, fun x h => by show (scope.names.lookup x == some .cell) = true; rw [h]; rfl, F.blt, F.fns⟩
variable {X : Cx} {W : WX} {sc : Scope}
theorem Fit.gl (F : Fit X A W rn ios Γ N sc) {x : Str} (h : glB sc x = true) : Gl X x := F.keep x _ (by simp) (of_decide_eq_true h)
theorem Fit.vis (F : Fit X A W rn ios Γ N sc) {x : Str} (h : Vis sc x) : Vis X.env.scope x := by
  rcases h with z | z | z
  · exact .inl (F.keep x _ (by simp) z)
  · exact .inr (.inl (F.keep x _ (by simp) z))
  · exact .inr (F.free x z)
theorem Fit.loc (F : Fit X A W rn ios Γ N sc) {x : Str} (h : Loc sc x) : Loc X.env.scope x := by
  rcases h with z | z
  · exact .inl (F.keep x _ (by simp) z)
  · exact .inr (F.keep x _ (by simp) z)
theorem Fit.blkOk (F : Fit X A W rn ios Γ N sc) {scope : Scope} {own : List (Str × Nat)} (h : BlkOk N sc scope own) : BlkOk X.N X.env.scope scope own := by
  refine ⟨h.kind, h.uniq, by rw [F.hN]; exact h.ix, fun y hy e => ?_, by rw [F.hN]; exact h.own⟩
  rcases h.free y hy e with z | z
  · exact .inl (F.keep _ _ (by simp) z)
  · exact F.free _ z
theorem blt_ne : ∀ x ∈ bltNames, x ≠ ("__name__" : Str) ∧ (x == ("__debug__" : Str)) = false := by decide +kernel
theorem okName_ok {x : Str} (h : okName x = true) : (x == ("__debug__" : Str)) = false ∧ (x == ("__classdict__" : Str)) = false := by
  simpa [okName] using h
theorem Fit.name (F : Fit X A W rn ios Γ N sc) {i : Nat} {x : Str} {pos : Pos} (h1 : N[i]? = some x) (h2 : Vis sc x) (h3 : okName x = true) : ExE X A W (fun j => decide (j = i)) (.Name x pos) (evName i) :=
  ex_name (by rw [F.hN]; exact h1) (F.vis h2) (okName_ok h3).1 (okName_ok h3).2 (by simp)
theorem Fit.hf (F : Fit X A W rn ios Γ N sc) {x : Str} (h : Loc sc x) : X.fn x = true ∨ X.env.scope.names.lookup x = some .local := by
  rcases h with z | z
  · exact .inr (F.keep x _ (by simp) z)
  · exact .inl (F.fn x z)
theorem Fit.pgs (F : Fit X A W rn ios Γ N sc) : ∀ {is : List Nat} {es : List Expr}, chkNames N sc is es = true → PGs X es (gNames is) ∧ es.all isName = true ∧ es.length = is.length
  | [], [], _ => ⟨pgs_nil, rfl, rfl⟩
  | i :: is, e :: es, h => by
    simp only [chkNames, Bool.and_eq_true] at h
    obtain ⟨h1, h2⟩ := h
    obtain ⟨a, b, c⟩ := Fit.pgs F h2
    split at h1
    · simp only [Bool.and_eq_true, decide_eq_true_eq] at h1
      exact ⟨pgs_cons (pg_name (by rw [F.hN]; exact F.nd) (by rw [F.hN]; exact h1.1) (F.loc h1.2) (F.hf h1.2)) a rfl, by simp [isName, b], by simp [c]⟩
    · cases h1
  | [], _ :: _, h => by cases h
  | _ :: _, [], h => by cases h
theorem Fit.pg (F : Fit X A W rn ios Γ N sc) {tg : Tgt} {e : Expr} (h : chkTg N sc tg e = true) : PG X e (gOf X.K tg) := by
  cases tg with
  | nm i =>
    cases e <;> try cases h
    simp only [chkTg, Bool.and_eq_true, decide_eq_true_eq] at h
    exact pg_name (by rw [F.hN]; exact F.nd) (by rw [F.hN]; exact h.1) (F.loc h.2) (F.hf h.2)
  | tup is =>
    cases e <;> try cases h
    obtain ⟨a, b, c⟩ := F.pgs h
    have := asg_len (env := X.env) b
    rw [c] at this
    exact pg_tup F.calm a this.1 this.2
theorem Fit.callB (F : Fit X A W rn ios Γ N sc) {f : Bf} {x : Str} {p pos : Pos} {a : Expr} {es : List Expr} {occ : Nat → Bool} {fs : En → Res (List B × En)} (h1 : f.name = x) (h2 : glB sc x = true) (h : ExA X A W occ (a :: es) fs) (hs : (a :: es).all notStar = true) :
    ExE X A W occ (.Call (.Name x p) (a :: es) [] pos) (opL f.g fs) := by
  subst h1
  have hm := F.blt _ f.mem
  obtain ⟨n1, n2⟩ := blt_ne _ f.mem
  have ok := ok_bf (X := X) (A := A) F.calm f
  have hv := f.boot
  cases f
  all_goals first
    | exact ex_callB ok (F.gl h2) hm hv h hs n1 n2
    | exact ex_callTy ok (F.gl h2) hm hv h hs n1 n2
theorem Fit.call (F : Fit X A W rn ios Γ N sc) {j : Nat} {x : Str} {p pos : Pos} {a : Expr} {es : List Expr} {occ : Nat → Bool} {fs : En → Res (List B × En)} (h1 : Γ[j]? = some x) (h2 : glB sc x = true) (h3 : okName x = true) (h : ExA X A W occ (a :: es) fs) (hs : (a :: es).all notStar = true) :
    ExE X A W occ (.Call (.Name x p) (a :: es) [] pos) (evCall (ios j) (rn j) fs) := by
  obtain ⟨k, fn, fd, ps, f1, f2, f3, f4, f5⟩ := F.fns j x h1
  exact ex_call f1 f2 (F.gl h2) f3 f4 f5 F.tk h hs (okName_ok h3).1
def As.one : As → Bool
  | .cons _ .nil => true
  | _ => false
theorem chkSrc_any {tg e : Expr} {es : List Expr} (h : chkSrc sc tg .any e = some es) : es = [e] := by
  simp only [chkSrc] at h
  split at h
  · cases h; rfl
  · cases h
theorem snd_I (k : Ik) (as : As) {X : Cx} {W : WX} {sc : Scope} (t iter : Expr) {es : List Expr} (F : Fit X A W rn ios Γ N sc) (h : chkSrc sc t k iter = some es) (ha : ExA X A W (ocA as) es (evA rn ios as)) (hs : es.all notStar = true)
    (h1 : ∀ a, as = .cons a .nil → ∃ e, es = [e] ∧ ExE X A W (oc a) e (ev rn ios a)) (h2 : as.one = true ∨ k ≠ .any) : ExI X A W (ocA as) t iter (itV k.g (evA rn ios as)) := by
  cases k with
  | any =>
    have e := chkSrc_any h
    subst e
    match as, h2 with
    | .cons a .nil, _ =>
      obtain ⟨e, ee, h⟩ := h1 a rfl
      cases ee
      exact ei_any h
    | .nil, h => rcases h with z | z <;> simp [As.one] at z
    | .cons _ (.cons _ _), h => rcases h with z | z <;> simp [As.one] at z
  | range1 =>
    simp only [chkSrc] at h
    split at h
    · split at h
      · rename_i hx
        cases h
        obtain ⟨rfl, hg⟩ := hx
        simp only [List.all_cons, Bool.and_eq_true] at hs
        exact ei_range1 (F.gl hg) (F.blt _ (by simp [bltNames])) ha hs.1
      · cases h
    · cases h
  | range2 =>
    simp only [chkSrc] at h
    split at h
    · split at h
      · rename_i hx
        cases h
        obtain ⟨rfl, hg⟩ := hx
        simp only [List.all_cons, Bool.and_eq_true] at hs
        exact ei_range2 (F.gl hg) (F.blt _ (by simp [bltNames])) ha hs.1 hs.2.1
      · cases h
    · cases h
  | enum =>
    simp only [chkSrc] at h
    split at h
    · split at h
      · rename_i hx
        cases h
        obtain ⟨rfl, hg⟩ := hx
        simp only [List.all_cons, Bool.and_eq_true] at hs
        exact ei_enum (F.gl hg) (F.blt _ (by simp [bltNames])) ha hs.1
      · cases h
    · cases h
  | zip =>
    simp only [chkSrc] at h
    split at h
    · split at h
      · rename_i hx
        cases h
        obtain ⟨rfl, hg⟩ := hx
        simp only [List.all_cons, Bool.and_eq_true] at hs
        exact ei_zip (F.gl hg) (F.blt _ (by simp [bltNames])) ha hs.1 hs.2.1
      · cases h
    · cases h
mutual
theorem snd_E : ∀ (x : Ex) {X : Cx} {W : WX} {sc : Scope} {e : Expr}, Fit X A W rn ios Γ N sc → chk N Γ sc x e = true → ExE X A W (oc x) e (ev rn ios x)
  | .nm i, X, W, sc, e, F, h => by
    simp only [chk] at h
    split at h
    · simp only [Bool.and_eq_true, decide_eq_true_eq] at h
      exact F.name h.1 h.2.1 h.2.2
    · cases h
  | .int n, X, W, sc, e, F, h => by
    simp only [chk] at h
    split at h
    · simp only [decide_eq_true_eq] at h
      subst h
      exact ex_int
    · cases h
  | .bl n, X, W, sc, e, F, h => by
    simp only [chk] at h
    split at h
    · simp only [decide_eq_true_eq] at h
      subst h
      exact ex_bl
    · cases h
  | .non, X, W, sc, e, F, h => by
    simp only [chk] at h
    split at h
    · exact ex_non
    · cases h
  | .str n, X, W, sc, e, F, h => by
    simp only [chk] at h
    split at h
    · simp only [decide_eq_true_eq] at h
      subst h
      exact ex_str
    · cases h
  | .ty t, X, W, sc, e, F, h => by
    simp only [chk] at h
    split at h
    · simp only [Bool.and_eq_true, decide_eq_true_eq] at h
      obtain ⟨h1, h2⟩ := h
      subst h1
      exact ex_ty (F.gl h2) (F.blt _ t.mem) t.boot (blt_ne _ t.mem).1 (blt_ne _ t.mem).2
    · cases h
  | .bin o a b, X, W, sc, e, F, h => by
    simp only [chk] at h
    split at h
    · simp only [Bool.and_eq_true, decide_eq_true_eq] at h
      obtain ⟨h1, h2, h3⟩ := h
      subst h1
      exact ex_bin (ok_bin o) (snd_E a F h2) (snd_E b F h3)
    · cases h
  | .cmp o a b, X, W, sc, e, F, h => by
    simp only [chk] at h
    split at h
    · simp only [Bool.and_eq_true, decide_eq_true_eq, Bool.not_eq_true'] at h
      obtain ⟨h1, h4, h2, h3⟩ := h
      subst h1
      exact ex_cmp (ok_cop F.un o) h4 (snd_E a F h2) (snd_E b F h3)
    · cases h
  | .ch o o' a b c, X, W, sc, e, F, h => by
    simp only [chk] at h
    split at h
    · simp only [Bool.and_eq_true, decide_eq_true_eq, Bool.not_eq_true'] at h
      obtain ⟨h1, h2, h3, h4, h5, h6⟩ := h
      subst h1 h2
      exact ex_chain (ok_iop o) (ok_iop o') h3 (snd_E a F h4) (snd_E b F h5) (snd_E c F h6)
    · cases h
  | .and a b, X, W, sc, e, F, h => by
    simp only [chk] at h
    split at h
    · simp only [Bool.and_eq_true] at h
      obtain ⟨h1, h2⟩ := h
      split at h2
      · exact ex_and (snd_E a F h1) (ex_one (snd_E b F h2))
      · exact ex_and (snd_E a F h1) (snd_E b F h2)
    · cases h
  | .or a b, X, W, sc, e, F, h => by
    simp only [chk] at h
    split at h
    · simp only [Bool.and_eq_true] at h
      obtain ⟨h1, h2⟩ := h
      split at h2
      · exact ex_or (snd_E a F h1) (ex_one (snd_E b F h2))
      · exact ex_or (snd_E a F h1) (snd_E b F h2)
    · cases h
  | .not a, X, W, sc, e, F, h => by
    simp only [chk] at h
    split at h
    · exact ex_not (snd_E a F h)
    · cases h
  | .ife c a b, X, W, sc, e, F, h => by
    simp only [chk] at h
    split at h
    · simp only [Bool.and_eq_true] at h
      exact ex_ife (snd_T c F h.1).1 (snd_E a F h.2.1) (snd_E b F h.2.2)
    · cases h
  | .idx a b, X, W, sc, e, F, h => by
    simp only [chk] at h
    split at h
    · simp only [Bool.and_eq_true] at h
      exact ex_idx (snd_E a F h.2.1) (snd_E b F h.2.2) h.1
    · cases h
  | .sl a lo hi, X, W, sc, e, F, h => by
    simp only [chk] at h
    split at h
    · simp only [Bool.and_eq_true] at h
      exact ex_sl (snd_E a F h.1) (snd_M lo F h.2.1) (snd_M hi F h.2.2)
    · cases h
  | .tup as, X, W, sc, e, F, h => by
    simp only [chk] at h
    split at h
    · exact ex_tup (snd_A as F h).1
    · cases h
  | .lst as, X, W, sc, e, F, h => by
    simp only [chk] at h
    split at h
    · exact ex_lst (snd_A as F h).1
    · cases h
  | .neg a, X, W, sc, e, F, h => by
    simp only [chk] at h
    split at h
    · exact ex_neg (snd_E a F h)
    · cases h
  | .blt f as, X, W, sc, e, F, h => by
    simp only [chk] at h
    split at h
    · simp only [Bool.and_eq_true, decide_eq_true_eq] at h
      obtain ⟨h1, h2, h3⟩ := h
      exact F.callB h1 h2 (snd_A as F h3).1 (snd_A as F h3).2.1
    · cases h
  | .call j as, X, W, sc, e, F, h => by
    simp only [chk] at h
    split at h
    · simp only [Bool.and_eq_true, decide_eq_true_eq] at h
      obtain ⟨h1, h2, h3, h4⟩ := h
      exact F.call h1 h2 h3 (snd_A as F h4).1 (snd_A as F h4).2.1
    · cases h
  | .lm m o as, X, W, sc, e, F, h => by
    simp only [chk] at h
    split at h
    · simp only [Bool.and_eq_true, decide_eq_true_eq] at h
      obtain ⟨h1, h2, h3, h4, h5, h6⟩ := h
      subst h1
      exact ex_lm m (snd_E o F h5) (snd_A as F h6).1 h2 (snd_A as F h6).2.1 h3 h4
    · cases h
  | .comp own tg k as c x, X, W, sc, e, F, h => by
    simp only [chk] at h
    split at h
    · rename_i elt t iter ifs scope pos
      simp only [Bool.and_eq_true] at h
      obtain ⟨h1, h2, h3, h4, h5, h6⟩ := h
      have ok := chkBlk_ok h1
      have ok' := F.blkOk ok
      split at h4
      · rename_i es hes
        simp only [Bool.and_eq_true] at h4
        obtain ⟨q1, q2, q3, _⟩ := snd_A as F h4.2
        have h2' : as.one = true ∨ k ≠ .any := by
          cases k with
          | any =>
            have e := chkSrc_any hes
            subst e
            match as, h4.2 with
            | .cons a .nil, _ => exact .inl rfl
            | .nil, z => cases z
            | .cons a (.cons b r), z => simp [chkA] at z
          | _ => exact .inr (by simp)
        have hi := snd_I k as t iter F hes q1 q2 q3 h2'
        exact ex_comp F.calm (by rw [F.hN]; exact F.nd) ok' h4.1 hi (fun c4 => (F.blk ok.kind c4).pg h2) (semG_of tg) (fun i hi => by have := List.all_eq_true.mp h3 i hi; exact of_decide_eq_true this) (fun c4 => snd_C c (F.blk ok.kind c4) h5) (fun c4 => snd_E x (F.blk ok.kind c4) h6)
      · cases h4
    · cases h
  | .d0 t, X, W, sc, e, F, h => by
    simp only [chk] at h
    split at h
    · cases t
      · exact ex_d0K
      · exact ex_d0T
    · cases h
  | .dk ks as, X, W, sc, e, F, h => by
    simp only [chk] at h
    split at h
    · simp only [Bool.and_eq_true, decide_eq_true_eq] at h
      obtain ⟨h1, h2, h3, h4⟩ := h
      exact ex_disp (snd_A as F h4).2.2.2 h1 h2 h3.1 h3.2
    · cases h
theorem snd_T : ∀ (x : Ex) {X : Cx} {W : WX} {sc : Scope} {e : Expr}, Fit X A W rn ios Γ N sc → chkT N Γ sc x e = true → ExT X A W (oc x) e (evT rn ios x) ∧ ((isAnd x || isOr x) = true → ExW X A W (oc x) e (evT rn ios x))
  | .cmp o a b, X, W, sc, e, F, h => by
    simp only [chkT] at h
    split at h
    · simp only [Bool.and_eq_true, decide_eq_true_eq, Bool.not_eq_true'] at h
      obtain ⟨h1, h4, h2, h3⟩ := h
      subst h1
      exact ⟨ext_cmp (ok_cop F.un o) h4 (snd_E a F h2) (snd_E b F h3), fun z => by cases z⟩
    · cases h
  | .ch o o' a b c, X, W, sc, e, F, h => by
    simp only [chkT] at h
    split at h
    · simp only [Bool.and_eq_true, decide_eq_true_eq, Bool.not_eq_true'] at h
      obtain ⟨h1, h2, h3, h4, h5, h6⟩ := h
      subst h1 h2
      exact ⟨ext_chain (ok_iop o) (ok_iop o') h3 (snd_E a F h4) (snd_E b F h5) (snd_E c F h6), fun z => by cases z⟩
    · cases h
  | .and a b, X, W, sc, e, F, h => by
    simp only [chkT] at h
    split at h
    · rename_i l r rest pos
      simp only [Bool.and_eq_true] at h
      obtain ⟨h1, h2⟩ := h
      have key : ExW X A W (oc (.and a b)) (.BoolOp .And (l :: r :: rest) pos) (evT rn ios (.and a b)) := by
        split at h2
        · exact ew_and (snd_T a F h1).1 (ew_and1 (snd_T b F h2).1)
        · simp only [Bool.and_eq_true] at h2
          exact ew_and (snd_T a F h1).1 ((snd_T b F h2.2).2 (by rw [h2.1]; rfl))
      exact ⟨key.t, fun _ => key⟩
    · cases h
  | .or a b, X, W, sc, e, F, h => by
    simp only [chkT] at h
    split at h
    · rename_i l r rest pos
      simp only [Bool.and_eq_true] at h
      obtain ⟨h1, h2⟩ := h
      have key : ExW X A W (oc (.or a b)) (.BoolOp .Or (l :: r :: rest) pos) (evT rn ios (.or a b)) := by
        split at h2
        · exact ew_or (snd_T a F h1).1 (ew_or1 (snd_T b F h2).1)
        · simp only [Bool.and_eq_true] at h2
          exact ew_or (snd_T a F h1).1 ((snd_T b F h2.2).2 (by rw [h2.1]; simp))
      exact ⟨key.t, fun _ => key⟩
    · cases h
  | .not a, X, W, sc, e, F, h => by
    simp only [chkT] at h
    split at h
    · exact ⟨ext_not (snd_T a F h).1, fun z => by cases z⟩
    · cases h
  | .nm i, X, W, sc, e, F, h => by
    simp only [chkT, Bool.and_eq_true] at h
    obtain ⟨h0, h⟩ := h
    split at h
    · simp only [Bool.and_eq_true, decide_eq_true_eq] at h
      exact ⟨ext_plain (F.name h.1 h.2.1 h.2.2) h0, fun z => by cases z⟩
    · cases h
  | .blt f as, X, W, sc, e, F, h => by
    simp only [chkT] at h
    split at h
    · simp only [Bool.and_eq_true, decide_eq_true_eq] at h
      obtain ⟨h1, h2, h3⟩ := h
      exact ⟨ext_plain (F.callB h1 h2 (snd_A as F h3).1 (snd_A as F h3).2.1) rfl, fun z => by cases z⟩
    · cases h
  | .call j as, X, W, sc, e, F, h => by
    simp only [chkT] at h
    split at h
    · simp only [Bool.and_eq_true, decide_eq_true_eq] at h
      obtain ⟨h1, h2, h3, h4⟩ := h
      exact ⟨ext_plain (F.call h1 h2 h3 (snd_A as F h4).1 (snd_A as F h4).2.1) rfl, fun z => by cases z⟩
    · cases h
  | .idx a b, X, W, sc, e, F, h => by
    simp only [chkT] at h
    split at h
    · simp only [Bool.and_eq_true] at h
      exact ⟨ext_plain (ex_idx (snd_E a F h.2.1) (snd_E b F h.2.2) h.1) rfl, fun z => by cases z⟩
    · cases h
  | .int _, _, _, _, _, _, h => by cases h
  | .bl _, _, _, _, _, _, h => by cases h
  | .non, _, _, _, _, _, h => by cases h
  | .str _, _, _, _, _, _, h => by cases h
  | .ty _, _, _, _, _, _, h => by cases h
  | .bin _ _ _, _, _, _, _, _, h => by cases h
  | .ife _ _ _, _, _, _, _, _, h => by cases h
  | .sl _ _ _, _, _, _, _, _, h => by cases h
  | .tup _, _, _, _, _, _, h => by cases h
  | .lst _, _, _, _, _, _, h => by cases h
  | .neg _, _, _, _, _, _, h => by cases h
  | .lm _ _ _, _, _, _, _, _, h => by cases h
  | .comp _ _ _ _ _ _, _, _, _, _, _, h => by cases h
  | .d0 _, _, _, _, _, _, h => by cases h
  | .dk _ _, _, _, _, _, _, h => by cases h
theorem snd_A : ∀ (as : As) {X : Cx} {W : WX} {sc : Scope} {es : List Expr}, Fit X A W rn ios Γ N sc → chkA N Γ sc as es = true → ExA X A W (ocA as) es (evA rn ios as) ∧ es.all notStar = true ∧ (∀ a, as = .cons a .nil → (∃ e, es = [e] ∧ ExE X A W (oc a) e (ev rn ios a))) ∧ ExV X A W (ocA as) es (evA rn ios as)
  | .nil, X, W, sc, es, F, h => by
    cases es with
    | nil => exact ⟨ea_nil, rfl, (fun a z => by cases z), [], .nil, semA_nil⟩
    | cons _ _ => cases h
  | .cons a as, X, W, sc, es, F, h => by
    cases es with
    | nil => cases h
    | cons e es =>
      simp only [chkA, Bool.and_eq_true] at h
      obtain ⟨h1, h2, h3⟩ := h
      obtain ⟨k1, k2, k3, ts, p4, s4⟩ := snd_A as F h3
      refine ⟨ea_cons (snd_E a F h2) k1 h1, by simp [h1, k2], fun b z => ?_, ?_⟩
      rotate_left
      · obtain ⟨t, p, s⟩ := snd_E a F h2
        exact ⟨t :: ts, .cons p p4, semA_cons s s4⟩
      cases z
      cases es with
      | nil => exact ⟨e, rfl, snd_E a F h2⟩
      | cons _ _ => cases h3
theorem snd_M : ∀ (m : Mb) {X : Cx} {W : WX} {sc : Scope} {e : Option Expr}, Fit X A W rn ios Γ N sc → chkM N Γ sc m e = true → ExO X A W (ocM m) e (evM rn ios m)
  | .no, X, W, sc, e, F, h => by
    cases e with
    | none => exact eo_none
    | some _ => cases h
  | .yes a, X, W, sc, e, F, h => by
    cases e with
    | none => cases h
    | some e => exact eo_some (snd_E a F h)
theorem snd_C : ∀ (m : Mb) {X : Cx} {sc : Scope} {es : List Expr}, Fit X A W0 rn ios Γ N sc → chkC N Γ sc m es = true → ExIfs X A (ocM m) es (evC1 rn ios m)
  | .no, X, sc, es, F, h => by
    cases es with
    | nil => exact ifs_nil
    | cons _ _ => cases h
  | .yes a, X, sc, es, F, h => by
    match es, h with
    | [e], h => exact ifs_one (snd_T a F h).1
end
end
end Fz
end

section -- Fz22
namespace Fz
open PySem L2 RZ

/-! ### statements as trees of one's own -/
mutual
inductive Sm where
  | pass | bk | ct | retN
  | ex (e : Ex)
  | set (i : Nat) (e : Ex)
  | setLc (i : Nat) (own : List (Str × Nat)) (tg : Tgt) (k : Ik) (as : As) (c : Mb) (x : Ex)
  | asgT (is : List Nat) (e : Ex)
  | setI (o k e : Ex)
  | set2 (i a b : Nat) (e : Ex)
  | aug (i : Nat) (e : Ex)
  | ret (e : Ex)
  | iff (c : Ex) (a b : Sts)
  | wh (c : Ex) (b : Sts)
  | fr (tg : Tgt) (k : Ik) (as : As) (b : Sts)
inductive Sts where
  | nil
  | cons (s : Sm) (r : Sts)
end
mutual
/-- the slots that are given anew -/
def asgS : Sm → Nat → Bool
  | .set i _ => fun j => decide (j = i)
  | .setLc i _ _ _ _ _ _ => fun j => decide (j = i)
  | .asgT is _ => fun j => decide (j ∈ is)
  | .aug i _ => fun j => decide (j = i)
  | .iff _ a b => fun j => asgL a j || asgL b j
  | .wh _ b => asgL b
  | .fr tg _ _ b => fun j => decide (j ∈ tg.slots) || asgL b j
  | _ => fun _ => false
def asgL : Sts → Nat → Bool
  | .nil => fun _ => false
  | .cons s r => fun j => asgS s j || asgL r j
end
section
variable (rn : Nat → List O → Res (O × En)) (ios : Nat → List Bool) (n : Nat)
mutual
def exS : Sm → En → Res (Fl × En)
  | .pass => flNx
  | .bk => flBk
  | .ct => flCt
  | .retN => flRetN
  | .ex e => flEx (ev rn ios e)
  | .set i e => flAsg i (ev rn ios e)
  | .setLc i own tg k as c x => flAsg i (ev rn ios (.comp own tg k as c x))
  | .asgT is e => flAsgT (setTgt (.tup is)) (ev rn ios e)
  | .setI o k e => flSetI (evsCons (fun j => oc o j || (oc k j || false)) (ev rn ios e) (evsCons (fun j => oc k j || false) (ev rn ios o) (evsCons (fun _ => false) (ev rn ios k) evsNil)))
  | .set2 i a b e => flSet2 i a b (ev rn ios e)
  | .aug i e => flAsg i (opL (g2 (b2 fun i j => some (i + j))) (evsCons (fun i => oc e i || false) (evName i) (evsCons (fun _ => false) (ev rn ios e) evsNil)))
  | .ret e => flRet (ev rn ios e)
  | .iff c a b => flIf (evT rn ios c) (exL a) (exL b)
  | .wh c b => flWhile n (evT rn ios c) (exL b)
  | .fr tg k as b => flForI (itV k.g (evA rn ios as)) (setTgt tg) (exL b)
def exL : Sts → En → Res (Fl × En)
  | .nil => flNx
  | .cons s r => flSeq (exS s) (exL r)
end
end
def swapB (sc : Scope) (t : Str) (p lpos : Pos) (scope : Scope) : Bool :=
  decide (sc.names.lookup t = some .local) && ((p.line == lpos.line) && !(scope.names.any fun (n, k) => n == t && (k == .local || k == .cell)))
section
variable (N : List Str) (Γ : List Str)
mutual
def chkS (sc : Scope) : Sm → Stmt → Bool
  | .pass, s => match s with
    | .Pass _ => true
    | _ => false
  | .bk, s => match s with
    | .Break _ => true
    | _ => false
  | .ct, s => match s with
    | .Continue _ => true
    | _ => false
  | .retN, s => match s with
    | .Return none _ => true
    | _ => false
  | .ex e, s => match s with
    | .Expr v _ => noSwap v && chk N Γ sc e v
    | _ => false
  | .set i e, s => match s with
    | .Assign [.Name x _] v _ => decide (N[i]? = some x) && (decide (Loc sc x) && (noSwap v && chk N Γ sc e v))
    | _ => false
  | .setLc i own tg k as c x, s => match s with
    | .Assign [.Name y py] (.ListComp elt [⟨t, iter, ifs, 0⟩] scope lpos) _ => decide (N[i]? = some y) && (decide (Loc sc y) && (chkBlk N sc scope own && (chkTg N scope tg t && (tg.slots.all (fun i => decide (i ∈ own.map (·.2))) && ((match chkSrc sc t k iter with
      | some es => notSet iter && (chkA N Γ sc as es && (as.one || !decide (k = .any)))
      | none => false) && (chkC N Γ scope c ifs && chk N Γ scope x elt))))))
    | _ => false
  | .asgT is e, s => match s with
    | .Assign [.Tuple ts _ _] v _ => noSwap v && (notDisp v && (chkNames N sc is ts && chk N Γ sc e v))
    | _ => false
  | .setI o k e, s => match s with
    | .Assign [.Subscript q r _] v _ => noSwap v && (notSlice r && (chk N Γ sc o q && (chk N Γ sc k r && chk N Γ sc e v)))
    | _ => false
  | .set2 i a b e, s => match s with
    | .Assign [.Tuple [.Subscript (.Name x _) (.Name y _) _, .Subscript (.Name x' _) (.Name z _) _] _ _] v _ => decide (x = x') && (decide (N[i]? = some x ∧ N[a]? = some y ∧ N[b]? = some z) && (decide (Vis sc x ∧ Vis sc y ∧ Vis sc z) && (okName x && (okName y && (okName z && (noSwap v && chk N Γ sc e v))))))
    | _ => false
  | .aug i e, s => match s with
    | .AugAssign (.Name x _) .Add v _ => decide (N[i]? = some x) && (decide (sc.names.lookup x = some .local) && chk N Γ sc e v)
    | _ => false
  | .ret e, s => match s with
    | .Return (some v) _ => chk N Γ sc e v
    | _ => false
  | .iff c a b, s => match s with
    | .If t p q _ => chkT N Γ sc c t && (chkL sc a p && chkL sc b q)
    | _ => false
  | .wh c b, s => match s with
    | .While t p [] _ => chkT N Γ sc c t && chkL sc b p
    | _ => false
  | .fr tg k as b, s => match s with
    | .For t iter p [] _ => chkTg N sc tg t && ((match chkSrc sc t k iter with
      | some es => notSet iter && (chkA N Γ sc as es && (as.one || !decide (k = .any)))
      | none => false) && chkL sc b p)
    | _ => false
def chkL (sc : Scope) : Sts → List Stmt → Bool
  | .nil, [] => true
  | .cons s r, t :: ts => chkS sc s t && chkL sc r ts
  | _, _ => false
end
end
theorem stores_subs {a b c d e : Expr} {p q pos' : Pos} {k : Nat} {env : Env} : swappedStores [.Tuple [.Subscript a b p, .Subscript c d q] k pos'] e env = pure none := by
  unfold swappedStores
  cases e <;> try rfl
  rename_i vs k2 p2
  simp only [pure_bind]
  by_cases h1 : (!(([Expr.Subscript a b p, Expr.Subscript c d q] : List Expr).length == 2 || ([Expr.Subscript a b p, Expr.Subscript c d q] : List Expr).length == 3) || vs.length != ([Expr.Subscript a b p, Expr.Subscript c d q] : List Expr).length || env.blockKind != .function) = true
  · rw [if_pos h1]
  · rw [if_neg h1]
    split
    · rfl
    · rfl
theorem swap_lc {elt : Expr} {gs : List Comprehension} {scope : Scope} {lpos p : Pos} {t : Str} {l : Nat} {env : Env} : swapsWith (.ListComp elt gs scope lpos) (some (.Name t p)) l env = pure (env.blockKind == .function && env.kindOf t == some .local && p.line == lpos.line && !(scope.names.any fun (n, k) => n == t && (k == .local || k == .cell))) := rfl
section
variable {A : Tab} {rn : Nat → List O → Res (O × En)} {ios : Nat → List Bool} {Γ : List Str} {N : List Str} {n : Nat}
variable {X : Cx} {W : WX} {sc : Scope}
theorem Fit.names (F : Fit X A W rn ios Γ N sc) : ∀ {is : List Nat} {es : List Expr}, chkNames N sc is es = true → ExG X A is (.Tuple es k pos) (setTgt (.tup is)) := by
  intro is es h
  have : chkTg N sc (.tup is) (.Tuple es k pos) = true := h
  exact ⟨_, F.pg this, semG_of (.tup is)⟩
mutual
theorem snd_S : ∀ (s : Sm) {X : Cx} {W : WX} {st : Stmt}, Fit X A W rn ios Γ N sc → PassesOwn (model X.prog X.w) X.A X.env X.xe → chkS N Γ sc s st = true → ExS X A W (asgS s) st (exS rn ios n s)
  | .pass, X, W, st, F, P, h => by
    simp only [chkS] at h
    split at h
    · exact es_pass
    · cases h
  | .bk, X, W, st, F, P, h => by
    simp only [chkS] at h
    split at h
    · exact es_break
    · cases h
  | .ct, X, W, st, F, P, h => by
    simp only [chkS] at h
    split at h
    · exact es_cont
    · cases h
  | .retN, X, W, st, F, P, h => by
    simp only [chkS] at h
    split at h
    · exact es_retN
    · cases h
  | .ex e, X, W, st, F, P, h => by
    simp only [chkS] at h
    split at h
    · simp only [Bool.and_eq_true] at h
      exact es_ex (snd_E e F h.2) h.1
    · cases h
  | .set i e, X, W, st, F, P, h => by
    simp only [chkS] at h
    split at h
    · simp only [Bool.and_eq_true, decide_eq_true_eq] at h
      obtain ⟨h1, h2, h3, h4⟩ := h
      obtain ⟨t, p, s⟩ := snd_E e F h4
      exact ⟨_, ps_set (by rw [F.hN]; exact F.nd) (by rw [F.hN]; exact h1) (F.loc h2) p (swap_no h3) (F.hf h2), semS_asg s⟩
    · cases h
  | .setLc i own tg k as c x, X, W, st, F, P, h => by
    simp only [chkS] at h
    split at h
    · rename_i y py elt t iter ifs scope lpos pos
      simp only [Bool.and_eq_true, decide_eq_true_eq] at h
      obtain ⟨h1, h2, h3, h4, h5, h6, h7, h8⟩ := h
      have ok := chkBlk_ok h3
      have ok' := F.blkOk ok
      split at h6
      · rename_i es hes
        simp only [Bool.and_eq_true, Bool.or_eq_true, Bool.not_eq_true', decide_eq_false_iff_not] at h6
        obtain ⟨h9, h10, h11⟩ := h6
        obtain ⟨q1, q2, q3, _⟩ := snd_A as F h10
        have hi := snd_I k as t iter F hes q1 q2 q3 h11
        have has : ∀ i ∈ tg.slots, i ∈ own.map (·.2) := fun i hi => by have := List.all_eq_true.mp h5 i hi; exact of_decide_eq_true this
        by_cases hsw : swapB sc y py lpos scope = true
        · simp only [swapB, Bool.and_eq_true, decide_eq_true_eq, Bool.not_eq_true'] at hsw
          exact es_setLc' F.calm F.kd (by rw [F.hN]; exact F.nd) (by rw [F.hN]; exact h1) (F.keep _ _ (by simp) hsw.1) hsw.2.1 hsw.2.2 ok' h9 hi (fun c4 => (F.blk ok.kind c4).pg h4) (semG_of tg) has (fun c4 => snd_C c (F.blk ok.kind c4) h7) (fun c4 => snd_E x (F.blk ok.kind c4) h8)
        · obtain ⟨te, p, s⟩ := ex_comp (pos := lpos) F.calm (by rw [F.hN]; exact F.nd) ok' h9 hi (fun c4 => (F.blk ok.kind c4).pg h4) (semG_of tg) has (fun c4 => snd_C c (F.blk ok.kind c4) h7) (fun c4 => snd_E x (F.blk ok.kind c4) h8)
          refine ⟨_, ps_set (by rw [F.hN]; exact F.nd) (by rw [F.hN]; exact h1) (F.loc h2) p ?_ (F.hf h2), semS_asg s⟩
          rw [swap_lc]
          have hk : X.env.kindOf y = some .local → sc.names.lookup y = some .local := fun z => by
            rcases h2 with q | q
            · exact q
            · have := F.keep y _ (by simp) q
              have z' : X.env.scope.names.lookup y = some .local := z
              rw [z'] at this; cases this
          congr 1
          cases hb : (X.env.blockKind == .function && X.env.kindOf y == some .local && py.line == lpos.line && !(scope.names.any fun (n, k) => n == y && (k == .local || k == .cell))) with
          | false => rfl
          | true =>
            exfalso
            apply hsw
            simp only [Bool.and_eq_true, beq_iff_eq, Bool.not_eq_true'] at hb
            simp only [swapB, Bool.and_eq_true, decide_eq_true_eq, Bool.not_eq_true', beq_iff_eq]
            exact ⟨hk hb.1.1.2, hb.1.2, hb.2⟩
      · cases h6
    · cases h
  | .asgT is e, X, W, st, F, P, h => by
    simp only [chkS] at h
    split at h
    · simp only [Bool.and_eq_true] at h
      obtain ⟨h1, h2, h3, h4⟩ := h
      exact es_asgT (snd_E e F h4) (F.names h3) h1 h2
    · cases h
  | .setI o k e, X, W, st, F, P, h => by
    simp only [chkS] at h
    split at h
    · simp only [Bool.and_eq_true] at h
      obtain ⟨h1, h2, h3, h4, h5⟩ := h
      exact es_setI (snd_E e F h5) (snd_E o F h3) (snd_E k F h4) h1 h2
    · cases h
  | .set2 i a b e, X, W, st, F, P, h => by
    simp only [chkS] at h
    split at h
    · simp only [Bool.and_eq_true, decide_eq_true_eq] at h
      obtain ⟨rfl, ⟨n1, n2, n3⟩, ⟨v1, v2, v3⟩, o1, o2, o3, h1, h2⟩ := h
      exact es_set2 (snd_E e F h2) F.calm (by rw [F.hN]; exact n1) (by rw [F.hN]; exact n2) (by rw [F.hN]; exact n3) (F.vis v1) (F.vis v2) (F.vis v3) (okName_ok o1).1 (okName_ok o1).2 (okName_ok o2).1 (okName_ok o2).2 (okName_ok o3).1 (okName_ok o3).2 h1 stores_subs
    · cases h
  | .aug i e, X, W, st, F, P, h => by
    simp only [chkS] at h
    split at h
    · simp only [Bool.and_eq_true, decide_eq_true_eq] at h
      obtain ⟨h1, h2, h3⟩ := h
      exact es_aug ok_iadd (snd_E e F h3) (by rw [F.hN]; exact F.nd) (by rw [F.hN]; exact h1) (F.keep _ _ (by simp) h2)
    · cases h
  | .ret e, X, W, st, F, P, h => by
    simp only [chkS] at h
    split at h
    · exact es_ret (snd_E e F h)
    · cases h
  | .iff c a b, X, W, st, F, P, h => by
    simp only [chkS] at h
    split at h
    · simp only [Bool.and_eq_true] at h
      exact es_if (snd_T c F h.1).1 (snd_L a F P h.2.1) (snd_L b F P h.2.2)
    · cases h
  | .wh c b, X, W, st, F, P, h => by
    simp only [chkS] at h
    split at h
    · simp only [Bool.and_eq_true] at h
      exact es_while P (snd_T c F h.1).1 (snd_L b F P h.2)
    · cases h
  | .fr tg k as b, X, W, st, F, P, h => by
    simp only [chkS] at h
    split at h
    · rename_i t iter p pos
      simp only [Bool.and_eq_true] at h
      obtain ⟨h1, h2, h3⟩ := h
      split at h2
      · rename_i es hes
        simp only [Bool.and_eq_true, Bool.or_eq_true, Bool.not_eq_true', decide_eq_false_iff_not] at h2
        obtain ⟨h9, h10, h11⟩ := h2
        obtain ⟨q1, q2, q3, _⟩ := snd_A as F h10
        exact es_for P F.calm (snd_I k as t iter F hes q1 q2 q3 h11) (F.pg h1) (semG_of tg) (snd_L b F P h3) h9
      · cases h2
    · cases h
theorem snd_L : ∀ (s : Sts) {X : Cx} {W : WX} {sts : List Stmt}, Fit X A W rn ios Γ N sc → PassesOwn (model X.prog X.w) X.A X.env X.xe → chkL N Γ sc s sts = true → ExSs X A W (asgL s) sts (exL rn ios n s)
  | .nil, X, W, sts, F, P, h => by
    cases sts with
    | nil => exact ess_nil
    | cons _ _ => cases h
  | .cons s r, X, W, sts, F, P, h => by
    cases sts with
    | nil => cases h
    | cons t ts =>
      simp only [chkL, Bool.and_eq_true] at h
      exact ess_cons (snd_S s F P h.1) (snd_L r F P h.2)
end
end
end Fz
end

section -- Fz23
namespace Fz
open PySem L2 RZ

/-! ### defs -/
structure Fe where
  nm : Str
  N : List Str
  io : List Bool
  body : Sts
def iosOf (P : List Fe) (j : Nat) : List Bool := match P[j]? with
  | some f => f.io
  | none => []
def runB (l : Nat) (f : En → Res (Fl × En)) (os : List O) : Res (O × En) := (f (os.map some ++ List.replicate (l - os.length) none)).bind fun r => match r.1 with
  | .rt o => .ok (o, r.2)
  | .nx => .ok (.val .non, r.2)
  | _ => .stuck
/-- n: the turns of a loop, k: how deep calls go -/
def run (n : Nat) (P : List Fe) : Nat → Nat → List O → Res (O × En)
  | 0, _, _ => .stuck
  | k + 1, j, os => match P[j]? with
    | some fe => runB fe.N.length (exL (run n P k) (iosOf P) n fe.body) os
    | none => .stuck
theorem maskE_get : ∀ {ios : List Bool} {os : En} {i : Nat} {o : O}, (maskE ios os)[i]? = some (some o) → ios[i]? = some true ∧ os[i]? = some (some o)
  | [], _, _, _, h => by simp [maskE] at h
  | io :: ios, [], 0, _, h => by simp [maskE] at h
  | io :: ios, [], i + 1, o, h => by
    simp only [maskE, List.getElem?_cons_succ] at h
    have := maskE_get h
    simp at this
  | io :: ios, p :: os, 0, o, h => by
    simp only [maskE, List.getElem?_cons_zero, Option.some.injEq] at h
    split at h
    · rename_i e; subst e; simp [h]
    · cases h
  | io :: ios, p :: os, i + 1, o, h => by
    simp only [maskE, List.getElem?_cons_succ] at h
    simpa using maskE_get h
section
variable {A : Tab} {rn : Nat → List O → Res (O × En)} {ios : Nat → List Bool} {Γ : List Str} {n : Nat}
/-- what a def's text must show -/
def chkFe (Γ : List Str) (fe : Fe) (d : He.DefD) : Bool :=
  decide (d.scope.kind = .function) && (!d.scope.isCoroutine && (!d.scope.isGenerator && (decide fe.N.Nodup && (decide (fe.N.take (d.params.args.map (·.arg)).length = d.params.args.map (·.arg)) && ((d.params.args.map (·.arg)).all (fun x => decide (Loc d.scope x)) &&
    (d.scope.names.all (fun y => decide (y.2 ≠ .free)) && (decide (fe.io.length = d.params.args.length) && ((List.range fe.io.length).all (fun i => !(fe.io[i]? == some true) || !asgL fe.body i) && chkL fe.N Γ d.scope fe.body d.body))))))))
theorem fn_snd {P : Program} {w : World} {K : PySem.W.Frag} {mg : Str → Option Value} {base : Heap} {fe : Fe} {d : He.DefD} {f : Addr} {fd : FuncData} {k : Nat} (F : FunD K d.name d.qual d.params d.body d.scope [] [] f fd) (hc : chkFe Γ fe d = true)
    (hb : ∀ x ∈ bltNames, mg x = none) (hf : ∀ j x, Γ[j]? = some x → ∃ fn fd ps, FnOk P w K mg base (L2.CX P w) k fn fd ps (spOf K A (ios j) (rn j)) ∧ mg x = some (.ref fn) ∧ PySem.W.keepIn K (.ref fn) = true ∧ Binds K fd ps []) :
    FnOk P w K mg base (L2.CX P w) (k + 1) f fd (d.params.args.map (·.arg)) (spOf K A fe.io (runB fe.N.length (exL rn ios n fe.body))) := by
  simp only [chkFe, Bool.and_eq_true, decide_eq_true_eq, Bool.not_eq_true', List.all_eq_true] at hc
  obtain ⟨c1, c2, c3, c4, c5, c6, c7, c8, c9, c10⟩ := hc
  have S : FnScope fe.N (d.params.args.map (·.arg)) d.scope := ⟨c1, c2, c3, c4, c5, c6, c7⟩
  refine F.ok S (fun vs H Q E h => ?_) (fun cdv A' outer s H vs Q E hr h => ?_)
  · obtain ⟨_, _, _, lv, _⟩ := h
    rw [lv, c8, List.length_map]
  · obtain ⟨G, Fs, os, lv, so, hw⟩ := h
    let X := cxOf (L2.CX P w) P w K mg base fe.N d.qual d.scope f cdv A' outer s H E
    let W : WX := fun cls d _ H => E cls d H
    have tk : Takes X W := L2.takes_of (X := X) (E := E) rfl rfl rfl rfl
    have FT : Fit X A W rn ios Γ fe.N d.scope := ⟨rfl, c4, fun _ _ _ h => h, fun _ h => .inr h, c1, rfl, by have := hr.un; show X.A.units + 64 < cLine; have e : X.A.units = (A'.deeper (PyProof.Rows.envOfC d.qual d.scope s.heap.objs.size f cdv)).units := rfl; rw [e]; omega, tk, fun _ _ => rfl, hb, fun j x e => by
      obtain ⟨fn, fd, ps, h1, h2, h3, h4⟩ := hf j x e
      exact ⟨k, fn, fd, ps, h1, hr, h2, h3, h4⟩⟩
    have PO : PassesOwn (model X.prog X.w) X.A X.env X.xe := passes_of (X := X) (K := fun e s'' => L2.CX P w outer H s E e s'') rfl
    obtain ⟨t, ps, ss⟩ := snd_L (n := n) fe.body FT PO c10
    refine ⟨t, ps, ?_⟩
    have lo : vs.length = os.length := by have := so.len; simpa using this
    have so0 : StOk K A G H (L2.start fe.N vs) (os.map some ++ List.replicate (fe.N.length - os.length) none) Fs := by
      refine ⟨so.sub, by simp [L2.start, lo], fun i o e => ?_, so.nd, so.dj, so.own⟩
      by_cases hi : i < os.length
      · rw [List.getElem?_append_left (by simpa using hi)] at e
        obtain ⟨v, h1, h2⟩ := so.at_ i o e
        exact ⟨v, by unfold L2.start; rw [List.getElem?_append_left (by simpa [lo] using hi)]; exact h1, h2⟩
      · rw [List.getElem?_append_right (by simpa using hi), List.getElem?_replicate] at e
        split at e <;> cases e
    refine ss G H _ _ Fs _ so0 ?_
    unfold runB at hw
    rw [Res.wp_bind] at hw
    refine Res.wp_mono hw (fun r hr2 σ' G' H' Fs' T s1 s2 s3 s4 => ?_) fun c e he σ' G' H' Fs' C dd s1 s2 s3 s4 => ?_
    · have back : StOk K A G' H' (vs.map some) (maskE fe.io r.2) Fs' := by
        refine ⟨s2.sub, by rw [maskE_len, List.length_map, lv], fun i o e => ?_, s2.nd, s2.dj, s2.own⟩
        obtain ⟨h1, h2⟩ := maskE_get e
        obtain ⟨v, h3, h4⟩ := s2.at_ i o h2
        have hl : i < fe.io.length := (List.getElem?_eq_some_iff.mp h1).1
        have ha : asgL fe.body i = false := by
          have := c9 i (by simpa using hl)
          rw [h1] at this
          simpa using this
        rw [s3 i ha] at h3
        unfold L2.start at h3
        rw [List.getElem?_append_left (by simp [lv]; exact hl)] at h3
        exact ⟨v, h3, h4⟩
      cases hf : r.1 with
      | rt o => rw [hf] at hr2; exact fun v rv => hr2 v G' H' Fs' T s1 back s4 rv
      | nx => rw [hf] at hr2; exact hr2 .non G' H' Fs' [] (s1.drop (by simp)) back .nil ⟨rfl, rfl⟩
      | bk => rw [hf] at hr2; exact hr2.elim
      | ct => rw [hf] at hr2; exact hr2.elim
    · have back : StOk K A G' H' (vs.map some) (maskE fe.io e) Fs' := by
        refine ⟨s2.sub, by rw [maskE_len, List.length_map, lv], fun i o e' => ?_, s2.nd, s2.dj, s2.own⟩
        obtain ⟨h1, h2⟩ := maskE_get e'
        obtain ⟨v, h3, h4⟩ := s2.at_ i o h2
        have hl : i < fe.io.length := (List.getElem?_eq_some_iff.mp h1).1
        have ha : asgL fe.body i = false := by
          have := c9 i (by simpa using hl)
          rw [h1] at this
          simpa using this
        rw [s3 i ha] at h3
        unfold L2.start at h3
        rw [List.getElem?_append_left (by simp [lv]; exact hl)] at h3
        exact ⟨v, h3, h4⟩
      exact he G' H' Fs' C dd s1 back s4
/-- the whole table -/
structure TabOk (K : PySem.W.Frag) (mg : Str → Option Value) (P : List Fe) (ds : List He.DefD) : Prop where
  blt : ∀ x ∈ bltNames, mg x = none
  fns : ∀ (j : Nat) (fe : Fe), P[j]? = some fe → ∃ d f fd, ds[j]? = some d ∧ FunD K d.name d.qual d.params d.body d.scope [] [] f fd ∧ chkFe (P.map (·.nm)) fe d = true ∧ mg fe.nm = some (.ref f) ∧ Binds K fd (d.params.args.map (·.arg)) []
theorem fn_none {P : Program} {w : World} {K : PySem.W.Frag} {mg : Str → Option Value} {base : Heap} {f : Addr} {fd : FuncData} {ps : List Str} {io : List Bool} (hl : io.length = ps.length) : FnOk P w K mg base (L2.CX P w) 0 f fd ps (spOf K A io fun _ => .stuck) :=
  ⟨fun vs H Q E h => by obtain ⟨_, _, _, lv, _⟩ := h; rw [lv, hl], fun _ _ _ _ _ _ _ _ _ _ _ _ _ h => by obtain ⟨_, _, _, _, _, hw⟩ := h; exact hw.elim⟩
theorem tab_ok {P : Program} {w : World} {K : PySem.W.Frag} {mg : Str → Option Value} {base : Heap} {T : List Fe} {ds : List He.DefD} (h : TabOk K mg T ds) : ∀ (k j : Nat) (fe : Fe), T[j]? = some fe → ∃ d f fd, ds[j]? = some d ∧ FunD K d.name d.qual d.params d.body d.scope [] [] f fd ∧ mg fe.nm = some (.ref f) ∧ Binds K fd (d.params.args.map (·.arg)) [] ∧
    FnOk P w K mg base (L2.CX P w) k f fd (d.params.args.map (·.arg)) (spOf K A (iosOf T j) (run n T k j))
  | 0, j, fe, e => by
    obtain ⟨d, f, fd, h1, h2, h3, h4, h5⟩ := h.fns j fe e
    refine ⟨d, f, fd, h1, h2, h4, h5, ?_⟩
    have : run n T 0 j = fun _ => .stuck := by funext os; rfl
    rw [this]
    refine fn_none ?_
    simp only [chkFe, Bool.and_eq_true, decide_eq_true_eq] at h3
    have h8 := h3.2.2.2.2.2.2.2.1
    unfold iosOf
    rw [e]
    simpa using h8
  | k + 1, j, fe, e => by
    obtain ⟨d, f, fd, h1, h2, h3, h4, h5⟩ := h.fns j fe e
    refine ⟨d, f, fd, h1, h2, h4, h5, ?_⟩
    have := fn_snd (A := A) (P := P) (w := w) (base := base) (rn := run n T k) (ios := iosOf T) (n := n) (k := k) h2 h3 h.blt fun j' x e' => by
      rw [List.getElem?_map] at e'
      obtain ⟨fe', e1, e2⟩ := Option.map_eq_some_iff.mp e'
      obtain ⟨d', f', fd', a1, a2, a3, a4, a5⟩ := tab_ok h k j' fe' e1
      exact ⟨f', fd', _, a5, by rw [← e2]; exact a3, a2.kp, a4⟩
    have er : run n T (k + 1) j = runB fe.N.length (exL (run n T k) (iosOf T) n fe.body) := by
      funext os
      simp only [run, e]
    have ei : iosOf T j = fe.io := by unfold iosOf; rw [e]
    rw [er, ei]
    exact this
end
end Fz
end

section -- Fz24
namespace Fz
open PySem L2

/-! ### a law's end -/
theorem cx_none {P : Program} {w : World} {o : List Env} {H : Hp} {s s' : Shared} {e : Value} (h : L2.CX P w o H s (fun _ _ _ => False) e s') : False := by
  obtain ⟨_, _, _, _, _, _, _, _, _, _, _, _, z⟩ := h
  exact z
theorem sp_law {K : PySem.W.Frag} {A : Tab} {H : Hp} {a : Addr} {ns : List Int} {m : List O → Res (O × En)} {e : En} (hS : SqL K H a (ns.map V.int)) (hm : m [.val (.scr ns)] = .ok (.val (.bl true), e)) : spOf K A [false] m [.ref a] H (fun v _ => v = .bl true) fun _ _ _ => False := by
  refine ⟨H, fun _ => [], [.val (.scr ns)], rfl, ⟨fun _ _ h => h, rfl, fun i o h => ?_, fun _ => List.nodup_nil, (fun _ _ _ h => by cases h), (fun _ _ h => by cases h)⟩, ?_⟩
  · match i, h with
    | 0, h =>
      cases h
      exact ⟨.ref a, rfl, rfl, a, rfl, hS⟩
    | i + 1, h => simp at h
  · rw [hm]
    intro v G' H' Fs' T _ _ _ r
    exact r.2
theorem law_walk {l : PySem.W.OpenLaw} {n k : Nat} {q : Program} {loose : List Str} {XP : (Str → Option Value) → Heap → Prop} {YP : World → Heap → Prop} {d : DefRec} {x : Str} {A : Tab} {m : List O → Res (O × En)}
    (hn : l.most = some n) (hn2 : n ≤ sizeLine) (hdf : d.params.defaults = []) (hr : Room k callerA) (hm : ∀ ns : List Int, ns.length ≤ n → ∃ e, m [.val (.scr ns)] = .ok (.val (.bl true), e))
    (F : ∀ (w : World) (mg : Str → Option Value) (fa : Addr) (h : Heap), YP w h → h.Ns mainGlobals mg → mg d.name = some (.ref fa) →
      ∃ (K : PySem.W.Frag) (fd : FuncData), K.In h ∧ (∀ (s : Shared) (u : Value), BindsTo s fd ⟨[u], []⟩ [(x, u)]) ∧ ∀ base : Heap, K.In base → base.Ns mainGlobals mg → FnOk l.prog w K mg base (L2.CX l.prog w) k fa fd [x] (spOf K A [false] m)) :
    PySem.W.WalkO q loose XP YP l.row.toRowW d [] (fun f vs => PySem.call f vs) := by
  refine Att.attach_call hn hdf ?_
  intro w s₀ s₁ mg mb fa o pm cd doc a vs ns G Y ho hd hcd hmg hobj hints hlen hg
  obtain ⟨K, fd, KX, hb, hF⟩ := F w mg fa _ Y G.T.g hmg
  obtain ⟨e, he⟩ := hm ns hlen
  refine law_call (CX := L2.CX l.prog w) KX G.T.g G.T.b G.T.builtins G.T.nolimit hg hobj hints (Nat.le_trans hlen hn2) hr hF hb (fun H _ hS => sp_law hS he) ?_
  exact fun H e s' z => cx_none z
theorem says {fa : List He.Fa} {fn : List He.DefD} {K : PySem.W.Frag} (c : He.SaysD fa fn K) {f : He.Fa} (h : f ∈ fa) : f.ok K = true := by
  obtain ⟨i, hi, e⟩ := List.getElem_of_mem h
  exact c.fact i (by rw [List.getElem?_eq_getElem hi, e])
def freeFa : List He.Fa := bltNames.map .free
theorem says_free {fa : List He.Fa} {fn : List He.DefD} {K : PySem.W.Frag} {h : Heap} {mg : Str → Option Value} (X : K.In h) (G : h.Ns mainGlobals mg) (c : He.SaysD (fa ++ freeFa) fn K) : ∀ x ∈ bltNames, mg x = none := fun x hx =>
  He.free_ok X G (says c (f := .free x) (List.mem_append_right _ (List.mem_map_of_mem hx)))
end Fz
end

section -- FzS
namespace Fz
open PySem L2
@[simp] theorem evName_u : type_of% @evName.eq_1 := @evName.eq_1
@[simp] theorem evC_u : type_of% @evC.eq_1 := @evC.eq_1
@[simp] theorem evsNil_u : type_of% @evsNil.eq_1 := @evsNil.eq_1
@[simp] theorem evsCons_u : type_of% @evsCons.eq_1 := @evsCons.eq_1
@[simp] theorem opL_u : type_of% @opL.eq_1 := @opL.eq_1
@[simp] theorem opT_u : type_of% @opT.eq_1 := @opT.eq_1
@[simp] theorem opV_u : type_of% @opV.eq_1 := @opV.eq_1
@[simp] theorem evIdx_u : type_of% @evIdx.eq_1 := @evIdx.eq_1
@[simp] theorem evCall_u : type_of% @evCall.eq_1 := @evCall.eq_1
@[simp] theorem evMut_u : type_of% @evMut.eq_1 := @evMut.eq_1
@[simp] theorem evD0_u : type_of% @evD0.eq_1 := @evD0.eq_1
@[simp] theorem evSl_u : type_of% @evSl.eq_1 := @evSl.eq_1
@[simp] theorem evNoPart_u : type_of% @evNoPart.eq_1 := @evNoPart.eq_1
@[simp] theorem evPart_u : type_of% @evPart.eq_1 := @evPart.eq_1
@[simp] theorem evComp_u : type_of% @evComp.eq_1 := @evComp.eq_1
@[simp] theorem itV_u : type_of% @itV.eq_1 := @itV.eq_1
@[simp] theorem yesT_u : type_of% @yesT.eq_1 := @yesT.eq_1
@[simp] theorem vAndB_u : type_of% @vAndB.eq_1 := @vAndB.eq_1
@[simp] theorem vOrB_u : type_of% @vOrB.eq_1 := @vOrB.eq_1
@[simp] theorem vNotB_u : type_of% @vNotB.eq_1 := @vNotB.eq_1
@[simp] theorem tAndB_u : type_of% @tAndB.eq_1 := @tAndB.eq_1
@[simp] theorem tOrB_u : type_of% @tOrB.eq_1 := @tOrB.eq_1
@[simp] theorem tNotB_u : type_of% @tNotB.eq_1 := @tNotB.eq_1
@[simp] theorem toTru_u : type_of% @toTru.eq_1 := @toTru.eq_1
@[simp] theorem toBl_u : type_of% @toBl.eq_1 := @toBl.eq_1
@[simp] theorem vIf_u : type_of% @vIf.eq_1 := @vIf.eq_1
@[simp] theorem evChain_u : type_of% @evChain.eq_1 := @evChain.eq_1
@[simp] theorem flNx_u : type_of% @flNx.eq_1 := @flNx.eq_1
@[simp] theorem flBk_u : type_of% @flBk.eq_1 := @flBk.eq_1
@[simp] theorem flCt_u : type_of% @flCt.eq_1 := @flCt.eq_1
@[simp] theorem flSeq_u : type_of% @flSeq.eq_1 := @flSeq.eq_1
@[simp] theorem flEx_u : type_of% @flEx.eq_1 := @flEx.eq_1
@[simp] theorem flAsg_u : type_of% @flAsg.eq_1 := @flAsg.eq_1
@[simp] theorem flRet_u : type_of% @flRet.eq_1 := @flRet.eq_1
@[simp] theorem flRetN_u : type_of% @flRetN.eq_1 := @flRetN.eq_1
@[simp] theorem flIf_u : type_of% @flIf.eq_1 := @flIf.eq_1
@[simp] theorem flForI_u : type_of% @flForI.eq_1 := @flForI.eq_1
@[simp] theorem flAsgT_u : type_of% @flAsgT.eq_1 := @flAsgT.eq_1
@[simp] theorem flSetI_u : type_of% @flSetI.eq_1 := @flSetI.eq_1
@[simp] theorem flSet2_u : type_of% @flSet2.eq_1 := @flSet2.eq_1
@[simp] theorem fzAll_u : type_of% @fzAll.eq_1 := @fzAll.eq_1
@[simp] theorem runB_u : type_of% @runB.eq_1 := @runB.eq_1
@[simp] theorem boO_u : type_of% @boO.eq_1 := @boO.eq_1
@[simp] theorem boN_u : type_of% @boN.eq_1 := @boN.eq_1
@[simp] theorem idxB_u : type_of% @idxB.eq_1 := @idxB.eq_1
@[simp] theorem lstAt_u : type_of% @lstAt.eq_1 := @lstAt.eq_1
@[simp] theorem ev_u1 : type_of% @ev.eq_1 := @ev.eq_1
@[simp] theorem ev_u2 : type_of% @ev.eq_2 := @ev.eq_2
@[simp] theorem ev_u3 : type_of% @ev.eq_3 := @ev.eq_3
@[simp] theorem ev_u4 : type_of% @ev.eq_4 := @ev.eq_4
@[simp] theorem ev_u5 : type_of% @ev.eq_5 := @ev.eq_5
@[simp] theorem ev_u6 : type_of% @ev.eq_6 := @ev.eq_6
@[simp] theorem ev_u7 : type_of% @ev.eq_7 := @ev.eq_7
@[simp] theorem ev_u8 : type_of% @ev.eq_8 := @ev.eq_8
@[simp] theorem ev_u9 : type_of% @ev.eq_9 := @ev.eq_9
@[simp] theorem ev_u10 : type_of% @ev.eq_10 := @ev.eq_10
@[simp] theorem ev_u11 : type_of% @ev.eq_11 := @ev.eq_11
@[simp] theorem ev_u12 : type_of% @ev.eq_12 := @ev.eq_12
@[simp] theorem ev_u13 : type_of% @ev.eq_13 := @ev.eq_13
@[simp] theorem ev_u14 : type_of% @ev.eq_14 := @ev.eq_14
@[simp] theorem ev_u15 : type_of% @ev.eq_15 := @ev.eq_15
@[simp] theorem ev_u16 : type_of% @ev.eq_16 := @ev.eq_16
@[simp] theorem ev_u17 : type_of% @ev.eq_17 := @ev.eq_17
@[simp] theorem ev_u18 : type_of% @ev.eq_18 := @ev.eq_18
@[simp] theorem ev_u19 : type_of% @ev.eq_19 := @ev.eq_19
@[simp] theorem ev_u20 : type_of% @ev.eq_20 := @ev.eq_20
@[simp] theorem ev_u21 : type_of% @ev.eq_21 := @ev.eq_21
@[simp] theorem ev_u22 : type_of% @ev.eq_22 := @ev.eq_22
@[simp] theorem ev_u23 : type_of% @ev.eq_23 := @ev.eq_23
@[simp] theorem ev_u24 : type_of% @ev.eq_24 := @ev.eq_24
@[simp] theorem evT_u1 : type_of% @evT.eq_1 := @evT.eq_1
@[simp] theorem evT_u2 : type_of% @evT.eq_2 := @evT.eq_2
@[simp] theorem evT_u3 : type_of% @evT.eq_3 := @evT.eq_3
@[simp] theorem evT_u4 : type_of% @evT.eq_4 := @evT.eq_4
@[simp] theorem evT_u5 : type_of% @evT.eq_5 := @evT.eq_5
@[simp] theorem evT_u6 : type_of% @evT.eq_6 := @evT.eq_6
@[simp] theorem evT_u7 : type_of% @evT.eq_7 := @evT.eq_7
@[simp] theorem evT_u8 : type_of% @evT.eq_8 := @evT.eq_8
@[simp] theorem evT_u9 : type_of% @evT.eq_9 := @evT.eq_9
@[simp] theorem evT_u10 : type_of% @evT.eq_10 := @evT.eq_10
@[simp] theorem evT_u11 : type_of% @evT.eq_11 := @evT.eq_11
@[simp] theorem evT_u12 : type_of% @evT.eq_12 := @evT.eq_12
@[simp] theorem evT_u13 : type_of% @evT.eq_13 := @evT.eq_13
@[simp] theorem evT_u14 : type_of% @evT.eq_14 := @evT.eq_14
@[simp] theorem evT_u15 : type_of% @evT.eq_15 := @evT.eq_15
@[simp] theorem evT_u16 : type_of% @evT.eq_16 := @evT.eq_16
@[simp] theorem evT_u17 : type_of% @evT.eq_17 := @evT.eq_17
@[simp] theorem evT_u18 : type_of% @evT.eq_18 := @evT.eq_18
@[simp] theorem evA_u1 : type_of% @evA.eq_1 := @evA.eq_1
@[simp] theorem evA_u2 : type_of% @evA.eq_2 := @evA.eq_2
@[simp] theorem evM_u1 : type_of% @evM.eq_1 := @evM.eq_1
@[simp] theorem evM_u2 : type_of% @evM.eq_2 := @evM.eq_2
@[simp] theorem evC1_u1 : type_of% @evC1.eq_1 := @evC1.eq_1
@[simp] theorem evC1_u2 : type_of% @evC1.eq_2 := @evC1.eq_2
@[simp] theorem exS_u1 : type_of% @exS.eq_1 := @exS.eq_1
@[simp] theorem exS_u2 : type_of% @exS.eq_2 := @exS.eq_2
@[simp] theorem exS_u3 : type_of% @exS.eq_3 := @exS.eq_3
@[simp] theorem exS_u4 : type_of% @exS.eq_4 := @exS.eq_4
@[simp] theorem exS_u5 : type_of% @exS.eq_5 := @exS.eq_5
@[simp] theorem exS_u6 : type_of% @exS.eq_6 := @exS.eq_6
@[simp] theorem exS_u7 : type_of% @exS.eq_7 := @exS.eq_7
@[simp] theorem exS_u8 : type_of% @exS.eq_8 := @exS.eq_8
@[simp] theorem exS_u9 : type_of% @exS.eq_9 := @exS.eq_9
@[simp] theorem exS_u10 : type_of% @exS.eq_10 := @exS.eq_10
@[simp] theorem exS_u11 : type_of% @exS.eq_11 := @exS.eq_11
@[simp] theorem exS_u12 : type_of% @exS.eq_12 := @exS.eq_12
@[simp] theorem exS_u13 : type_of% @exS.eq_13 := @exS.eq_13
@[simp] theorem exS_u14 : type_of% @exS.eq_14 := @exS.eq_14
@[simp] theorem exS_u15 : type_of% @exS.eq_15 := @exS.eq_15
@[simp] theorem exL_u1 : type_of% @exL.eq_1 := @exL.eq_1
@[simp] theorem exL_u2 : type_of% @exL.eq_2 := @exL.eq_2
@[simp] theorem oc_u1 : type_of% @oc.eq_1 := @oc.eq_1
@[simp] theorem oc_u2 : type_of% @oc.eq_2 := @oc.eq_2
@[simp] theorem oc_u3 : type_of% @oc.eq_3 := @oc.eq_3
@[simp] theorem oc_u4 : type_of% @oc.eq_4 := @oc.eq_4
@[simp] theorem oc_u5 : type_of% @oc.eq_5 := @oc.eq_5
@[simp] theorem oc_u6 : type_of% @oc.eq_6 := @oc.eq_6
@[simp] theorem oc_u7 : type_of% @oc.eq_7 := @oc.eq_7
@[simp] theorem oc_u8 : type_of% @oc.eq_8 := @oc.eq_8
@[simp] theorem oc_u9 : type_of% @oc.eq_9 := @oc.eq_9
@[simp] theorem oc_u10 : type_of% @oc.eq_10 := @oc.eq_10
@[simp] theorem oc_u11 : type_of% @oc.eq_11 := @oc.eq_11
@[simp] theorem oc_u12 : type_of% @oc.eq_12 := @oc.eq_12
@[simp] theorem oc_u13 : type_of% @oc.eq_13 := @oc.eq_13
@[simp] theorem oc_u14 : type_of% @oc.eq_14 := @oc.eq_14
@[simp] theorem oc_u15 : type_of% @oc.eq_15 := @oc.eq_15
@[simp] theorem oc_u16 : type_of% @oc.eq_16 := @oc.eq_16
@[simp] theorem oc_u17 : type_of% @oc.eq_17 := @oc.eq_17
@[simp] theorem oc_u18 : type_of% @oc.eq_18 := @oc.eq_18
@[simp] theorem oc_u19 : type_of% @oc.eq_19 := @oc.eq_19
@[simp] theorem oc_u20 : type_of% @oc.eq_20 := @oc.eq_20
@[simp] theorem oc_u21 : type_of% @oc.eq_21 := @oc.eq_21
@[simp] theorem oc_u22 : type_of% @oc.eq_22 := @oc.eq_22
@[simp] theorem oc_u23 : type_of% @oc.eq_23 := @oc.eq_23
@[simp] theorem oc_u24 : type_of% @oc.eq_24 := @oc.eq_24
@[simp] theorem ocA_u1 : type_of% @ocA.eq_1 := @ocA.eq_1
@[simp] theorem ocA_u2 : type_of% @ocA.eq_2 := @ocA.eq_2
@[simp] theorem ocM_u1 : type_of% @ocM.eq_1 := @ocM.eq_1
@[simp] theorem ocM_u2 : type_of% @ocM.eq_2 := @ocM.eq_2
@[simp] theorem stable_u1 : type_of% @stable.eq_1 := @stable.eq_1
@[simp] theorem stable_u2 : type_of% @stable.eq_2 := @stable.eq_2
@[simp] theorem tk_u1 : type_of% @tk.eq_1 := @tk.eq_1
@[simp] theorem tk_u2 : type_of% @tk.eq_2 := @tk.eq_2
@[simp] theorem tk_u3 : type_of% @tk.eq_3 := @tk.eq_3
@[simp] theorem ln_u1 : type_of% @ln.eq_1 := @ln.eq_1
@[simp] theorem ln_u2 : type_of% @ln.eq_2 := @ln.eq_2
@[simp] theorem ln_u3 : type_of% @ln.eq_3 := @ln.eq_3
@[simp] theorem vw_u1 : type_of% @vw.eq_1 := @vw.eq_1
@[simp] theorem vw_u2 : type_of% @vw.eq_2 := @vw.eq_2
@[simp] theorem vw_u3 : type_of% @vw.eq_3 := @vw.eq_3
@[simp] theorem vws_u1 : type_of% @vws.eq_1 := @vws.eq_1
@[simp] theorem vws_u2 : type_of% @vws.eq_2 := @vws.eq_2
@[simp] theorem tks_u1 : type_of% @tks.eq_1 := @tks.eq_1
@[simp] theorem tks_u2 : type_of% @tks.eq_2 := @tks.eq_2
@[simp] theorem lns_u1 : type_of% @lns.eq_1 := @lns.eq_1
@[simp] theorem lns_u2 : type_of% @lns.eq_2 := @lns.eq_2
@[simp] theorem oOf_u1 : type_of% @oOf.eq_1 := @oOf.eq_1
@[simp] theorem oOf_u2 : type_of% @oOf.eq_2 := @oOf.eq_2
@[simp] theorem oOf_u3 : type_of% @oOf.eq_3 := @oOf.eq_3
@[simp] theorem rtk_u1 : type_of% @rtk.eq_1 := @rtk.eq_1
@[simp] theorem rtk_u2 : type_of% @rtk.eq_2 := @rtk.eq_2
@[simp] theorem nestB_u1 : type_of% @nestB.eq_1 := @nestB.eq_1
@[simp] theorem nestB_u2 : type_of% @nestB.eq_2 := @nestB.eq_2
@[simp] theorem nestB_u3 : type_of% @nestB.eq_3 := @nestB.eq_3
@[simp] theorem subB_u1 : type_of% @subB.eq_1 := @subB.eq_1
@[simp] theorem subB_u2 : type_of% @subB.eq_2 := @subB.eq_2
@[simp] theorem isVal_u1 : type_of% @isVal.eq_1 := @isVal.eq_1
@[simp] theorem isVal_u2 : type_of% @isVal.eq_2 := @isVal.eq_2
@[simp] theorem O_flat_u1 : type_of% @O.flat.eq_1 := @O.flat.eq_1
@[simp] theorem O_flat_u2 : type_of% @O.flat.eq_2 := @O.flat.eq_2
@[simp] theorem O_flat_u3 : type_of% @O.flat.eq_3 := @O.flat.eq_3
@[simp] theorem O_follow_u1 : type_of% @O.follow.eq_1 := @O.follow.eq_1
@[simp] theorem O_follow_u2 : type_of% @O.follow.eq_2 := @O.follow.eq_2
@[simp] theorem O_fz_u1 : type_of% @O.fz.eq_1 := @O.fz.eq_1
@[simp] theorem O_fz_u2 : type_of% @O.fz.eq_2 := @O.fz.eq_2
@[simp] theorem O_fz_u3 : type_of% @O.fz.eq_3 := @O.fz.eq_3
@[simp] theorem O_fz_u4 : type_of% @O.fz.eq_4 := @O.fz.eq_4
@[simp] theorem O_fzs_u1 : type_of% @O.fzs.eq_1 := @O.fzs.eq_1
@[simp] theorem O_fzs_u2 : type_of% @O.fzs.eq_2 := @O.fzs.eq_2
@[simp] theorem maskE_u1 : type_of% @maskE.eq_1 := @maskE.eq_1
@[simp] theorem maskE_u2 : type_of% @maskE.eq_2 := @maskE.eq_2
@[simp] theorem maskE_u3 : type_of% @maskE.eq_3 := @maskE.eq_3
@[simp] theorem place_u1 : type_of% @place.eq_1 := @place.eq_1
@[simp] theorem place_u2 : type_of% @place.eq_2 := @place.eq_2
@[simp] theorem place_u3 : type_of% @place.eq_3 := @place.eq_3
@[simp] theorem truD_u1 : type_of% @truD.eq_1 := @truD.eq_1
@[simp] theorem truD_u2 : type_of% @truD.eq_2 := @truD.eq_2
@[simp] theorem truD_u3 : type_of% @truD.eq_3 := @truD.eq_3
@[simp] theorem truD_u4 : type_of% @truD.eq_4 := @truD.eq_4
@[simp] theorem truD_u5 : type_of% @truD.eq_5 := @truD.eq_5
@[simp] theorem truD_u6 : type_of% @truD.eq_6 := @truD.eq_6
@[simp] theorem truD_u7 : type_of% @truD.eq_7 := @truD.eq_7
@[simp] theorem passL_u1 : type_of% @passL.eq_1 := @passL.eq_1
@[simp] theorem passL_u2 : type_of% @passL.eq_2 := @passL.eq_2
@[simp] theorem passL_u3 : type_of% @passL.eq_3 := @passL.eq_3
@[simp] theorem backL_u1 : type_of% @backL.eq_1 := @backL.eq_1
@[simp] theorem backL_u2 : type_of% @backL.eq_2 := @backL.eq_2
@[simp] theorem backL_u3 : type_of% @backL.eq_3 := @backL.eq_3
@[simp] theorem pass1_u1 : type_of% @pass1.eq_1 := @pass1.eq_1
@[simp] theorem pass1_u2 : type_of% @pass1.eq_2 := @pass1.eq_2
@[simp] theorem g1_u1 : type_of% @g1.eq_1 := @g1.eq_1
@[simp] theorem g1_u2 : type_of% @g1.eq_2 := @g1.eq_2
@[simp] theorem g2_u1 : type_of% @g2.eq_1 := @g2.eq_1
@[simp] theorem g2_u2 : type_of% @g2.eq_2 := @g2.eq_2
@[simp] theorem O_sub_u1 : type_of% @O.sub.eq_1 := @O.sub.eq_1
@[simp] theorem O_sub_u2 : type_of% @O.sub.eq_2 := @O.sub.eq_2
@[simp] theorem O_sub_u3 : type_of% @O.sub.eq_3 := @O.sub.eq_3
@[simp] theorem O_put_u1 : type_of% @O.put.eq_1 := @O.put.eq_1
@[simp] theorem notNest_u1 : type_of% @notNest.eq_1 := @notNest.eq_1
@[simp] theorem notNest_u2 : type_of% @notNest.eq_2 := @notNest.eq_2
@[simp] theorem tou_u1 : type_of% @tou.eq_1 := @tou.eq_1
@[simp] theorem tou_u2 : type_of% @tou.eq_2 := @tou.eq_2
@[simp] theorem tou_u3 : type_of% @tou.eq_3 := @tou.eq_3
@[simp] theorem setTgt_u1 : type_of% @setTgt.eq_1 := @setTgt.eq_1
@[simp] theorem setTgt_u2 : type_of% @setTgt.eq_2 := @setTgt.eq_2
@[simp] theorem setTgt_u3 : type_of% @setTgt.eq_3 := @setTgt.eq_3
@[simp] theorem setDs_u1 : type_of% @setDs.eq_1 := @setDs.eq_1
@[simp] theorem setDs_u2 : type_of% @setDs.eq_2 := @setDs.eq_2
@[simp] theorem setDs_u3 : type_of% @setDs.eq_3 := @setDs.eq_3
@[simp] theorem tn_int : Tn.s .int = "int" := rfl
@[simp] theorem tn_bool : Tn.s .bool = "bool" := rfl
@[simp] theorem tn_tuple : Tn.s .tuple = "tuple" := rfl
@[simp] theorem bf_isi : Bf.g .isi = g2 isiD := rfl
@[simp] theorem bf_len : Bf.g .len = g1 lenD := rfl
@[simp] theorem bf_all : Bf.g .all = g1 allD := rfl
@[simp] theorem bf_abs : Bf.g .abs = g1 absD := rfl
@[simp] theorem bf_max2 : Bf.g .max2 = g2 Fz.max2 := rfl
@[simp] theorem bf_tuple : Bf.g .tuple = g1 tupleD := rfl
@[simp] theorem bf_list : Bf.g .list = g1 listD := rfl
@[simp] theorem ik_enum : Ik.g .enum = enumD := rfl
@[simp] theorem ik_any : Ik.g .any = itemsD := rfl
@[simp] theorem ik_r1 : Ik.g .range1 = range1 := rfl
@[simp] theorem iop_le : Iop.g .le = fun i j => decide (i ≤ j) := rfl
@[simp] theorem iop_lt : Iop.g .lt = fun i j => decide (i < j) := rfl
@[simp] theorem cop_lt : Cop.g .lt = c2 fun i j => decide (i < j) := rfl
@[simp] theorem cop_gt : Cop.g .gt = c2 fun i j => decide (j < i) := rfl
@[simp] theorem cop_ge : Cop.g .ge = c2 fun i j => decide (j ≤ i) := rfl
@[simp] theorem cop_eq : Cop.g .eq = boO eqO := rfl
@[simp] theorem cop_ne : Cop.g .ne = boN eqO := rfl
@[simp] theorem cop_isNot : Cop.g .isNot = boN isO := rfl
@[simp] theorem bop_add : binD .add = addD := rfl
@[simp] theorem bop_sub : binD .sub = b2 fun i j => some (i - j) := rfl
@[simp] theorem bop_mul : binD .mul = mulD := rfl
@[simp] theorem bop_fdiv : binD .fdiv = b2 fdivI := rfl
@[simp] theorem bop_mod : binD .mod = b2 modI := rfl
@[simp] theorem bop_pow : binD .pow = b2 powI := rfl
@[simp] theorem addD_int (i j : Int) : addD (.int i) (.int j) = some (.val (.int (i + j))) := rfl
@[simp] theorem b2_int (f : Int → Int → Option Int) (i j : Int) : b2 f (.int i) (.int j) = (f i j).map fun k => .val (.int k) := rfl
@[simp] theorem c2_int (f : Int → Int → Bool) (i j : Int) : c2 f (.int i) (.int j) = some (.val (.bl (f i j))) := rfl
@[simp] theorem lenD_tup (ds : List D) : lenD (.tup ds) = some (.val (.int ds.length)) := rfl
end Fz
end

section -- T
namespace L63
open PySem L2
def top (i : Nat) : Stmt := PySem.Challenge.pw_firetogether_k63_trees_of_anything.main.body.getD i (.Pass ⟨0, 0, 0, 0⟩)
/-- is_hand -/
def f0 : Fz.Fe := ⟨"is_hand", ["thing", "many"], [false, false], (.cons (.ret (.and (.blt .isi (.cons (.nm 0) (.cons (.ty .int) .nil))) (.and (.not (.blt .isi (.cons (.nm 0) (.cons (.ty .bool) .nil)))) (.ch .le .lt (.int 0) (.nm 0) (.nm 1))))) .nil)⟩
def d0 : He.DefD := ⟨("is_hand", none), "is_hand", "is_hand", defArgs (top 1), defBody (top 1), defScope (top 1), [], []⟩
/-- is_tree -/
def f1 : Fz.Fe := ⟨"is_tree", ["thing", "k", "tied"], [false], (.cons (.iff (.or (.not (.blt .isi (.cons (.nm 0) (.cons (.ty .tuple) .nil)))) (.cmp .lt (.blt .len (.cons (.nm 0) .nil)) (.int 2))) (.cons (.ret (.bl false)) .nil) .nil) (.cons (.ret (.blt .all (.cons (.comp [("k", 1), ("tied", 2)] (.tup [1, 2]) .enum (.cons (.nm 0) .nil) .no (.call 0 (.cons (.nm 2) (.cons (.bin .add (.nm 1) (.int 1)) .nil)))) .nil))) .nil))⟩
def d1 : He.DefD := ⟨("is_tree", none), "is_tree", "is_tree", defArgs (top 2), defBody (top 2), defScope (top 2), [], []⟩
/-- _law_pot -/
def f2 : Fz.Fe := ⟨"_law_pot", ["_law_script", "_law_seed", "_law_far", "_law_turn", "_law_k", "_law_cell"], [false], (.cons (.set 1 (.int 1000003)) (.cons (.fr (.tup [4, 5]) .enum (.cons (.sl (.nm 0) .no (.yes (.int 63))) .nil) (.cons (.set 1 (.bin .mod (.bin .add (.bin .add (.bin .add (.bin .mul (.nm 1) (.int 7368787)) (.bin .mod (.nm 5) (.bin .pow (.int 10) (.int 40)))) (.bin .mul (.int 31) (.nm 4))) (.int 11)) (.int 2305843009213693951))) .nil)) (.cons (.set 2 (.int 1)) (.cons (.fr (.nm 3) .range1 (.cons (.int 15) .nil) (.cons (.set 2 (.bin .mul (.nm 2) (.bin .pow (.int 10) (.int 60)))) .nil)) (.cons (.ret (.lst (.cons (.comp [("_law_cell", 5)] (.nm 5) .any (.cons (.sl (.nm 0) .no (.yes (.int 63))) .nil) (.yes (.cmp .ge (.blt .abs (.cons (.nm 5) .nil)) (.bin .pow (.int 10) (.int 18)))) (.bin .mod (.blt .abs (.cons (.nm 5) .nil)) (.nm 2))) (.cons (.nm 1) (.cons (.int 0) .nil))))) .nil)))))⟩
def d2 : He.DefD := ⟨("_law_pot", none), "_law_pot", "_law_pot", defArgs (top 4), defBody (top 4), defScope (top 4), [], []⟩
/-- _law_take -/
def f3 : Fz.Fe := ⟨"_law_take", ["_law_pot_here", "_law_many", "_law_high", "_law_number"], [true, false], (.cons (.wh (.and (.cmp .ne (.idx (.nm 0) (.int 0)) (.lst .nil)) (.cmp .eq (.idx (.idx (.nm 0) (.int 0)) (.int 0)) (.int 0))) (.cons (.ex (.lm .pop (.idx (.nm 0) (.int 0)) (.cons (.int 0) .nil))) .nil)) (.cons (.iff (.cmp .ne (.idx (.nm 0) (.int 0)) (.lst .nil)) (.cons (.set 3 (.idx (.idx (.nm 0) (.int 0)) (.int 0))) (.cons (.setI (.idx (.nm 0) (.int 0)) (.int 0) (.bin .fdiv (.nm 3) (.nm 1))) (.cons (.ret (.bin .mod (.nm 3) (.nm 1))) .nil))) .nil) (.cons (.setI (.nm 0) (.int 2) (.bin .add (.idx (.nm 0) (.int 2)) (.int 1))) (.cons (.setI (.nm 0) (.int 1) (.bin .mod (.bin .mul (.idx (.nm 0) (.int 1)) (.int 2862933555777941757)) (.int 2305843009213693951))) (.cons (.setI (.nm 0) (.int 1) (.bin .mod (.bin .add (.bin .add (.idx (.nm 0) (.int 1)) (.bin .mul (.int 3037000493) (.idx (.nm 0) (.int 2)))) (.int 1)) (.int 2305843009213693951))) (.cons (.set 2 (.bin .fdiv (.idx (.nm 0) (.int 1)) (.int 16777216))) (.cons (.ret (.bin .mod (.bin .add (.bin .mul (.nm 2) (.bin .add (.bin .mod (.nm 2) (.int 1021)) (.int 2))) (.bin .fdiv (.nm 2) (.int 4099))) (.nm 1))) .nil)))))))⟩
def d3 : He.DefD := ⟨("_law_take", none), "_law_take", "_law_take", defArgs (top 5), defBody (top 5), defScope (top 5), [], []⟩
/-- _law_tree -/
def f4 : Fz.Fe := ⟨"_law_tree", ["_law_pot_here", "_law_many", "_law_way", "_law_tree_here", "_law_k", "_law_some"], [true], (.cons (.set 1 (.idx (.lst (.cons (.bin .add (.int 3) (.call 3 (.cons (.nm 0) (.cons (.int 8) .nil)))) (.cons (.bin .add (.int 3) (.call 3 (.cons (.nm 0) (.cons (.int 28) .nil)))) .nil))) (.bin .fdiv (.call 3 (.cons (.nm 0) (.cons (.int 4) .nil))) (.int 3)))) (.cons (.set 2 (.call 3 (.cons (.nm 0) (.cons (.int 5) .nil)))) (.cons (.set 3 (.lst .nil)) (.cons (.fr (.nm 4) .range1 (.cons (.bin .sub (.nm 1) (.int 1)) .nil) (.cons (.set 5 (.lst (.cons (.nm 4) (.cons (.int 0) (.cons (.blt .max2 (.cons (.int 0) (.cons (.bin .sub (.nm 4) (.int 1)) .nil))) (.cons (.call 3 (.cons (.nm 0) (.cons (.bin .add (.nm 4) (.int 1)) .nil))) (.cons (.blt .max2 (.cons (.int 0) (.cons (.bin .sub (.nm 4) (.call 3 (.cons (.nm 0) (.cons (.int 3) .nil)))) .nil))) .nil))))))) (.cons (.ex (.lm .append (.nm 3) (.cons (.idx (.nm 5) (.nm 2)) .nil))) .nil))) (.cons (.ret (.blt .tuple (.cons (.nm 3) .nil))) .nil)))))⟩
def d4 : He.DefD := ⟨("_law_tree", none), "_law_tree", "_law_tree", defArgs (top 6), defBody (top 6), defScope (top 6), [], []⟩
/-- _law_is_tree -/
def f5 : Fz.Fe := ⟨"_law_is_tree", ["_law_thing", "_law_k", "_law_other"], [false], (.cons (.iff (.or (.not (.blt .isi (.cons (.nm 0) (.cons (.ty .tuple) .nil)))) (.cmp .lt (.blt .len (.cons (.nm 0) .nil)) (.int 2))) (.cons (.ret (.bl false)) .nil) .nil) (.cons (.fr (.tup [1, 2]) .enum (.cons (.nm 0) .nil) (.cons (.iff (.or (.not (.blt .isi (.cons (.nm 2) (.cons (.ty .int) .nil)))) (.or (.blt .isi (.cons (.nm 2) (.cons (.ty .bool) .nil))) (.or (.cmp .lt (.nm 2) (.int 0)) (.cmp .gt (.nm 2) (.nm 1))))) (.cons (.ret (.bl false)) .nil) .nil) .nil)) (.cons (.ret (.bl true)) .nil)))⟩
def d5 : He.DefD := ⟨("_law_is_tree", none), "_law_is_tree", "_law_is_tree", defArgs (top 7), defBody (top 7), defScope (top 7), [], []⟩
/-- _law_spoilt -/
def f6 : Fz.Fe := ⟨"_law_spoilt", ["_law_pot_here", "_law_tree_here", "_law_at", "_law_way", "_law_beyond", "_law_odd", "_law_other", "_law_mixed"], [true, false], (.cons (.set 2 (.call 3 (.cons (.nm 0) (.cons (.blt .len (.cons (.nm 1) .nil)) .nil)))) (.cons (.set 3 (.call 3 (.cons (.nm 0) (.cons (.int 12) .nil)))) (.cons (.set 4 (.lst (.cons (.bin .add (.nm 2) (.int 1)) (.cons (.bin .add (.nm 2) (.int 2)) (.cons (.neg (.int 1)) (.cons (.bl true) (.cons (.bl false) (.cons (.non) (.cons (.str ⟨#[48]⟩) (.cons (.tup (.cons (.int 0) .nil)) (.cons (.lst (.cons (.int 0) .nil)) (.cons (.d0 false) (.cons (.bin .pow (.int 10) (.int 30)) (.cons (.neg (.bin .pow (.int 10) (.int 30))) (.cons (.nm 2) (.cons (.int 0) .nil)))))))))))))))) (.cons (.set 5 (.idx (.nm 4) (.call 3 (.cons (.nm 0) (.cons (.int 14) .nil))))) (.cons (.iff (.cmp .eq (.nm 3) (.int 0)) (.cons (.ret (.blt .list (.cons (.nm 1) .nil))) .nil) .nil) (.cons (.iff (.cmp .eq (.nm 3) (.int 1)) (.cons (.ret (.bin .add (.sl (.nm 1) .no (.yes (.nm 2))) (.sl (.nm 1) (.yes (.bin .add (.nm 2) (.int 1))) .no))) .nil) .nil) (.cons (.iff (.and (.cmp .eq (.nm 3) (.int 2)) (.cmp .lt (.blt .len (.cons (.nm 1) .nil)) (.int 29))) (.cons (.ret (.bin .add (.bin .add (.sl (.nm 1) .no (.yes (.nm 2))) (.tup (.cons (.nm 5) .nil))) (.sl (.nm 1) (.yes (.nm 2)) .no))) .nil) .nil) (.cons (.iff (.cmp .eq (.nm 3) (.int 3)) (.cons (.set 6 (.call 3 (.cons (.nm 0) (.cons (.blt .len (.cons (.nm 1) .nil)) .nil)))) (.cons (.set 7 (.blt .list (.cons (.nm 1) .nil))) (.cons (.set2 7 2 6 (.tup (.cons (.idx (.nm 7) (.nm 6)) (.cons (.idx (.nm 7) (.nm 2)) .nil)))) (.cons (.ret (.blt .tuple (.cons (.nm 7) .nil))) .nil)))) .nil) (.cons (.iff (.cmp .eq (.nm 3) (.int 4)) (.cons (.ret (.sl (.nm 1) .no (.yes (.call 3 (.cons (.nm 0) (.cons (.int 3) .nil)))))) .nil) .nil) (.cons (.iff (.and (.cmp .eq (.nm 3) (.int 5)) (.cmp .lt (.blt .len (.cons (.nm 1) .nil)) (.int 29))) (.cons (.ret (.bin .add (.nm 1) (.tup (.cons (.nm 5) .nil)))) .nil) .nil) (.cons (.ret (.bin .add (.bin .add (.sl (.nm 1) .no (.yes (.nm 2))) (.tup (.cons (.nm 5) .nil))) (.sl (.nm 1) (.yes (.bin .add (.nm 2) (.int 1))) .no))) .nil)))))))))))⟩
def d6 : He.DefD := ⟨("_law_spoilt", none), "_law_spoilt", "_law_spoilt", defArgs (top 8), defBody (top 8), defScope (top 8), [], []⟩
/-- law -/
def f7 : Fz.Fe := ⟨"law", ["_law_script", "_law_pot_here", "_law_turn", "_law_deep", "_law_k", "_law_some", "_law_thing", "_law_tree_here", "_law_again", "_law_told"], [false], (.cons (.set 1 (.call 2 (.cons (.nm 0) .nil))) (.cons (.fr (.nm 2) .range1 (.cons (.int 4) .nil) (.cons (.set 7 (.call 4 (.cons (.nm 1) .nil))) (.cons (.iff (.cmp .isNot (.call 1 (.cons (.nm 7) .nil)) (.bl true)) (.cons (.ret (.bl false)) .nil) .nil) (.cons (.fr (.nm 8) .range1 (.cons (.int 14) .nil) (.cons (.set 6 (.call 6 (.cons (.nm 1) (.cons (.nm 7) .nil)))) (.cons (.set 9 (.call 1 (.cons (.nm 6) .nil))) (.cons (.iff (.or (.not (.blt .isi (.cons (.nm 9) (.cons (.ty .bool) .nil)))) (.or (.cmp .ne (.nm 9) (.call 5 (.cons (.nm 6) .nil))) (.cmp .ne (.call 1 (.cons (.nm 6) .nil)) (.nm 9)))) (.cons (.ret (.bl false)) .nil) .nil) .nil)))) .nil)))) (.cons (.set 3 (.tup (.cons (.int 0) (.cons (.int 0) .nil)))) (.cons (.fr (.nm 4) .range1 (.cons (.call 3 (.cons (.nm 1) (.cons (.int 28) .nil))) .nil) (.cons (.set 3 (.idx (.lst (.cons (.tup (.cons (.nm 3) .nil)) (.cons (.lst (.cons (.nm 3) .nil)) (.cons (.tup (.cons (.int 0) (.cons (.nm 3) .nil))) .nil)))) (.bin .mod (.nm 4) (.int 3)))) .nil)) (.cons (.set 5 (.lst (.cons (.non) (.cons (.bl true) (.cons (.bl false) (.cons (.int 0) (.cons (.int 1) (.cons (.str ⟨#[]⟩) (.cons (.str ⟨#[48, 48]⟩) (.cons (.tup .nil) (.cons (.tup (.cons (.int 0) .nil)) (.cons (.lst .nil) (.cons (.lst (.cons (.int 0) (.cons (.int 0) .nil))) (.cons (.d0 false) (.cons (.dk [.inl 0] (.cons (.int 0) .nil)) (.cons (.tup (.cons (.non) (.cons (.int 0) .nil))) (.cons (.tup (.cons (.int 0) (.cons (.tup (.cons (.int 0) .nil)) .nil))) (.cons (.tup (.cons (.tup (.cons (.int 0) .nil)) (.cons (.int 0) .nil))) (.cons (.nm 3) .nil))))))))))))))))))) (.cons (.fr (.nm 6) .any (.cons (.nm 5) .nil) (.cons (.set 9 (.call 1 (.cons (.nm 6) .nil))) (.cons (.iff (.or (.not (.blt .isi (.cons (.nm 9) (.cons (.ty .bool) .nil)))) (.cmp .ne (.nm 9) (.call 5 (.cons (.nm 6) .nil)))) (.cons (.ret (.bl false)) .nil) .nil) .nil))) (.cons (.ret (.bl true)) .nil)))))))⟩
def d7 : He.DefD := ⟨("law", none), "law", "law", defArgs (top 9), defBody (top 9), defScope (top 9), [], []⟩
def T : List Fz.Fe := [f0, f1, f2, f3, f4, f5, f6, f7]
def ds : List He.DefD := [d0, d1, d2, d3, d4, d5, d6, d7]
def Γ : List Str := T.map (·.nm)
theorem ck0 : Fz.chkFe Γ f0 d0 = true := by decide +kernel
theorem ck1 : Fz.chkFe Γ f1 d1 = true := by decide +kernel
theorem ck2 : Fz.chkFe Γ f2 d2 = true := by decide +kernel
theorem ck3 : Fz.chkFe Γ f3 d3 = true := by decide +kernel
theorem ck4 : Fz.chkFe Γ f4 d4 = true := by decide +kernel
theorem ck5 : Fz.chkFe Γ f5 d5 = true := by decide +kernel
theorem ck6 : Fz.chkFe Γ f6 d6 = true := by decide +kernel
theorem ck7 : Fz.chkFe Γ f7 d7 = true := by decide +kernel
def fa : List He.Fa := [.glo "is_hand", .glo "is_tree", .glo "_law_pot", .glo "_law_take", .glo "_law_tree", .glo "_law_is_tree", .glo "_law_spoilt", .glo "law"] ++ Fz.freeFa
theorem tabOk {K : PySem.W.Frag} {h : Heap} {mg : Str → Option Value} (X : K.In h) (G : h.Ns mainGlobals mg) (c : He.SaysD fa ds K) : Fz.TabOk K mg T ds := by
  refine ⟨Fz.says_free X G c, fun j fe e => ?_⟩
  match j, e with
  | 0, e =>
    cases e
    obtain ⟨fd, F⟩ := c.def_ 0 (d := d0) rfl
    exact ⟨d0, _, fd, rfl, F, ck0, He.glo_ok X G (c.fact 0 (f := .glo "is_hand") rfl), FunD.bindsN F fun _ _ _ _ _ _ us hl => match us, hl with | [_, _], _ => rfl⟩
  | 1, e =>
    cases e
    obtain ⟨fd, F⟩ := c.def_ 1 (d := d1) rfl
    exact ⟨d1, _, fd, rfl, F, ck1, He.glo_ok X G (c.fact 1 (f := .glo "is_tree") rfl), FunD.bindsN F fun _ _ _ _ _ _ us hl => match us, hl with | [_], _ => rfl⟩
  | 2, e =>
    cases e
    obtain ⟨fd, F⟩ := c.def_ 2 (d := d2) rfl
    exact ⟨d2, _, fd, rfl, F, ck2, He.glo_ok X G (c.fact 2 (f := .glo "_law_pot") rfl), FunD.bindsN F fun _ _ _ _ _ _ us hl => match us, hl with | [_], _ => rfl⟩
  | 3, e =>
    cases e
    obtain ⟨fd, F⟩ := c.def_ 3 (d := d3) rfl
    exact ⟨d3, _, fd, rfl, F, ck3, He.glo_ok X G (c.fact 3 (f := .glo "_law_take") rfl), FunD.bindsN F fun _ _ _ _ _ _ us hl => match us, hl with | [_, _], _ => rfl⟩
  | 4, e =>
    cases e
    obtain ⟨fd, F⟩ := c.def_ 4 (d := d4) rfl
    exact ⟨d4, _, fd, rfl, F, ck4, He.glo_ok X G (c.fact 4 (f := .glo "_law_tree") rfl), FunD.bindsN F fun _ _ _ _ _ _ us hl => match us, hl with | [_], _ => rfl⟩
  | 5, e =>
    cases e
    obtain ⟨fd, F⟩ := c.def_ 5 (d := d5) rfl
    exact ⟨d5, _, fd, rfl, F, ck5, He.glo_ok X G (c.fact 5 (f := .glo "_law_is_tree") rfl), FunD.bindsN F fun _ _ _ _ _ _ us hl => match us, hl with | [_], _ => rfl⟩
  | 6, e =>
    cases e
    obtain ⟨fd, F⟩ := c.def_ 6 (d := d6) rfl
    exact ⟨d6, _, fd, rfl, F, ck6, He.glo_ok X G (c.fact 6 (f := .glo "_law_spoilt") rfl), FunD.bindsN F fun _ _ _ _ _ _ us hl => match us, hl with | [_, _], _ => rfl⟩
  | 7, e =>
    cases e
    obtain ⟨fd, F⟩ := c.def_ 7 (d := d7) rfl
    exact ⟨d7, _, fd, rfl, F, ck7, He.glo_ok X G (c.fact 7 (f := .glo "law") rfl), FunD.bindsN F fun _ _ _ _ _ _ us hl => match us, hl with | [_], _ => rfl⟩
  | j + 8, e => cases e
theorem run0 (n k : Nat) (os : List Fz.O) : Fz.run n T (k + 1) 0 os = Fz.runB f0.N.length (Fz.exL (Fz.run n T k) (Fz.iosOf T) n f0.body) os := rfl
@[simp] theorem ios0 : Fz.iosOf T 0 = [false, false] := rfl
theorem run1 (n k : Nat) (os : List Fz.O) : Fz.run n T (k + 1) 1 os = Fz.runB f1.N.length (Fz.exL (Fz.run n T k) (Fz.iosOf T) n f1.body) os := rfl
@[simp] theorem ios1 : Fz.iosOf T 1 = [false] := rfl
theorem run2 (n k : Nat) (os : List Fz.O) : Fz.run n T (k + 1) 2 os = Fz.runB f2.N.length (Fz.exL (Fz.run n T k) (Fz.iosOf T) n f2.body) os := rfl
@[simp] theorem ios2 : Fz.iosOf T 2 = [false] := rfl
theorem run3 (n k : Nat) (os : List Fz.O) : Fz.run n T (k + 1) 3 os = Fz.runB f3.N.length (Fz.exL (Fz.run n T k) (Fz.iosOf T) n f3.body) os := rfl
@[simp] theorem ios3 : Fz.iosOf T 3 = [true, false] := rfl
theorem run4 (n k : Nat) (os : List Fz.O) : Fz.run n T (k + 1) 4 os = Fz.runB f4.N.length (Fz.exL (Fz.run n T k) (Fz.iosOf T) n f4.body) os := rfl
@[simp] theorem ios4 : Fz.iosOf T 4 = [true] := rfl
theorem run5 (n k : Nat) (os : List Fz.O) : Fz.run n T (k + 1) 5 os = Fz.runB f5.N.length (Fz.exL (Fz.run n T k) (Fz.iosOf T) n f5.body) os := rfl
@[simp] theorem ios5 : Fz.iosOf T 5 = [false] := rfl
theorem run6 (n k : Nat) (os : List Fz.O) : Fz.run n T (k + 1) 6 os = Fz.runB f6.N.length (Fz.exL (Fz.run n T k) (Fz.iosOf T) n f6.body) os := rfl
@[simp] theorem ios6 : Fz.iosOf T 6 = [true, false] := rfl
theorem run7 (n k : Nat) (os : List Fz.O) : Fz.run n T (k + 1) 7 os = Fz.runB f7.N.length (Fz.exL (Fz.run n T k) (Fz.iosOf T) n f7.body) os := rfl
@[simp] theorem ios7 : Fz.iosOf T 7 = [false] := rfl
abbrev R : PySem.W.OpenRow := PySem.W.OpenLaw.row PySem.Challenge.rw_firetogether_k63_trees_of_anything
abbrev hk : PySem.W.Hook := He.hookD 4 fa ds
def ob (s : PySem.W.SharedT) : He.AlD := He.obsDG 4 fa ds (HandSHeadRun.getT s)
theorem ob_eq (s : PySem.W.SharedT) : ob s = hk.obs s.abs := He.obsDG_eq (HandSHeadRun.getT_eq s)
def names : List Str := (["is_hand", "is_tree", "_law_pot", "_law_take", "_law_tree", "_law_is_tree", "_law_spoilt"] : List Str)
theorem headrun (w : World) : HandSHeadRun.RunEq R (PySem.W.view R.prog [9]) hk ob 2000 names w := by
  intro os
  kernel_rfl
end L63
end

section -- P63a
namespace Fz
open PySem L2
def ivs (cs : List Int) : List O := cs.map fun c => .val (.int c)
theorem ivs_fz : ∀ cs : List Int, O.fzs (ivs cs) = cs.map D.int
  | [] => rfl
  | c :: cs => by simp [ivs]; exact ivs_fz cs
theorem vals_fz : ∀ ds : List D, O.fzs (ds.map .val) = ds
  | [] => rfl
  | d :: ds => by simp [vals_fz ds]
theorem ivs_flat (cs : List Int) : (ivs cs).all isVal = true := by simp [ivs, isVal]
theorem ivs_ne (cs : List Int) : eqO (.lst (cs.map D.int)) (.lst []) = some cs.isEmpty := by
  have h1 : ∀ cs : List Int, PyData.canLayAll0 (toPys (cs.map D.int)) = true := fun cs => by
    induction cs with
    | nil => rfl
    | cons c cs ih => simp [toPys, toPy, PyData.canLayAll0, PyData.canLay0, ih]
  have h2 : ∀ cs : List Int, PyData.depthAll (toPys (cs.map D.int)) ≤ 1 := fun cs => by
    induction cs with
    | nil => simp [toPys, PyData.depthAll]
    | cons c cs ih => simp [toPys, toPy, PyData.depthAll, PyData.depth]; omega
  have s1 : SeqAt.shaped (toPy (.lst (cs.map D.int))) = true := by
    simp only [SeqAt.shaped, toPy, PyData.canLay0, PyData.depth, h1, Bool.true_and, decide_eq_true_eq]
    have := h2 cs
    omega
  have s2 : SeqAt.shaped (toPy (.lst [])) = true := by decide
  unfold eqO eqP
  simp only [eqS, Option.none_or, s1, s2, and_self, if_true]
  cases cs <;> simp [toPy, toPys, PyData.eqv, PyData.eqvAll]
end Fz
namespace L63
open PySem L2 Fz
def okD : D → Bool
  | .non => true | .bl _ => true | .int _ => true | .str _ => true | .tup _ => true | .lst _ => true | .scr _ => true | .dct _ => true
  | _ => false
def isHand (m : Int) : D → Bool
  | .int i => decide (0 ≤ i) && decide (i < m)
  | _ => false
theorem isi_int (d : D) (h : okD d = true) : isiD d (.ty "int") = some (.val (.bl (match d with | .int _ => true | .bl _ => true | _ => false))) := by
  cases d <;> first | rfl | cases h
theorem isi_bool (d : D) (h : okD d = true) : isiD d (.ty "bool") = some (.val (.bl (match d with | .bl _ => true | _ => false))) := by
  cases d <;> first | rfl | cases h
theorem isi_tuple (d : D) (h : okD d = true) : isiD d (.ty "tuple") = some (.val (.bl (match d with | .tup _ => true | _ => false))) := by
  cases d <;> first | rfl | cases h
theorem hand (n k : Nat) (d : D) (m : Int) (h : okD d = true) : run n T (k + 1) 0 [.val d, .val (.int m)] = .ok (.val (.bl (isHand m d)), [some (.val d), some (.val (.int m))]) := by
  rw [run0]
  simp [f0, isi_int d h, isi_bool d h]
  cases d <;> simp [isHand]
  rename_i i
  by_cases h0 : 0 ≤ i <;> simp [h0]
/-- the hands of what is given, from place i on -/
def hands : Nat → List D → List Bool
  | _, [] => []
  | i, d :: ds => isHand ((i : Int) + 1) d :: hands (i + 1) ds
theorem comp_hand (n k : Nat) (x : O) : ∀ (ds : List D) (i : Nat) (acc : List O), (∀ d ∈ ds, okD d = true) → acc.length + ds.length ≤ sizeLine →
    compL [1, 2] (setTgt (.tup [1, 2])) yesT (evCall [false, false] (run n T (k + 1) 0) (evA (run n T (k + 1)) (iosOf T) (.cons (.nm 2) (.cons (.bin .add (.nm 1) (.int 1)) .nil)))) (pairs (enumGo i ds)) acc [some x, none, none] = .ok (acc ++ (hands i ds).map fun b => .val (.bl b), [some x, none, none])
  | [], i, acc, _, _ => by simp [pairs, enumGo, compL, hands]
  | d :: ds, i, acc, h, hl => by
    have h1 := hand n k d (i + 1) (h d (by simp))
    have h2 := comp_hand n k x ds (i + 1) (acc ++ [.val (.bl (isHand ((i : Int) + 1) d))]) (fun e he => h e (by simp [he])) (by simp at hl ⊢; omega)
    have h3 : acc.length < sizeLine := by simp at hl; omega
    simp [pairs] at h2
    simp [pairs, enumGo, compL, setD, h1, h3, wipeE, hands, h2]
def isTree : D → Bool
  | .tup ds => decide (2 ≤ ds.length) && (hands 0 ds).all id
  | _ => false
def okT : D → Bool
  | .tup ds => ds.all okD && decide (ds.length ≤ 1000)
  | d => okD d
theorem okT_okD {d : D} (h : okT d = true) : okD d = true := by cases d <;> first | rfl | exact h
theorem bools_map : ∀ bs : List Bool, bools (bs.map fun b => D.bl b) = some bs
  | [] => rfl
  | b :: bs => by simp [bools, bools_map bs]
theorem fzs_bls (bs : List Bool) : O.fzs (bs.map fun b => .val (.bl b)) = bs.map fun b => D.bl b := by
  induction bs with
  | nil => rfl
  | cons b bs ih => simp [ih]
@[simp] theorem back1 (os env : En) : backL [none] (maskE [false] os) env = env := by cases os <;> rfl
@[simp] theorem back2 (os env : En) : backL [none, none] (maskE [false, false] os) env = env := by
  match os with
  | [] => rfl
  | [_] => rfl
  | _ :: _ :: _ => rfl
theorem tree (n k : Nat) (d : D) (h : okT d = true) : run n T (k + 2) 1 [.val d] = .ok (.val (.bl (isTree d)), [some (.val d), none, none]) := by
  rw [run1]
  have h1 := isi_tuple d (okT_okD h)
  have oth : isiD d (.ty "tuple") = some (.val (.bl false)) → isTree d = false → runB f1.N.length (exL (run n T (k + 1)) (iosOf T) n f1.body) [.val d] = .ok (.val (.bl (isTree d)), [some (.val d), none, none]) := fun a b => by
    rw [b]
    simp [f1, a]
  cases d with
  | tup ds =>
    simp only [okT, Bool.and_eq_true, List.all_eq_true, decide_eq_true_eq] at h
    simp only at h1
    have h2 := comp_hand n k (.val (.tup ds)) ds 0 [] h.1 (by show 0 + ds.length ≤ _; rw [sizeLine_eq]; omega)
    by_cases hl : ds.length < 2
    · have hi : ((ds.length : Nat) : Int) < 2 := by omega
      simp [f1, h1, hi, isTree, show ¬ 2 ≤ ds.length by omega]
    · have hi : ¬ ((ds.length : Nat) : Int) < 2 := by omega
      simp at h2
      simp [f1, h1, hi, isTree, enumD, wipeE, h2, backE, fzs_bls, allD, bools_map, show 2 ≤ ds.length by omega]
  | _ => exact oth h1 rfl
/-- the law's own: a loop that leaves at the first that is no hand -/
theorem loop_own (n k : Nat) (x : O) : ∀ (ds : List D) (i : Nat) (a b : Option O), (∀ d ∈ ds, okD d = true) →
    ∃ e, flFor (setTgt (.tup [1, 2])) (exL (run n T k) (iosOf T) n (.cons (.iff (.or (.not (.blt .isi (.cons (.nm 2) (.cons (.ty .int) .nil)))) (.or (.blt .isi (.cons (.nm 2) (.cons (.ty .bool) .nil))) (.or (.cmp .lt (.nm 2) (.int 0)) (.cmp .gt (.nm 2) (.nm 1))))) (.cons (.ret (.bl false)) .nil) .nil) .nil)) (pairs (enumGo i ds)) [some x, a, b] = .ok (if (hands i ds).all id = true then .nx else .rt (.val (.bl false)), e)
  | [], i, a, b, _ => ⟨[some x, a, b], by simp [pairs, enumGo, flFor, hands]⟩
  | d :: ds, i, a, b, h => by
    obtain ⟨e, h2⟩ := loop_own n k x ds (i + 1) (some (.val (.int i))) (some (.val d)) (fun e he => h e (by simp [he]))
    have h0 := h d (by simp)
    have i1 := isi_int d h0
    have i2 := isi_bool d h0
    simp [pairs] at h2
    by_cases hh : isHand ((i : Int) + 1) d = true
    · refine ⟨e, ?_⟩
      cases d <;> simp [isHand] at hh
      rename_i j
      simp only at i1 i2
      have g1 : ¬ j < 0 := by omega
      have g2 : ¬ (i : Int) < j := by omega
      simp [pairs, enumGo, flFor, setD, i1, i2, g1, g2, hands, isHand, hh, h2]
    · refine ⟨[some x, some (.val (.int i)), some (.val d)], ?_⟩
      have hh' : isHand ((i : Int) + 1) d = false := by simpa using hh
      cases d <;> first
        | (simp only at i1 i2
           simp [pairs, enumGo, flFor, setD, i1, i2, hands, isHand]
           done)
        | skip
      all_goals first
        | (rename_i j
           simp only [isHand, Bool.and_eq_false_iff, decide_eq_false_iff_not] at hh'
           simp only at i1 i2
           by_cases g1 : j < 0
           · simp [pairs, enumGo, flFor, setD, i1, i2, g1, hands, isHand, show ¬ 0 ≤ j by omega]
           · have g2 : (i : Int) < j := by omega
             simp [pairs, enumGo, flFor, setD, i1, i2, g1, g2, hands, isHand, show ¬ j < (i : Int) + 1 by omega])
        | (cases h0)
theorem own (n k : Nat) (d : D) (h : okT d = true) : ∃ e, run n T (k + 1) 5 [.val d] = .ok (.val (.bl (isTree d)), e) := by
  rw [run5]
  have h1 := isi_tuple d (okT_okD h)
  have oth : isiD d (.ty "tuple") = some (.val (.bl false)) → isTree d = false → ∃ e, runB f5.N.length (exL (run n T k) (iosOf T) n f5.body) [.val d] = .ok (.val (.bl (isTree d)), e) := fun a b => by
    rw [b]
    exact ⟨[some (.val d), none, none], by simp [f5, a]⟩
  cases d with
  | tup ds =>
    simp only [okT, Bool.and_eq_true, List.all_eq_true, decide_eq_true_eq] at h
    simp only at h1
    obtain ⟨e, h2⟩ := loop_own n k (.val (.tup ds)) ds 0 none none h.1
    by_cases hl : ds.length < 2
    · have hi : ((ds.length : Nat) : Int) < 2 := by omega
      exact ⟨[some (.val (.tup ds)), none, none], by simp [f5, h1, hi, isTree, show ¬ 2 ≤ ds.length by omega]⟩
    · have hi : ¬ ((ds.length : Nat) : Int) < 2 := by omega
      refine ⟨e, ?_⟩
      simp at h2
      by_cases ha : false ∈ hands 0 ds
      · rw [if_pos ha] at h2
        simp [f5, h1, hi, isTree, enumD, h2, show 2 ≤ ds.length by omega, ha]
      · rw [if_neg ha] at h2
        simp [f5, h1, hi, isTree, enumD, h2, show 2 ≤ ds.length by omega, ha]
  | _ => exact oth h1 rfl
end L63
end

section -- P63b
namespace L63
open PySem L2 Fz
def potO (cs : List Int) (s t : Int) : O := .lst [.lst (ivs cs), .val (.int s), .val (.int t)]
def dropZ : List Int → List Int
  | [] => []
  | c :: cs => if c = 0 then dropZ cs else c :: cs
@[simp] theorem popg : Lm.g .pop = popG := rfl
@[simp] theorem eqO_int (i j : Int) : eqO (.int i) (.int j) = some (decide (i = j)) := rfl
@[simp] theorem ivs_cons (c : Int) (cs : List Int) : ivs (c :: cs) = .val (.int c) :: ivs cs := rfl
@[simp] theorem ivs_nil : ivs [] = [] := rfl
@[simp] theorem ixN_0 (n : Nat) : ixN (n + 1) 0 = some 0 := by simp [ixN]
@[simp] theorem eqO_nn : eqO (.lst []) (.lst []) = some true := ivs_ne []
@[simp] theorem eqO_cn (c : Int) (cs : List Int) : eqO (.lst (D.int c :: List.map D.int cs)) (.lst []) = some false := ivs_ne (c :: cs)
@[simp] theorem ivs_fz' (cs : List Int) : O.fzs (ivs cs) = cs.map D.int := ivs_fz cs
@[simp] theorem ivs_flat' (cs : List Int) : (ivs cs).all isVal = true := ivs_flat cs
@[simp] theorem ixN_1 (n : Nat) : ixN (n + 2) 1 = some 1 := by simp [ixN]; omega
@[simp] theorem ixN_2 (n : Nat) : ixN (n + 3) 2 = some 2 := by simp [ixN]; omega
theorem wh_take (n k : Nat) (m s t : Int) : ∀ (cs : List Int) (N : Nat), cs.length < N →
    flWhile N (evT (run n T k) (iosOf T) (.and (.cmp .ne (.idx (.nm 0) (.int 0)) (.lst .nil)) (.cmp .eq (.idx (.idx (.nm 0) (.int 0)) (.int 0)) (.int 0)))) (exL (run n T k) (iosOf T) n (.cons (.ex (.lm .pop (.idx (.nm 0) (.int 0)) (.cons (.int 0) .nil))) .nil)) [some (potO cs s t), some (.val (.int m)), none, none] = .ok (.nx, [some (potO (dropZ cs) s t), some (.val (.int m)), none, none])
  | [], N + 1, _ => by
    simp [flWhile, potO, dropZ, mkLst]
  | c :: cs, N + 1, h => by
    have ih := wh_take n k m s t cs N (by simpa using h)
    simp [potO] at ih
    by_cases hc : c = 0
    · simp [flWhile, potO, dropZ, mkLst, hc, popG, O.put, ih]
    · simp [flWhile, potO, dropZ, mkLst, hc]
structure Pot (b : Int) (o : O) : Prop where
  ex : ∃ cs s t, o = potO cs s t ∧ (∀ c ∈ cs, 0 ≤ c ∧ c < 10 ^ 900) ∧ 0 ≤ s ∧ s < 2305843009213693951 ∧ 0 ≤ t ∧ t ≤ b ∧ cs.length ≤ 63
theorem dropZ_sub : ∀ {cs : List Int}, (dropZ cs).length ≤ cs.length ∧ ∀ c ∈ dropZ cs, c ∈ cs
  | [] => by simp [dropZ]
  | c :: cs => by
    have := @dropZ_sub cs
    by_cases h : c = 0
    · simp [dropZ, h]
      exact ⟨by omega, fun d hd => .inr (this.2 d hd)⟩
    · simp [dropZ, h]
theorem take (n k : Nat) (m b : Int) (p : O) (hn : 64 ≤ n) (h1 : 1 ≤ m) (h2 : m < 2 ^ 30) (hb : b ≤ 10 ^ 9) (hp : Pot b p) : ∃ r p' e, run n T (k + 1) 3 [p, .val (.int m)] = .ok (.val (.int r), some p' :: e) ∧ 0 ≤ r ∧ r < m ∧ Pot (b + 1) p' := by
  obtain ⟨cs, s, t, rfl, hc, s0, s1, t0, t1, hl⟩ := hp.ex
  have w := wh_take n k m s t cs n (by omega)
  simp [potO] at w
  rw [run3]
  obtain ⟨dl, dm⟩ := @dropZ_sub cs
  have d2 : ∀ c, CDivW c m := fun c => L2.wide_div (b := 31) (by omega) (by omega) (by decide) (by decide)
  cases hd : dropZ cs with
  | cons c cs' =>
    rw [hd] at w dl dm
    simp at dl w
    have hcc := hc c (dm c (by simp))
    refine ⟨c % m, potO (c / m :: cs') s t, [some (.val (.int m)), none, some (.val (.int c))], ?_, Int.emod_nonneg _ (by omega), Int.emod_lt_of_pos _ (by omega), ⟨_, _, _, rfl, fun d hd => ?_, s0, s1, t0, by omega, by simp; omega⟩⟩
    · simp [f3, w, potO, mkLst, fdivI, modI, d2, show 0 < m by omega, setG, O.put]
    · rcases List.mem_cons.mp hd with rfl | hd
      · exact ⟨Int.ediv_nonneg hcc.1 (by omega), Int.lt_of_le_of_lt (Int.ediv_le_self _ hcc.1) hcc.2⟩
      · exact hc d (dm d (by simp [hd]))
  | nil =>
    rw [hd] at w
    simp at w
    have t3 : CMulW 3037000493 (t + 1) := L2.wide_mul (a := 32) (b := 64) (by decide) (by omega) (by decide) (by decide) (by decide)
    have t1' : CMulW s 2862933555777941757 := L2.wide_mul (a := 64) (b := 64) (by omega) (by decide) (by decide) (by decide) (by decide)
    have sA := Int.emod_lt_of_pos (s * 2862933555777941757) (b := 2305843009213693951) (by decide)
    have sA0 := Int.emod_nonneg (s * 2862933555777941757) (b := 2305843009213693951) (by decide)
    generalize hs2 : s * 2862933555777941757 % 2305843009213693951 = s2 at sA sA0
    have sB := Int.emod_lt_of_pos (s2 + 3037000493 * (t + 1) + 1) (b := 2305843009213693951) (by decide)
    have sB0 := Int.emod_nonneg (s2 + 3037000493 * (t + 1) + 1) (b := 2305843009213693951) (by decide)
    generalize hs3 : (s2 + 3037000493 * (t + 1) + 1) % 2305843009213693951 = s3 at sB sB0
    have g1 : CDivW s3 16777216 := L2.wide_div (b := 31) (by decide) (by decide) (by decide) (by decide)
    have hh : s3 / 16777216 < 2 ^ 64 := by omega
    have hh0 : 0 ≤ s3 / 16777216 := by omega
    generalize hx : s3 / 16777216 = x at hh hh0
    have g2 : CDivW x 4099 := L2.wide_div (b := 31) (by decide) (by decide) (by decide) (by decide)
    have g3 : CMulW x (x % 1021 + 2) := L2.wide_mul (a := 64) (b := 64) (by omega) (by omega) (by decide) (by decide) (by decide)
    refine ⟨(x * (x % 1021 + 2) + x / 4099) % m, potO [] s3 (t + 1), [some (.val (.int m)), some (.val (.int x)), none], ?_, Int.emod_nonneg _ (by omega), Int.emod_lt_of_pos _ (by omega), ⟨_, _, _, rfl, by simp, sB0, sB, by omega, by omega, by simp⟩⟩
    simp [f3, w, potO, mkLst, mulD, fdivI, modI, d2, show 0 < m by omega, setG, O.put, t3, t1', hs2, hs3, g1, g2, g3, hx]
end L63
end

section -- P63c
set_option exponentiation.threshold 100000
namespace L63
open PySem L2 Fz
/-- the mixing loop: the seed stays below the prime -/
theorem lp_seed (n k : Nat) (x : O) : ∀ (ds : List Int) (i : Nat) (s : Int) (a b : Option O), 0 ≤ s → s < 2305843009213693951 → i + ds.length ≤ 64 → ∃ s' a' b', 0 ≤ s' ∧ s' < 2305843009213693951 ∧
    flFor (setTgt (.tup [4, 5])) (exL (run n T k) (iosOf T) n (.cons (.set 1 (.bin .mod (.bin .add (.bin .add (.bin .add (.bin .mul (.nm 1) (.int 7368787)) (.bin .mod (.nm 5) (.bin .pow (.int 10) (.int 40)))) (.bin .mul (.int 31) (.nm 4))) (.int 11)) (.int 2305843009213693951))) .nil)) (pairs (enumGo i (ds.map .int))) [some x, some (.val (.int s)), none, none, a, b] = .ok (.nx, [some x, some (.val (.int s')), none, none, a', b'])
  | [], i, s, a, b, h0, h1, _ => ⟨s, a, b, h0, h1, by simp [pairs, enumGo, flFor]⟩
  | d :: ds, i, s, a, b, h0, h1, hi => by
    simp at hi
    have c1 : CMulW s 7368787 := L2.wide_mul (a := 64) (b := 64) (by omega) (by decide) (by decide) (by decide) (by decide)
    have c2 : CMulW 31 (i : Int) := L2.wide_mul (a := 64) (b := 64) (by decide) (by omega) (by decide) (by decide) (by decide)
    have c3 : CPow 10 40 := by decide
    have sB := Int.emod_lt_of_pos (s * 7368787 + d % 10 ^ 40 + 31 * (i : Int) + 11) (b := 2305843009213693951) (by decide)
    have sB0 := Int.emod_nonneg (s * 7368787 + d % 10 ^ 40 + 31 * (i : Int) + 11) (b := 2305843009213693951) (by decide)
    obtain ⟨s', a', b', g0, g1, ih⟩ := lp_seed n k x ds (i + 1) _ (some (.val (.int i))) (some (.val (.int d))) sB0 sB (by omega)
    refine ⟨s', a', b', g0, g1, ?_⟩
    simp [pairs] at ih
    simp [pairs, enumGo, flFor, setD, mulD, powI, modI, c1, c2, c3, ih]
theorem far_lt {j : Nat} (h : j ≤ 15) : ((10 : Int) ^ (60 * j)).natAbs < 2 ^ 4000 := by
  have e : ((10 : Int) ^ (60 * j)).natAbs = 10 ^ (60 * j) := by rw [Int.natAbs_pow]; rfl
  rw [e]
  have h1 : 10 ^ (60 * j) ≤ 10 ^ 900 := Nat.pow_le_pow_right (by decide) (by omega)
  have h2 : (10 : Nat) ^ 900 < 2 ^ 4000 := by decide +kernel
  omega
theorem lp_far (n k : Nat) (x s : O) (a b : Option O) : ∀ (ds : List D) (j : Nat) (c : Option O), j + ds.length ≤ 15 → ∃ c',
    flFor (setTgt (.nm 3)) (exL (run n T k) (iosOf T) n (.cons (.set 2 (.bin .mul (.nm 2) (.bin .pow (.int 10) (.int 60)))) .nil)) ds [some x, some s, some (.val (.int (10 ^ (60 * j)))), c, a, b] = .ok (.nx, [some x, some s, some (.val (.int (10 ^ (60 * (j + ds.length))))), c', a, b])
  | [], j, c, _ => ⟨c, by simp [flFor]⟩
  | d :: ds, j, c, h => by
    simp at h
    obtain ⟨c', ih⟩ := lp_far n k x s a b ds (j + 1) (some (.val d)) (by omega)
    have c1 : CMulW (10 ^ (60 * j)) (10 ^ 60) := L2.wide_mul (a := 4000) (b := 4000) (far_lt (by omega)) (far_lt (j := 1) (by omega)) (by decide) (by decide) (by decide)
    have c3 : CPow 10 60 := by decide
    have e : (10 : Int) ^ (60 * j) * 10 ^ 60 = 10 ^ (60 * (j + 1)) := by rw [← Int.pow_add]; rfl
    refine ⟨c', ?_⟩
    simp [-Int.reducePow] at ih
    simp [-Int.reducePow, flFor, setD, mulD, powI, c3, c1, e, ih, show j + (ds.length + 1) = j + 1 + ds.length by omega]
def selC (c : Int) : Bool := decide (10 ^ 18 ≤ if c < 0 then -c else c)
def cutC (c : Int) : Int := (if c < 0 then -c else c) % 10 ^ 900
theorem cp_sel (n k : Nat) (x s : O) (c a : Option O) : ∀ (ds : List Int) (acc : List Int), acc.length + ds.length ≤ 64 →
    compL [5] (setTgt (.nm 5)) (evT (run n T k) (iosOf T) (.cmp .ge (.blt .abs (.cons (.nm 5) .nil)) (.bin .pow (.int 10) (.int 18)))) (ev (run n T k) (iosOf T) (.bin .mod (.blt .abs (.cons (.nm 5) .nil)) (.nm 2))) (ds.map D.int) (ivs acc) [some x, some s, some (.val (.int (10 ^ 900))), c, a, none] =
      .ok (ivs (acc ++ (ds.filter selC).map cutC), [some x, some s, some (.val (.int (10 ^ 900))), c, a, none])
  | [], acc, _ => by simp [compL]
  | d :: ds, acc, h => by
    simp at h
    have c3 : CPow 10 18 := by decide
    have hp : (0 : Int) < 10 ^ 900 := by decide +kernel
    by_cases hs : selC d = true
    · have ih := cp_sel n k x s c a ds (acc ++ [cutC d]) (by simp; omega)
      have hl : (ivs acc).length < sizeLine := by rw [sizeLine_eq]; simp [ivs]; omega
      have e1 : ivs (acc ++ [cutC d]) = ivs acc ++ [.val (.int (cutC d))] := by simp [ivs]
      rw [e1] at ih
      have hs' : 10 ^ 18 ≤ if d < 0 then -d else d := by simpa [-Int.reducePow, selC] using hs
      simp [-Int.reducePow] at ih
      simp [-Int.reducePow, compL, setD, absD, powI, c3, modI, hp, wipeE, hs, hs', hl]
      simpa [-Int.reducePow, cutC] using ih
    · have ih := cp_sel n k x s c a ds acc (by omega)
      have hs' : ¬ 10 ^ 18 ≤ if d < 0 then -d else d := by simpa [-Int.reducePow, selC] using hs
      simp [-Int.reducePow] at ih
      simp [-Int.reducePow, compL, setD, absD, powI, c3, modI, hp, wipeE, hs, hs']
      simpa [-Int.reducePow] using ih
theorem cut63 (ns : List Int) (h : ns.length ≤ 63) : cutD ns none (some 63) = ns := by
  unfold cutD
  have e1 : HT.sIx ns.length 0 none = 0 := rfl
  have e2 : HT.sIx ns.length ns.length (some 63) = ns.length := by
    show (if (63 : Int) < 0 then ((63 : Int) + (ns.length : Int)).toNat else min (63 : Int).toNat ns.length) = _
    rw [if_neg (by decide)]
    show min 63 ns.length = _
    omega
  rw [e1, e2]
  simp
theorem pot (n k : Nat) (ns : List Int) (h : ns.length ≤ 63) : ∃ p e, run n T (k + 1) 2 [.val (.scr ns)] = .ok (p, e) ∧ Pot 0 p := by
  rw [run2]
  have hc := cut63 ns h
  have hi : (ns.map fun n => O.val (.int n)) = ivs ns := rfl
  obtain ⟨s', a', b', g0, g1, w1⟩ := lp_seed n k (.val (.scr ns)) ns 0 1000003 none none (by decide) (by decide) (by omega)
  obtain ⟨c', w2⟩ := lp_far n k (.val (.scr ns)) (.val (.int s')) a' b' ((List.range 15).map fun i => D.int (0 + (i : Nat))) 0 none (by decide)
  have w3 := cp_sel n k (.val (.scr ns)) (.val (.int s')) c' a' ns [] (by simp; omega)
  have hp : (0 : Int) < 10 ^ 900 := by decide +kernel
  simp [-Int.reducePow] at w1 w2 w3
  refine ⟨potO ((ns.filter selC).map cutC) s' 0, [some (.val (.scr ns)), some (.val (.int s')), some (.val (.int (10 ^ 900))), c', a', b'], ?_, ⟨_, _, _, rfl, fun c hc => ?_, g0, g1, by decide, by decide, ?_⟩⟩
  · have r1 : (-2 ^ 62 : Int) ≤ 15 := by decide
    have r2 : (15 : Int) < 2 ^ 62 := by decide
    have r3 : 3 ≤ sizeLine := by rw [sizeLine_eq]; decide
    simp [-Int.reducePow, f2, slD, hc, hi, enumD, w1, w2, w3, range1, itemsD, r1, r2, r3, wipeE, backE, mkLst, potO]
  · obtain ⟨d, _, rfl⟩ := List.mem_map.mp hc
    exact ⟨Int.emod_nonneg _ (by omega), Int.emod_lt_of_pos _ hp⟩
  · have := List.length_filter_le selC ns
    rw [List.length_map]
    omega
end L63
end

section -- P63d
namespace L63
open PySem L2 Fz
theorem Pot.lst {b : Int} {p : O} (h : Pot b p) : ∃ l, p = .lst l := by
  obtain ⟨cs, s, t, rfl, _⟩ := h.ex
  exact ⟨_, rfl⟩
theorem takeL (n k : Nat) (m b : Int) (l : List O) (hn : 64 ≤ n) (h1 : 1 ≤ m) (h2 : m < 2 ^ 30) (hb : b ≤ 10 ^ 9) (hp : Pot b (.lst l)) : ∃ r l' e, run n T (k + 1) 3 [.lst l, .val (.int m)] = .ok (.val (.int r), some (.lst l') :: e) ∧ 0 ≤ r ∧ r < m ∧ Pot (b + 1) (.lst l') := by
  obtain ⟨r, p', e, a1, a2, a3, a4⟩ := take n k m b (.lst l) hn h1 h2 hb hp
  obtain ⟨l', rfl⟩ := a4.lst
  exact ⟨r, l', e, a1, a2, a3, a4⟩
@[simp] theorem backT (i : Nat) (p : O) (e env : En) : backL [some i, none] (maskE [true, false] (some p :: e)) env = env.set i (some p) := by cases e <;> rfl
@[simp] theorem backT1 (i : Nat) (p : O) (e env : En) : backL [some i] (maskE [true] (some p :: e)) env = env.set i (some p) := by rfl
@[simp] theorem appg : Lm.g .append = appG := rfl
theorem hands_snoc : ∀ (ds : List D) (i : Nat) (d : D), hands i (ds ++ [d]) = hands i ds ++ [isHand ((i + ds.length : Nat) + 1) d]
  | [], i, d => by simp [hands]
  | e :: ds, i, d => by
    simp only [List.cons_append, hands, hands_snoc ds (i + 1) d, List.length_cons]
    rw [show i + 1 + ds.length = i + (ds.length + 1) by omega]
def mx (a b : Int) : Int := if b > a then b else a
theorem max2_int (a b : Int) : max2 (.int a) (.int b) = some (.val (.int (mx a b))) := rfl
theorem mx_ok {i r : Int} (h0 : 0 ≤ i) (h : 0 ≤ r) : 0 ≤ mx 0 (i - r) ∧ mx 0 (i - r) < i + 1 := by
  unfold mx
  split <;> omega
def good (acc : List Int) : Prop := (hands 0 (acc.map D.int)).all id = true
theorem good_snoc {acc : List Int} {v : Int} (h : good acc) (h0 : 0 ≤ v) (h1 : v < acc.length + 1) : good (acc ++ [v]) := by
  unfold good at h ⊢
  rw [List.map_append, List.map_cons, List.map_nil, hands_snoc, List.all_append, h]
  simp [isHand, h0]
  omega
theorem lp_tree (n k : Nat) (hn : 64 ≤ n) (mn : O) (w : Int) (w0 : 0 ≤ w) (w5 : w < 5) : ∀ (m i : Nat) (acc : List Int) (l : List O) (b : Int) (c4 c5 : Option O), acc.length = i → i + m ≤ 60 → good acc → Pot b (.lst l) → b + 2 * m ≤ 10 ^ 8 →
    ∃ acc' l' c4' c5', flFor (setTgt (.nm 4)) (exL (run n T (k + 1)) (iosOf T) n (.cons (.set 5 (.lst (.cons (.nm 4) (.cons (.int 0) (.cons (.blt .max2 (.cons (.int 0) (.cons (.bin .sub (.nm 4) (.int 1)) .nil))) (.cons (.call 3 (.cons (.nm 0) (.cons (.bin .add (.nm 4) (.int 1)) .nil))) (.cons (.blt .max2 (.cons (.int 0) (.cons (.bin .sub (.nm 4) (.call 3 (.cons (.nm 0) (.cons (.int 3) .nil)))) .nil))) .nil))))))) (.cons (.ex (.lm .append (.nm 3) (.cons (.idx (.nm 5) (.nm 2)) .nil))) .nil)))
        ((List.range' i m).map fun j => D.int (j : Nat)) [some (.lst l), some mn, some (.val (.int w)), some (.lst (ivs acc)), c4, c5] = .ok (.nx, [some (.lst l'), some mn, some (.val (.int w)), some (.lst (ivs acc')), c4', c5']) ∧ acc'.length = i + m ∧ good acc' ∧ Pot (b + 2 * m) (.lst l')
  | 0, i, acc, l, b, c4, c5, hl, hm, hg, hp, hb => ⟨acc, l, c4, c5, by simp [flFor], by omega, hg, by simpa using hp⟩
  | m + 1, i, acc, l, b, c4, c5, hl, hm, hg, hp, hb => by
    obtain ⟨r1, l1, e1, a1, a2, a3, a4⟩ := takeL n k ((i : Int) + 1) b l hn (by omega) (by omega) (by omega) hp
    obtain ⟨r2, l2, e2, b1, b2, b3, b4⟩ := takeL n k 3 (b + 1) l1 hn (by omega) (by omega) (by omega) a4
    -- what is put behind
    have step : ∃ v c5', 0 ≤ v ∧ v < (i : Int) + 1 ∧ exL (run n T (k + 1)) (iosOf T) n (.cons (.set 5 (.lst (.cons (.nm 4) (.cons (.int 0) (.cons (.blt .max2 (.cons (.int 0) (.cons (.bin .sub (.nm 4) (.int 1)) .nil))) (.cons (.call 3 (.cons (.nm 0) (.cons (.bin .add (.nm 4) (.int 1)) .nil))) (.cons (.blt .max2 (.cons (.int 0) (.cons (.bin .sub (.nm 4) (.call 3 (.cons (.nm 0) (.cons (.int 3) .nil)))) .nil))) .nil))))))) (.cons (.ex (.lm .append (.nm 3) (.cons (.idx (.nm 5) (.nm 2)) .nil))) .nil)) [some (.lst l), some mn, some (.val (.int w)), some (.lst (ivs acc)), some (.val (.int i)), c5] = .ok (.nx, [some (.lst l2), some mn, some (.val (.int w)), some (.lst (ivs (acc ++ [v]))), some (.val (.int i)), c5']) := by
      have s5 : 5 ≤ sizeLine := by rw [sizeLine_eq]; decide
      have sl : (ivs acc).length < sizeLine := by rw [sizeLine_eq]; simp [ivs]; omega
      have ea : ∀ v, ivs acc ++ [.val (.int v)] = ivs (acc ++ [v]) := fun v => by simp [ivs]
      have hw : w = 0 ∨ w = 1 ∨ w = 2 ∨ w = 3 ∨ w = 4 := by omega
      have q1 := mx_ok (i := i) (r := 1) (by omega) (by decide)
      have q2 := mx_ok (i := i) (r := r2) (by omega) b2
      let c5' : O := .lst [.val (.int i), .val (.int 0), .val (.int (mx 0 ((i : Int) - 1))), .val (.int r1), .val (.int (mx 0 ((i : Int) - r2)))]
      rcases hw with rfl | rfl | rfl | rfl | rfl
      · refine ⟨i, some c5', by omega, by omega, ?_⟩
        simp [a1, b1, max2_int, mkLst, s5, appG, sl, O.put, ea, ixN, c5']
      · refine ⟨0, some c5', by omega, by omega, ?_⟩
        simp [a1, b1, max2_int, mkLst, s5, appG, sl, O.put, ea, ixN, c5']
      · refine ⟨_, some c5', q1.1, q1.2, ?_⟩
        simp [a1, b1, max2_int, mkLst, s5, appG, sl, O.put, ea, ixN, c5']
      · refine ⟨r1, some c5', a2, a3, ?_⟩
        simp [a1, b1, max2_int, mkLst, s5, appG, sl, O.put, ea, ixN, c5']
      · refine ⟨_, some c5', q2.1, q2.2, ?_⟩
        simp [a1, b1, max2_int, mkLst, s5, appG, sl, O.put, ea, ixN, c5']
    obtain ⟨v, c5', v0, v1, st⟩ := step
    obtain ⟨acc', l', c4', c5'', ih, i1, i2, i3⟩ := lp_tree n k hn mn w w0 w5 m (i + 1) (acc ++ [v]) l2 (b + 2) (some (.val (.int i))) c5' (by simp [hl]) (by omega) (good_snoc hg v0 (by omega)) (by rw [show b + 2 = b + 1 + 1 by omega]; exact b4) (by omega)
    refine ⟨acc', l', c4', c5'', ?_, by omega, i2, by rw [show b + 2 * ((m + 1 : Nat) : Int) = b + 2 + 2 * (m : Int) by omega]; exact i3⟩
    rw [show List.range' i (m + 1) = i :: List.range' (i + 1) m from rfl, List.map_cons]
    simp only [flFor, setTgt, setD, List.length_cons, List.length_nil, List.set_cons_succ, List.set_cons_zero]
    simp only [show (4 < 0 + 1 + 1 + 1 + 1 + 1 + 1) = True by simp, if_true, Res.ofO_some, Res.bind_ok]
    rw [st]
    simpa using ih
theorem gtree (n k : Nat) (hn : 64 ≤ n) (l : List O) (b : Int) (hp : Pot b (.lst l)) (hb : b ≤ 10 ^ 7) : ∃ acc l' e, run n T (k + 2) 4 [.lst l] = .ok (.val (.tup (acc.map .int)), some (.lst l') :: e) ∧ 2 ≤ acc.length ∧ acc.length ≤ 29 ∧ good acc ∧ Pot (b + 100) (.lst l') := by
  rw [run4]
  obtain ⟨r1, l1, e1, a1, a2, a3, a4⟩ := takeL n k 8 b l hn (by omega) (by omega) (by omega) hp
  obtain ⟨r2, l2, e2, b1, b2, b3, b4⟩ := takeL n k 28 (b + 1) l1 hn (by omega) (by omega) (by omega) a4
  obtain ⟨r3, l3, e3, c1, c2, c3, c4⟩ := takeL n k 4 (b + 1 + 1) l2 hn (by omega) (by omega) (by omega) b4
  obtain ⟨w, l4, e4, d1, d2, d3, d4⟩ := takeL n k 5 (b + 1 + 1 + 1) l3 hn (by omega) (by omega) (by omega) c4
  have s2 : 2 ≤ sizeLine := by rw [sizeLine_eq]; decide
  have s0 : 0 ≤ sizeLine := Nat.zero_le _
  have dv : CDivW r3 3 := L2.wide_div (b := 31) (by decide) (by decide) (by decide) (by decide)
  have up : ∀ {c : Int} {l' : List O}, c ≤ b + 100 → Pot c (.lst l') → Pot (b + 100) (.lst l') := fun hc h => by
    obtain ⟨cs, s, t, e, x1, x2, x3, x4, x5, x6⟩ := h.ex
    exact ⟨cs, s, t, e, x1, x2, x3, x4, by omega, x6⟩
  have hq : r3 / 3 = 0 ∨ r3 / 3 = 1 := by omega
  rcases hq with hq | hq
  · obtain ⟨acc', l', c4', c5', ih, i1, i2, i3⟩ := lp_tree n k hn (.val (.int (3 + r1))) w d2 d3 (3 + r1 - 1).toNat 0 [] l4 (b + 1 + 1 + 1 + 1) none none rfl (by omega) rfl d4 (by omega)
    refine ⟨acc', l', [some (.val (.int (3 + r1))), some (.val (.int w)), some (.lst (ivs acc')), c4', c5'], ?_, by omega, by omega, i2, up (by omega) i3⟩
    have q1 : -2 ^ 62 ≤ 3 + r1 - 1 := by omega
    have q2 : 3 + r1 - 1 < 2 ^ 62 := by omega
    simp [← List.range_eq_range'] at ih
    simp at q1 q2
    simp [f4, a1, b1, c1, d1, mkLst, s2, fdivI, dv, hq, ixN, range1, q1, q2, ih, tupleD]
  · obtain ⟨acc', l', c4', c5', ih, i1, i2, i3⟩ := lp_tree n k hn (.val (.int (3 + r2))) w d2 d3 (3 + r2 - 1).toNat 0 [] l4 (b + 1 + 1 + 1 + 1) none none rfl (by omega) rfl d4 (by omega)
    refine ⟨acc', l', [some (.val (.int (3 + r2))), some (.val (.int w)), some (.lst (ivs acc')), c4', c5'], ?_, by omega, by omega, i2, up (by omega) i3⟩
    have q1 : -2 ^ 62 ≤ 3 + r2 - 1 := by omega
    have q2 : 3 + r2 - 1 < 2 ^ 62 := by omega
    simp [← List.range_eq_range'] at ih
    simp at q1 q2
    simp [f4, a1, b1, c1, d1, mkLst, s2, fdivI, dv, hq, ixN, range1, q1, q2, ih, tupleD]
end L63
end

section -- P63e
namespace Fz
open PySem L2
def Sts.tl : Sts → Sts
  | .cons _ r => r
  | .nil => .nil
def Sts.hd : Sts → Sm
  | .cons s _ => s
  | .nil => .pass
section
variable {rn : Nat → List O → Res (O × En)} {ios : Nat → List Bool} {n : Nat} {s : Sm} {r : Sts} {env env' : En} {o : O}
theorem seq_nx (h : exS rn ios n s env = .ok (.nx, env')) : exL rn ios n (.cons s r) env = exL rn ios n r env' := by
  show flSeq _ _ env = _
  unfold flSeq
  rw [h]
  rfl
theorem seq_rt (h : exS rn ios n s env = .ok (.rt o, env')) : exL rn ios n (.cons s r) env = .ok (.rt o, env') := by
  show flSeq _ _ env = _
  unfold flSeq
  rw [h]
  rfl
end
end Fz
namespace L63
open PySem L2 Fz
@[simp] theorem tupleD_lst (ds : List D) : tupleD (.lst ds) = some (.val (.tup ds)) := rfl
@[simp] theorem listD_tup (ds : List D) : listD (.tup ds) = some (.lst (ds.map .val)) := rfl
abbrev sA : Sm := f6.body.hd
abbrev sB : Sm := f6.body.tl.hd
abbrev sC : Sm := f6.body.tl.tl.hd
abbrev sD : Sm := f6.body.tl.tl.tl.hd
def rest6 : Sts := f6.body.tl.tl.tl.tl
theorem body6 : f6.body = .cons sA (.cons sB (.cons sC (.cons sD rest6))) := rfl
def oddL (a : Int) : List O := [.val (.int (a + 1)), .val (.int (a + 2)), .val (.int (-1)), .val (.bl true), .val (.bl false), .val .non, .val (.str ⟨#[48]⟩), .val (.tup [.int 0]), .lst [.val (.int 0)], .dct [], .val (.int (10 ^ 30)), .val (.int (-10 ^ 30)), .val (.int a), .val (.int 0)]
theorem pick (n k : Nat) (l l' : List O) (x y : O) (a r : Int) (e : En) (h0 : 0 ≤ r) (h1 : r < 14) (hr : run n T (k + 1) 3 [.lst l, .val (.int 14)] = .ok (.val (.int r), some (.lst l') :: e)) : ∃ o4 d, okD d = true ∧ exS (run n T (k + 1)) (iosOf T) n sD [some (.lst l), some x, some (.val (.int a)), some y, some (.lst (oddL a)), none, none, none] = .ok (.nx, [some (.lst l'), some x, some (.val (.int a)), some y, some o4, some (.val d), none, none]) := by
  have hc : r = 0 ∨ r = 1 ∨ r = 2 ∨ r = 3 ∨ r = 4 ∨ r = 5 ∨ r = 6 ∨ r = 7 ∨ r = 8 ∨ r = 9 ∨ r = 10 ∨ r = 11 ∨ r = 12 ∨ r = 13 := by omega
  rcases hc with rfl | rfl | rfl | rfl | rfl | rfl | rfl | rfl | rfl | rfl | rfl | rfl | rfl | rfl
  · exact ⟨.lst (oddL a), .int (a + 1), rfl, by simp [sD, f6, Sts.hd, Sts.tl, hr, oddL, ixN]⟩
  · exact ⟨.lst (oddL a), .int (a + 2), rfl, by simp [sD, f6, Sts.hd, Sts.tl, hr, oddL, ixN]⟩
  · exact ⟨.lst (oddL a), .int (-1), rfl, by simp [sD, f6, Sts.hd, Sts.tl, hr, oddL, ixN]⟩
  · exact ⟨.lst (oddL a), .bl true, rfl, by simp [sD, f6, Sts.hd, Sts.tl, hr, oddL, ixN]⟩
  · exact ⟨.lst (oddL a), .bl false, rfl, by simp [sD, f6, Sts.hd, Sts.tl, hr, oddL, ixN]⟩
  · exact ⟨.lst (oddL a), .non, rfl, by simp [sD, f6, Sts.hd, Sts.tl, hr, oddL, ixN]⟩
  · exact ⟨.lst (oddL a), .str ⟨#[48]⟩, rfl, by simp [sD, f6, Sts.hd, Sts.tl, hr, oddL, ixN]⟩
  · exact ⟨.lst (oddL a), .tup [.int 0], rfl, by simp [sD, f6, Sts.hd, Sts.tl, hr, oddL, ixN]⟩
  · exact ⟨.lst ((oddL a).set 8 (.val (.lst [.int 0]))), .lst [.int 0], rfl, by simp [sD, f6, Sts.hd, Sts.tl, hr, oddL, ixN, O.put]⟩
  · exact ⟨.lst ((oddL a).set 9 (.val (.dct []))), .dct [], rfl, by simp [sD, f6, Sts.hd, Sts.tl, hr, oddL, ixN, O.put, O.fzk]⟩
  · exact ⟨.lst (oddL a), .int (10 ^ 30), rfl, by simp [sD, f6, Sts.hd, Sts.tl, hr, oddL, ixN]⟩
  · exact ⟨.lst (oddL a), .int (-10 ^ 30), rfl, by simp [sD, f6, Sts.hd, Sts.tl, hr, oddL, ixN]⟩
  · exact ⟨.lst (oddL a), .int a, rfl, by simp [sD, f6, Sts.hd, Sts.tl, hr, oddL, ixN]⟩
  · exact ⟨.lst (oddL a), .int 0, rfl, by simp [sD, f6, Sts.hd, Sts.tl, hr, oddL, ixN]⟩
@[simp] theorem negD_int (i : Int) : negD [.int i] = some (.int (-i)) := rfl
theorem okD_slice {ds : List D} (h : ∀ d ∈ ds, okD d = true) (lo hi : Option Int) : ∀ d ∈ cutD ds lo hi, okD d = true := fun d hd => h d (List.mem_of_mem_drop (List.mem_of_mem_take hd))
theorem len_slice {ds : List D} (lo hi : Option Int) : (cutD ds lo hi).length ≤ ds.length := by
  unfold cutD
  simp
  omega
theorem addD_tup {xs ys : List D} (h : xs.length + ys.length ≤ 1000) : addD (.tup xs) (.tup ys) = some (.val (.tup (xs ++ ys))) := by
  simp only [addD]
  rw [if_pos (by rw [sizeLine_eq]; omega)]
theorem okT_tup {ds : List D} (h : ∀ d ∈ ds, okD d = true) (hl : ds.length ≤ 1000) : okT (.tup ds) = true := by
  simp only [okT, Bool.and_eq_true, List.all_eq_true, decide_eq_true_eq]
  exact ⟨h, hl⟩
theorem okT_ins {xs ys : List D} {d : D} (hx : ∀ e ∈ xs, okD e = true) (hy : ∀ e ∈ ys, okD e = true) (hd : okD d = true) (hl : xs.length + ys.length ≤ 900) : okT (.tup (xs ++ (d :: ys))) = true := by
  refine okT_tup (fun e he => ?_) (by simp; omega)
  rcases List.mem_append.mp he with z | z
  · exact hx e z
  · rcases List.mem_cons.mp z with rfl | z
    · exact hd
    · exact hy e z
theorem setV (ds : List D) (i : Nat) (x : D) : (ds.map O.val).set i (.val x) = (ds.set i x).map O.val := by rw [List.map_set]
/-- what is done with the odd one -/
theorem rest_ok (n k : Nat) (hn : 64 ≤ n) (l : List O) (b : Int) (hp : Pot b (.lst l)) (hb : b ≤ 10 ^ 8) (ds : List D) (hd : ∀ d ∈ ds, okD d = true) (hl0 : 2 ≤ ds.length) (hl : ds.length ≤ 29) (a w : Int) (a0 : 0 ≤ a) (a1 : a < ds.length) (o4 : O) (d : D) (hdd : okD d = true) :
    ∃ o l' e, exL (run n T (k + 1)) (iosOf T) n rest6 [some (.lst l), some (.val (.tup ds)), some (.val (.int a)), some (.val (.int w)), some o4, some (.val d), none, none] = .ok (.rt o, some (.lst l') :: e) ∧ okT o.fz = true ∧ Pot (b + 1) (.lst l') := by
  have up : Pot (b + 1) (.lst l) := by
    obtain ⟨cs, s, t, e, x1, x2, x3, x4, x5, x6⟩ := hp.ex
    exact ⟨cs, s, t, e, x1, x2, x3, x4, by omega, x6⟩
  have c0 := fun lo hi => okD_slice hd lo hi
  have c1 := fun lo hi => len_slice (ds := ds) lo hi
  let env : En := [some (.lst l), some (.val (.tup ds)), some (.val (.int a)), some (.val (.int w)), some o4, some (.val d), none, none]
  by_cases w0 : w = 0
  · subst w0
    refine ⟨.lst (ds.map .val), l, env.tail, by simp [rest6, f6, Sts.tl, env], ?_, up⟩
    simp [okT, okD]
  by_cases w1 : w = 1
  · subst w1
    have s1 := c1 none (some a)
    have s2 := c1 (some (a + 1)) none
    have ad := addD_tup (xs := cutD ds none (some a)) (ys := cutD ds (some (a + 1)) none) (by omega)
    refine ⟨.val (.tup (cutD ds none (some a) ++ cutD ds (some (a + 1)) none)), l, env.tail, by simp [rest6, f6, Sts.tl, env, slD, ad], okT_tup (fun e he => ?_) (by simp; omega), up⟩
    rcases List.mem_append.mp he with z | z
    · exact c0 _ _ e z
    · exact c0 _ _ e z
  have one : 1 ≤ sizeLine := by rw [sizeLine_eq]; decide
  have two : 2 ≤ sizeLine := by rw [sizeLine_eq]; decide
  have hdl : ∀ e ∈ [d], okD e = true := fun e he => by simp at he; rw [he]; exact hdd
  have ins : ∀ (lo hi : Option Int), ∃ ad1 : addD (.tup (cutD ds none lo)) (.tup [d]) = some (.val (.tup (cutD ds none lo ++ [d]))), ∃ ad2 : addD (.tup (cutD ds none lo ++ [d])) (.tup (cutD ds hi none)) = some (.val (.tup ((cutD ds none lo ++ [d]) ++ cutD ds hi none))), okT (.tup ((cutD ds none lo ++ [d]) ++ cutD ds hi none)) = true := fun lo hi => by
    have s1 := c1 none lo
    have s2 := c1 hi none
    refine ⟨addD_tup (by simp; omega), addD_tup (by simp; omega), ?_⟩
    rw [List.append_assoc]
    show okT (.tup (cutD ds none lo ++ (d :: cutD ds hi none))) = true
    exact okT_ins (c0 _ _) (c0 _ _) hdd (by omega)
  have elen : lenD (.tup ds) = some (.val (.int ds.length)) := rfl
  by_cases w2 : w = 2 ∧ (ds.length : Int) < 29
  · obtain ⟨rfl, hlt⟩ := w2
    obtain ⟨ad1, ad2, okk⟩ := ins (some a) (some a)
    refine ⟨.val (.tup ((cutD ds none (some a) ++ [d]) ++ cutD ds (some a) none)), l, env.tail, ?_, okk, up⟩
    simp only [List.append_assoc] at ad2 ⊢
    simp [rest6, f6, Sts.tl, env, slD, hlt, mkTup, one, ad1, ad2]
  by_cases w3 : w = 3
  · subst w3
    obtain ⟨r, l', e, r0, r1, r2, r3⟩ := takeL n k ds.length b l hn (by omega) (by omega) (by omega) hp
    have xa : ixN ds.length a = some a.toNat := by unfold ixN; rw [if_pos a0, if_pos a1]
    have xr : ixN ds.length r = some r.toNat := by unfold ixN; rw [if_pos r1, if_pos r2]
    have ga : ds[a.toNat]? = some (ds[a.toNat]'(by omega)) := List.getElem?_eq_getElem (by omega)
    have gr : ds[r.toNat]? = some (ds[r.toNat]'(by omega)) := List.getElem?_eq_getElem (by omega)
    have oa := hd _ (List.mem_of_getElem? ga)
    have or' := hd _ (List.mem_of_getElem? gr)
    generalize hya : ds[a.toNat]'(by omega) = ya at ga oa
    generalize hyr : ds[r.toNat]'(by omega) = yr at gr or'
    refine ⟨.val (.tup ((ds.set a.toNat yr).set r.toNat ya)), l', [some (.val (.tup ds)), some (.val (.int a)), some (.val (.int 3)), some o4, some (.val d), some (.val (.int r)), some (.lst (((ds.set a.toNat yr).set r.toNat ya).map .val))], ?_, okT_tup (fun e he => ?_) (by simp; omega), r3⟩
    · simp (maxSteps := 3000000) [rest6, f6, Sts.tl, r0, xa, xr, ga, gr, mkTup, two, setAt, setV, vals_fz, -List.map_set]
    · rcases List.mem_or_eq_of_mem_set he with z | rfl
      · rcases List.mem_or_eq_of_mem_set z with z | rfl
        · exact hd e z
        · exact or'
      · exact oa
  by_cases w4 : w = 4
  · subst w4
    obtain ⟨r, l', e, r0, r1, r2, r3⟩ := takeL n k 3 b l hn (by omega) (by omega) (by omega) hp
    refine ⟨.val (.tup (cutD ds none (some r))), l', env.tail, by simp [rest6, f6, Sts.tl, env, slD, r0], okT_tup (c0 _ _) ?_, r3⟩
    have := c1 none (some r)
    omega
  by_cases w5 : w = 5 ∧ (ds.length : Int) < 29
  · obtain ⟨rfl, hlt⟩ := w5
    have ad := addD_tup (xs := ds) (ys := [d]) (by simp; omega)
    refine ⟨.val (.tup (ds ++ [d])), l, env.tail, by simp [rest6, f6, Sts.tl, env, hlt, mkTup, one, ad], okT_ins hd (fun e he => by simp at he) hdd (by simp; omega), up⟩
  obtain ⟨ad1, ad2, okk⟩ := ins (some a) (some (a + 1))
  refine ⟨.val (.tup ((cutD ds none (some a) ++ [d]) ++ cutD ds (some (a + 1)) none)), l, env.tail, ?_, okk, up⟩
  simp only [List.append_assoc] at ad2 ⊢
  by_cases q2 : w = 2
  · have q : ¬ (ds.length : Int) < 29 := fun z => w2 ⟨q2, z⟩
    subst q2
    simp [rest6, f6, Sts.tl, env, slD, mkTup, one, ad1, ad2, q]
  · by_cases q5 : w = 5
    · have q : ¬ (ds.length : Int) < 29 := fun z => w5 ⟨q5, z⟩
      subst q5
      simp [rest6, f6, Sts.tl, env, slD, mkTup, one, ad1, ad2, q]
    · simp [rest6, f6, Sts.tl, env, slD, mkTup, one, ad1, ad2, w0, w1, q2, w3, w4, q5]
theorem spoilt (n k : Nat) (hn : 64 ≤ n) (l : List O) (b : Int) (hp : Pot b (.lst l)) (hb : b ≤ 10 ^ 7) (acc : List Int) (hl0 : 2 ≤ acc.length) (hl : acc.length ≤ 29) :
    ∃ o l' e, run n T (k + 2) 6 [.lst l, .val (.tup (acc.map .int))] = .ok (o, some (.lst l') :: e) ∧ okT o.fz = true ∧ Pot (b + 4) (.lst l') := by
  rw [run6]
  obtain ⟨a, l1, e1, a1, a2, a3, a4⟩ := takeL n k acc.length b l hn (by omega) (by omega) (by omega) hp
  obtain ⟨w, l2, e2, b1, b2, b3, b4⟩ := takeL n k 12 (b + 1) l1 hn (by omega) (by omega) (by omega) a4
  obtain ⟨r, l3, e3, c1, c2, c3, c4⟩ := takeL n k 14 (b + 1 + 1) l2 hn (by omega) (by omega) (by omega) b4
  obtain ⟨o4, d, hd, hD⟩ := pick n k l2 l3 (.val (.tup (acc.map .int))) (.val (.int w)) a r e3 c2 c3 c1
  obtain ⟨o, l', e, hr, ho, hP⟩ := rest_ok n k hn l3 (b + 1 + 1 + 1) c4 (by omega) (acc.map .int) (fun d hd => by obtain ⟨i, _, rfl⟩ := List.mem_map.mp hd; rfl) (by simpa using hl0) (by simpa using hl) a w a2 (by simpa using a3) o4 d hd
  refine ⟨o, l', e, ?_, ho, by rw [show b + 4 = b + 1 + 1 + 1 + 1 by omega]; exact hP⟩
  have s14 : 14 ≤ sizeLine := by rw [sizeLine_eq]; decide
  have s1 : 1 ≤ sizeLine := by rw [sizeLine_eq]; decide
  have p30 : CPow 10 30 := by decide
  have hA : exS (run n T (k + 1)) (iosOf T) n sA [some (.lst l), some (.val (.tup (acc.map .int))), none, none, none, none, none, none] = .ok (.nx, [some (.lst l1), some (.val (.tup (acc.map .int))), some (.val (.int a)), none, none, none, none, none]) := by
    simp [sA, f6, Sts.hd, a1]
  have hB : exS (run n T (k + 1)) (iosOf T) n sB [some (.lst l1), some (.val (.tup (acc.map .int))), some (.val (.int a)), none, none, none, none, none] = .ok (.nx, [some (.lst l2), some (.val (.tup (acc.map .int))), some (.val (.int a)), some (.val (.int w)), none, none, none, none]) := by
    simp [sB, f6, Sts.hd, Sts.tl, b1]
  have hC : exS (run n T (k + 1)) (iosOf T) n sC [some (.lst l2), some (.val (.tup (acc.map .int))), some (.val (.int a)), some (.val (.int w)), none, none, none, none] = .ok (.nx, [some (.lst l2), some (.val (.tup (acc.map .int))), some (.val (.int a)), some (.val (.int w)), some (.lst (oddL a)), none, none, none]) := by
    simp [sC, f6, Sts.hd, Sts.tl, mkTup, mkLst, s1, s14, powI, p30, oddL]
  have hx : exL (run n T (k + 1)) (iosOf T) n f6.body [some (.lst l), some (.val (.tup (acc.map .int))), none, none, none, none, none, none] = .ok (.rt o, some (.lst l') :: e) := by
    rw [body6, seq_nx hA, seq_nx hB, seq_nx hC, seq_nx hD]
    exact hr
  have hN : f6.N.length = 8 := rfl
  rw [hN]
  unfold runB
  simp only [List.map_cons, List.map_nil, List.length_cons, List.length_nil, List.cons_append, List.nil_append]
  show Res.bind (exL (run n T (k + 1)) (iosOf T) n f6.body [some (.lst l), some (.val (.tup (acc.map .int))), none, none, none, none, none, none]) _ = _
  rw [hx]
  rfl
end L63
end

section -- P63f
namespace L63
open PySem L2 Fz
theorem eqO_bl (a b : Bool) : eqO (.bl a) (.bl b) = some (decide (a = b)) := rfl
theorem isi_bl (b : Bool) : isiD (.bl b) (.ty "bool") = some (.val (.bl true)) := rfl
theorem lp_again (n k : Nat) (hn : 64 ≤ n) (x : O) (acc : List Int) (hl0 : 2 ≤ acc.length) (hl : acc.length ≤ 29) (c2 : Option O) : ∀ (ds : List D) (l : List O) (b : Int) (c6 c8 c9 : Option O), Pot b (.lst l) → b + 4 * ds.length ≤ 10 ^ 7 →
    ∃ l' c6' c8' c9', flFor (setTgt (.nm 8)) (exL (run n T (k + 2)) (iosOf T) n (.cons (.set 6 (.call 6 (.cons (.nm 1) (.cons (.nm 7) .nil)))) (.cons (.set 9 (.call 1 (.cons (.nm 6) .nil))) (.cons (.iff (.or (.not (.blt .isi (.cons (.nm 9) (.cons (.ty .bool) .nil)))) (.or (.cmp .ne (.nm 9) (.call 5 (.cons (.nm 6) .nil))) (.cmp .ne (.call 1 (.cons (.nm 6) .nil)) (.nm 9)))) (.cons (.ret (.bl false)) .nil) .nil) .nil)))) ds
      [some x, some (.lst l), c2, none, none, none, c6, some (.val (.tup (acc.map .int))), c8, c9] = .ok (.nx, [some x, some (.lst l'), c2, none, none, none, c6', some (.val (.tup (acc.map .int))), c8', c9']) ∧ Pot (b + 4 * ds.length) (.lst l')
  | [], l, b, c6, c8, c9, hp, hb => ⟨l, c6, c8, c9, by simp [flFor], by simpa using hp⟩
  | d :: ds, l, b, c6, c8, c9, hp, hb => by
    simp at hb
    obtain ⟨o, l1, e1, a1, a2, a3⟩ := spoilt n k hn l b hp (by omega) acc hl0 hl
    have t1 := tree n k o.fz a2
    obtain ⟨e2, t2⟩ := own n (k + 1) o.fz a2
    obtain ⟨l', c6', c8', c9', ih, hP⟩ := lp_again n k hn x acc hl0 hl c2 ds l1 (b + 4) (some (.val o.fz)) (some (.val d)) (some (.val (.bl (isTree o.fz)))) a3 (by omega)
    refine ⟨l', c6', c8', c9', ?_, by rw [show b + 4 * ((d :: ds).length : Int) = b + 4 + 4 * (ds.length : Int) by simp; omega]; exact hP⟩
    simp at ih
    cases o <;> (simp at t1 t2 ih; simp [flFor, setD, a1, t1, t2, eqO_bl, isi_bl, ih])
theorem lp_turn (n k : Nat) (hn : 64 ≤ n) (x : O) : ∀ (ds : List D) (l : List O) (b : Int) (c2 c6 c7 c8 c9 : Option O), Pot b (.lst l) → b + 200 * ds.length ≤ 10 ^ 6 →
    ∃ l' c2' c6' c7' c8' c9', flFor (setTgt (.nm 2)) (exL (run n T (k + 2)) (iosOf T) n (.cons (.set 7 (.call 4 (.cons (.nm 1) .nil))) (.cons (.iff (.cmp .isNot (.call 1 (.cons (.nm 7) .nil)) (.bl true)) (.cons (.ret (.bl false)) .nil) .nil) (.cons (.fr (.nm 8) .range1 (.cons (.int 14) .nil) (.cons (.set 6 (.call 6 (.cons (.nm 1) (.cons (.nm 7) .nil)))) (.cons (.set 9 (.call 1 (.cons (.nm 6) .nil))) (.cons (.iff (.or (.not (.blt .isi (.cons (.nm 9) (.cons (.ty .bool) .nil)))) (.or (.cmp .ne (.nm 9) (.call 5 (.cons (.nm 6) .nil))) (.cmp .ne (.call 1 (.cons (.nm 6) .nil)) (.nm 9)))) (.cons (.ret (.bl false)) .nil) .nil) .nil)))) .nil)))) ds
      [some x, some (.lst l), c2, none, none, none, c6, c7, c8, c9] = .ok (.nx, [some x, some (.lst l'), c2', none, none, none, c6', c7', c8', c9']) ∧ Pot (b + 200 * ds.length) (.lst l')
  | [], l, b, c2, c6, c7, c8, c9, hp, hb => ⟨l, c2, c6, c7, c8, c9, by simp [flFor], by simpa using hp⟩
  | d :: ds, l, b, c2, c6, c7, c8, c9, hp, hb => by
    simp at hb
    obtain ⟨acc, l1, e1, a1, a2, a3, a4, a5⟩ := gtree n k hn l b hp (by omega)
    have okt : okT (.tup (acc.map .int)) = true := okT_tup (fun d hd => by obtain ⟨i, _, rfl⟩ := List.mem_map.mp hd; rfl) (by simp; omega)
    have t1 := tree n k (.tup (acc.map .int)) okt
    have it : isTree (.tup (acc.map .int)) = true := by
      unfold good at a4
      simp only [isTree, List.length_map, a2, decide_true, Bool.true_and]
      exact a4
    rw [it] at t1
    obtain ⟨l2, q6, q8, q9, w, hP⟩ := lp_again n k hn x acc a2 a3 (some (.val d)) ((List.range 14).map fun i => D.int (0 + (i : Nat))) l1 (b + 100) c6 c8 c9 a5 (by simp; omega)
    have hP2 : Pot (b + 200) (.lst l2) := by
      obtain ⟨cs, s, t, e, x1, x2, x3, x4, x5, x6⟩ := hP.ex
      simp at x5
      exact ⟨cs, s, t, e, x1, x2, x3, x4, by omega, x6⟩
    obtain ⟨l', c2', c6', c7', c8', c9', ih, hP'⟩ := lp_turn n k hn x ds l2 (b + 200) (some (.val d)) q6 (some (.val (.tup (acc.map .int)))) q8 q9 hP2 (by omega)
    refine ⟨l', c2', c6', c7', c8', c9', ?_, by rw [show b + 200 * ((d :: ds).length : Int) = b + 200 + 200 * (ds.length : Int) by simp; omega]; exact hP'⟩
    simp at w ih
    have q : isO (.bl true) (.bl true) = some true := rfl
    simp [flFor, setD, a1, t1, q, range1, w, ih]
/-- what the deep one is -/
def okDeep (o : O) : Prop := (∃ d, o = .val d ∧ okT d = true) ∨ ∃ d, o = .lst [.val d] ∧ okD d = true
theorem okDeep.fz {o : O} (h : okDeep o) : okT o.fz = true := by
  rcases h with ⟨d, rfl, h⟩ | ⟨d, rfl, h⟩
  · exact h
  · rfl
theorem lp_deep (n k : Nat) (x l2 : O) (c2 c6 c7 c8 c9 : Option O) : ∀ (m i : Nat) (o : O) (c4 : Option O), okDeep o →
    ∃ o' c4', flFor (setTgt (.nm 4)) (exL (run n T k) (iosOf T) n (.cons (.set 3 (.idx (.lst (.cons (.tup (.cons (.nm 3) .nil)) (.cons (.lst (.cons (.nm 3) .nil)) (.cons (.tup (.cons (.int 0) (.cons (.nm 3) .nil))) .nil)))) (.bin .mod (.nm 4) (.int 3)))) .nil)) ((List.range' i m).map fun j => D.int (j : Nat))
      [some x, some l2, c2, some o, c4, none, c6, c7, c8, c9] = .ok (.nx, [some x, some l2, c2, some o', c4', none, c6, c7, c8, c9]) ∧ okDeep o'
  | 0, i, o, c4, h => ⟨o, c4, by simp [flFor], h⟩
  | m + 1, i, o, c4, h => by
    have s1 : 1 ≤ sizeLine := by rw [sizeLine_eq]; decide
    have s2 : 2 ≤ sizeLine := by rw [sizeLine_eq]; decide
    have s3 : 3 ≤ sizeLine := by rw [sizeLine_eq]; decide
    have ho := okT_okD h.fz
    have step : ∃ o1, okDeep o1 ∧ exL (run n T k) (iosOf T) n (.cons (.set 3 (.idx (.lst (.cons (.tup (.cons (.nm 3) .nil)) (.cons (.lst (.cons (.nm 3) .nil)) (.cons (.tup (.cons (.int 0) (.cons (.nm 3) .nil))) .nil)))) (.bin .mod (.nm 4) (.int 3)))) .nil) [some x, some l2, c2, some o, some (.val (.int (i : Nat))), none, c6, c7, c8, c9] = .ok (.nx, [some x, some l2, c2, some o1, some (.val (.int (i : Nat))), none, c6, c7, c8, c9]) := by
      have hi : (i : Int) % 3 = 0 ∨ (i : Int) % 3 = 1 ∨ (i : Int) % 3 = 2 := by omega
      rcases hi with hi | hi | hi
      · refine ⟨.val (.tup [o.fz]), .inl ⟨_, rfl, okT_tup (by simpa using ho) (by simp)⟩, ?_⟩
        rcases h with ⟨d, rfl, h⟩ | ⟨d, rfl, h⟩ <;> simp [mkTup, mkLst, s1, s2, s3, modI, hi, ixN]
      · refine ⟨.lst [.val o.fz], .inr ⟨_, rfl, ho⟩, ?_⟩
        rcases h with ⟨d, rfl, h⟩ | ⟨d, rfl, h⟩ <;> simp [mkTup, mkLst, s1, s2, s3, modI, hi, ixN]
      · refine ⟨.val (.tup [.int 0, o.fz]), .inl ⟨_, rfl, okT_tup (by simpa [okD] using ho) (by simp)⟩, ?_⟩
        rcases h with ⟨d, rfl, h⟩ | ⟨d, rfl, h⟩ <;> simp [mkTup, mkLst, s1, s2, s3, modI, hi, ixN]
    obtain ⟨o1, h1, st⟩ := step
    obtain ⟨o', c4', ih, h2⟩ := lp_deep n k x l2 c2 c6 c7 c8 c9 m (i + 1) o1 (some (.val (.int (i : Nat)))) h1
    refine ⟨o', c4', ?_, h2⟩
    rw [show List.range' i (m + 1) = i :: List.range' (i + 1) m from rfl, List.map_cons]
    simp only [flFor, setTgt, setD, List.length_cons, List.length_nil, List.set_cons_succ, List.set_cons_zero]
    simp only [show (4 < 0 + 1 + 1 + 1 + 1 + 1 + 1 + 1 + 1 + 1 + 1) = True by simp, if_true, Res.ofO_some, Res.bind_ok]
    rw [st]
    simpa using ih
theorem lp_some (n k : Nat) (x l2 o5 o3 : O) (c2 c4 c7 c8 : Option O) : ∀ (ds : List D) (c6 c9 : Option O), (∀ d ∈ ds, okT d = true) →
    ∃ c6' c9', flFor (setTgt (.nm 6)) (exL (run n T (k + 2)) (iosOf T) n (.cons (.set 9 (.call 1 (.cons (.nm 6) .nil))) (.cons (.iff (.or (.not (.blt .isi (.cons (.nm 9) (.cons (.ty .bool) .nil)))) (.cmp .ne (.nm 9) (.call 5 (.cons (.nm 6) .nil)))) (.cons (.ret (.bl false)) .nil) .nil) .nil))) ds
      [some x, some l2, c2, some o3, c4, some o5, c6, c7, c8, c9] = .ok (.nx, [some x, some l2, c2, some o3, c4, some o5, c6', c7, c8, c9'])
  | [], c6, c9, _ => ⟨c6, c9, by simp [flFor]⟩
  | d :: ds, c6, c9, h => by
    have t1 := tree n k d (h d (by simp))
    obtain ⟨e2, t2⟩ := own n (k + 1) d (h d (by simp))
    obtain ⟨c6', c9', ih⟩ := lp_some n k x l2 o5 o3 c2 c4 c7 c8 ds (some (.val d)) (some (.val (.bl (isTree d)))) (fun e he => h e (by simp [he]))
    refine ⟨c6', c9', ?_⟩
    simp at ih
    simp [flFor, setD, t1, t2, eqO_bl, isi_bl, ih]
end L63
end

section -- P63g
namespace L63
open PySem L2 Fz
def nn : Nat := 64
def kk : Nat := 10
def tab : Tab := ⟨fun _ => none, fun _ => none⟩
abbrev q1 : Sm := f7.body.hd
abbrev q2 : Sm := f7.body.tl.hd
abbrev q3 : Sm := f7.body.tl.tl.hd
abbrev q4 : Sm := f7.body.tl.tl.tl.hd
abbrev q5 : Sm := f7.body.tl.tl.tl.tl.hd
abbrev q6 : Sm := f7.body.tl.tl.tl.tl.tl.hd
abbrev q7 : Sm := f7.body.tl.tl.tl.tl.tl.tl.hd
theorem body7 : f7.body = .cons q1 (.cons q2 (.cons q3 (.cons q4 (.cons q5 (.cons q6 (.cons q7 .nil)))))) := rfl
def someL (d : D) : List D := [.non, .bl true, .bl false, .int 0, .int 1, .str ⟨#[]⟩, .str ⟨#[48, 48]⟩, .tup [], .tup [.int 0], .lst [], .lst [.int 0, .int 0], .dct [], .dct [(.int 0, .int 0)], .tup [.non, .int 0], .tup [.int 0, .tup [.int 0]], .tup [.tup [.int 0], .int 0], d]
theorem someL_ok (d : D) (h : okT d = true) : ∀ e ∈ someL d, okT e = true := by
  intro e he
  simp only [someL, List.mem_cons, List.not_mem_nil, or_false] at he
  rcases he with rfl | rfl | rfl | rfl | rfl | rfl | rfl | rfl | rfl | rfl | rfl | rfl | rfl | rfl | rfl | rfl | rfl
  all_goals first | rfl | exact h
def fr1 : O → O
  | .val d => .val d
  | o => .val o.fz
theorem plainK (n k : Nat) (hn : 64 ≤ n) (ns : List Int) (hns : ns.length ≤ 63) : ∃ e, Fz.run n T (k + 3) 7 [.val (.scr ns)] = .ok (.val (.bl true), e) := by
  rw [run7]
  obtain ⟨p, e1, a1, a2⟩ := pot n (k + 1) ns hns
  obtain ⟨l, rfl⟩ := a2.lst
  obtain ⟨l1, c2, c6, c7, c8, c9, w1, P1⟩ := lp_turn n k hn (.val (.scr ns)) ((List.range 4).map fun i => D.int (0 + (i : Nat))) l 0 none none none none none a2 (by simp)
  obtain ⟨r, l2, e2, b1, b2, b3, b4⟩ := takeL n (k + 1) 28 (0 + 200 * 4) l1 hn (by omega) (by omega) (by omega) (by simpa using P1)
  obtain ⟨o, c4, w2, hd⟩ := lp_deep n (k + 2) (.val (.scr ns)) (.lst l2) c2 c6 c7 c8 c9 r.toNat 0 (.val (.tup [.int 0, .int 0])) none (.inl ⟨_, rfl, rfl⟩)
  obtain ⟨c6', c9', w3⟩ := lp_some n k (.val (.scr ns)) (.lst l2) (.val (.lst (someL o.fz))) (fr1 o) c2 c4 c7 c8 (someL o.fz) c6 c9 (someL_ok _ hd.fz)
  have s0 : 0 ≤ sizeLine := Nat.zero_le _
  have s1 : 1 ≤ sizeLine := by rw [sizeLine_eq]; decide
  have s2 : 2 ≤ sizeLine := by rw [sizeLine_eq]; decide
  have s17 : 17 ≤ sizeLine := by rw [sizeLine_eq]; decide
  have k1 : exS (Fz.run n T (k + 2)) (iosOf T) n q1 [some (.val (.scr ns)), none, none, none, none, none, none, none, none, none] = .ok (.nx, [some (.val (.scr ns)), some (.lst l), none, none, none, none, none, none, none, none]) := by
    simp [q1, f7, Sts.hd, a1]
  have k2 : exS (Fz.run n T (k + 2)) (iosOf T) n q2 [some (.val (.scr ns)), some (.lst l), none, none, none, none, none, none, none, none] = .ok (.nx, [some (.val (.scr ns)), some (.lst l1), c2, none, none, none, c6, c7, c8, c9]) := by
    simp at w1
    simp [q2, f7, Sts.hd, Sts.tl, range1, w1]
  have k3 : exS (Fz.run n T (k + 2)) (iosOf T) n q3 [some (.val (.scr ns)), some (.lst l1), c2, none, none, none, c6, c7, c8, c9] = .ok (.nx, [some (.val (.scr ns)), some (.lst l1), c2, some (.val (.tup [.int 0, .int 0])), none, none, c6, c7, c8, c9]) := by
    simp [q3, f7, Sts.hd, Sts.tl, mkTup, s2]
  have k4 : exS (Fz.run n T (k + 2)) (iosOf T) n q4 [some (.val (.scr ns)), some (.lst l1), c2, some (.val (.tup [.int 0, .int 0])), none, none, c6, c7, c8, c9] = .ok (.nx, [some (.val (.scr ns)), some (.lst l2), c2, some o, c4, none, c6, c7, c8, c9]) := by
    have r1 : -2 ^ 62 ≤ r := by omega
    have r2 : r < 2 ^ 62 := by omega
    simp at r1 r2
    simp [← List.range_eq_range'] at w2
    simp [q4, f7, Sts.hd, Sts.tl, range1, b1, r1, r2, w2]
  have k5 : exS (Fz.run n T (k + 2)) (iosOf T) n q5 [some (.val (.scr ns)), some (.lst l2), c2, some o, c4, none, c6, c7, c8, c9] = .ok (.nx, [some (.val (.scr ns)), some (.lst l2), c2, some (fr1 o), c4, some (.lst [.val .non, .val (.bl true), .val (.bl false), .val (.int 0), .val (.int 1), .val (.str ⟨#[]⟩), .val (.str ⟨#[48, 48]⟩), .val (.tup []), .val (.tup [.int 0]), .lst [], .lst [.val (.int 0), .val (.int 0)], .dct [], .dct [(.int 0, .val (.int 0))], .val (.tup [.non, .int 0]), .val (.tup [.int 0, .tup [.int 0]]), .val (.tup [.tup [.int 0], .int 0]), .val o.fz]), c6, c7, c8, c9]) := by
    rcases hd with ⟨d, rfl, h⟩ | ⟨d, rfl, h⟩ <;> simp [q5, f7, Sts.hd, Sts.tl, mkTup, mkLst, s1, s2, s17, mkDct, dKey, fr1]
  have k6 : exS (Fz.run n T (k + 2)) (iosOf T) n q6 [some (.val (.scr ns)), some (.lst l2), c2, some (fr1 o), c4, some (.lst [.val .non, .val (.bl true), .val (.bl false), .val (.int 0), .val (.int 1), .val (.str ⟨#[]⟩), .val (.str ⟨#[48, 48]⟩), .val (.tup []), .val (.tup [.int 0]), .lst [], .lst [.val (.int 0), .val (.int 0)], .dct [], .dct [(.int 0, .val (.int 0))], .val (.tup [.non, .int 0]), .val (.tup [.int 0, .tup [.int 0]]), .val (.tup [.tup [.int 0], .int 0]), .val o.fz]), c6, c7, c8, c9] = .ok (.nx, [some (.val (.scr ns)), some (.lst l2), c2, some (fr1 o), c4, some (.val (.lst (someL o.fz))), c6', c7, c8, c9']) := by
    simp [someL] at w3
    simp [q6, f7, Sts.hd, Sts.tl, itemsD, O.fzk, someL, w3]
  have k7 : exS (Fz.run n T (k + 2)) (iosOf T) n q7 [some (.val (.scr ns)), some (.lst l2), c2, some (fr1 o), c4, some (.val (.lst (someL o.fz))), c6', c7, c8, c9'] = .ok (.rt (.val (.bl true)), [some (.val (.scr ns)), some (.lst l2), c2, some (fr1 o), c4, some (.val (.lst (someL o.fz))), c6', c7, c8, c9']) := by
    simp [q7, f7, Sts.hd, Sts.tl]
  have hx : exL (Fz.run n T (k + 2)) (iosOf T) n f7.body [some (.val (.scr ns)), none, none, none, none, none, none, none, none, none] = .ok (.rt (.val (.bl true)), [some (.val (.scr ns)), some (.lst l2), c2, some (fr1 o), c4, some (.val (.lst (someL o.fz))), c6', c7, c8, c9']) := by
    rw [body7, seq_nx k1, seq_nx k2, seq_nx k3, seq_nx k4, seq_nx k5, seq_nx k6, seq_rt k7]
  refine ⟨[some (.val (.scr ns)), some (.lst l2), c2, some (fr1 o), c4, some (.val (.lst (someL o.fz))), c6', c7, c8, c9'], ?_⟩
  have hN : f7.N.length = 10 := rfl
  rw [hN]
  unfold runB
  simp only [List.map_cons, List.map_nil, List.length_cons, List.length_nil, List.cons_append, List.nil_append]
  show Res.bind (exL (Fz.run n T (k + 2)) (iosOf T) n f7.body [some (.val (.scr ns)), none, none, none, none, none, none, none, none, none]) _ = _
  rw [hx]
  rfl
theorem plain (ns : List Int) (hns : ns.length ≤ 63) : ∃ e, Fz.run nn T kk 7 [.val (.scr ns)] = .ok (.val (.bl true), e) := plainK nn 7 (Nat.le_refl _) ns hns
end L63
end

section -- facts
namespace L63
open PySem L2
theorem facts {P : Program} {w : World} {K : PySem.W.Frag} {h : Heap} {mg : Str → Option Value} {f : Addr} (X : K.In h) (G : h.Ns mainGlobals mg) (hfa : mg ("law" : Str) = some (.ref f)) (c : He.SaysD fa ds K) (n k : Nat) :
    ∃ fd : FuncData, (∀ (s : Shared) (v : Value), BindsTo s fd ⟨[v], []⟩ [("_law_script", v)]) ∧ ∀ base : Heap, K.In base → base.Ns mainGlobals mg → FnOk P w K mg base (L2.CX P w) k f fd ["_law_script"] (Fz.spOf K tab [false] (Fz.run n T k 7)) := by
  obtain ⟨fd, F⟩ := c.def_ 7 (d := d7) rfl
  have e := hfa.symm.trans (He.glo_ok X G (c.fact 7 (f := .glo "law") rfl))
  cases e
  have b := FunD.bindsA (ps := ["_law_script"]) F fun _ _ _ _ _ _ us hl => match us, hl with | [_], _ => rfl
  refine ⟨fd, fun s v => b s [v] rfl, fun base _ _ => ?_⟩
  obtain ⟨d, f2, fd2, a1, a2, a3, a4, a5⟩ := Fz.tab_ok (A := tab) (P := P) (w := w) (base := base) (n := n) (tabOk X G c) k 7 f7 rfl
  cases a1
  have e2 : f2 = He.ga K "law" := Value.ref.inj (Option.some.inj (a3.symm.trans (He.glo_ok X G (c.fact 7 (f := .glo "law") rfl))))
  subst e2
  have e3 : fd2 = fd := by
    obtain ⟨_, _, _, _, _, _, _, _, _, _, _, l1, _⟩ := a2.ex
    obtain ⟨_, _, _, _, _, _, _, _, _, _, _, l2, _⟩ := F.ex
    have := l1.symm.trans l2
    simp at this
    exact this.2.2.1
  subst e3
  exact a5
end L63
end

open PySem.Calls PyProof.Rows PySem PySem.W
set_option maxHeartbeats 0 in
theorem PySem.Challenge.cw_firetogether_k63_trees_of_anything_holds : PySem.Challenge.rw_firetogether_k63_trees_of_anything.Holds := by
  w_on; o_law
  refine HandSHeadRun.head_any (r := OpenLaw.row PySem.Challenge.rw_firetogether_k63_trees_of_anything) (q := view (OpenLaw.row PySem.Challenge.rw_firetogether_k63_trees_of_anything).prog [9]) (H := L63.hk) (ob := L63.ob) (M := 2000) (loose := L63.names) (d := HandSHeadRun.topDef (OpenLaw.row PySem.Challenge.rw_firetogether_k63_trees_of_anything).prog 9) (kwd := []) L63.ob_eq
    (by kernel_rfl) (fun s => by kernel_rfl) L63.headrun (by kernel_rfl) (by kernel_rfl) (by kernel_rfl) (by rfl) (by first | assumption | decide +kernel) (by decide +kernel) ⟨rfl, rfl, rfl, rfl, rfl, by decide +kernel⟩ ?hw ?hc
  case hw => w_witness2
  case hc =>
    refine Fz.law_walk (l := PySem.Challenge.rw_firetogether_k63_trees_of_anything) (n := 63) (k := L63.kk) (x := "_law_script") (A := L63.tab) rfl (by decide) (by kernel_rfl) ⟨rfl, by decide, by decide⟩ L63.plain ?F
    intro w mg fa h Y G hmg0
    obtain ⟨K, KX, c⟩ := Y
    have hmg : mg ("law" : PySem.Str) = some (.ref fa) := by
      have e : (HandSHeadRun.topDef (OpenLaw.row PySem.Challenge.rw_firetogether_k63_trees_of_anything).prog 9).name = ("law" : PySem.Str) := by kernel_rfl
      rw [← e]
      exact hmg0
    obtain ⟨fd, hb, hF⟩ := L63.facts (P := (PySem.Challenge.rw_firetogether_k63_trees_of_anything).prog) (w := w) KX G hmg c L63.nn L63.kk
    exact ⟨K, fd, KX, hb, hF⟩
