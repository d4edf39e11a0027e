import PyProof.Rows.All
import Wide.All
import OpenK.AllK
import Wide.FinOn
import HandS.ForMost
import HandS.ForExc
import HandS.EndTab
import HandS.ExcIs
import HandS.IsInst
import HandS.Wide
import HandS.WideBits
import HandS.TupAny
import HandS.TupMul
import HandS.Flow
import HandS.Zip
import HandS.Style
import HandS.SortInts
import HandS.Small
import HandS.Defaults
import KE.KStateDown
import HandS.Head0
import HandS.Head1
import HandS.Head2
import HandS.HeadEnd
import HandS.HeadHook1
import HandS.HeadHook2
import HandS.HeadHook3
import HandS.HeadHook4
import HandS.HeadWalk
import KE.GoesEnum
import PySem.Challenge.RW_stuckloses_k64_whole_ends_of_rows
set_option Elab.async false
set_option linter.all false
set_option maxRecDepth 100000
set_option maxHeartbeats 2000000
/-! The data layer: deep values, how they stand in the abstract heap, steps. -/
namespace DL
open PySem PySem.Spec PyProof.Rows L2

/-- a value through and through; its lists and dicts stand still for ever -/
inductive D where
  | non | bl (b : Bool) | int (i : Int) | str (s : Str) | ty (n : String) | at (a : Addr) | ob (n : Nat)
  | sc (ns : List Int)
  | tup (l : List D)
  | lst (l : List D)
  | dK (ks : List Key) (l : List D)
  | dT (ks : List (List Key)) (l : List D)

/-- how a list or a dict is held that may change: a look at the frame's own one, a caller's own one, the frame's own one -/
inductive Md where
  | vw | pv | own
  deriving DecidableEq

/-- what an expression gives, what a slot holds -/
inductive Ev where
  | d (x : D)
  | ls (md : Md) (l : List D)
  | rw (md : Md) (rows : List (List D))
  | dk (md : Md) (ks : List Key) (l : List D)
  | dt (md : Md) (ks : List (List Key)) (l : List D)

/-- an object of the common memory -/
inductive O where
  | lst (l : List D)

abbrev Mem := List O
abbrev Env := List (Option Ev)

mutual
/-- no list, no dict -/
def D.bare : D → Bool
  | .tup l => D.bareL l
  | .lst _ => false
  | .dK _ _ => false
  | .dT _ _ => false
  | _ => true
def D.bareL : List D → Bool
  | [] => true
  | d :: l => D.bare d && D.bareL l
end

/-! ### how a value stands in the heap -/
/-- a list of ints that nobody writes (the script) -/
def SqF (K : PySem.W.Frag) (H : Hp) (a : Addr) (xs : List V) : Prop := (∃ o, H a = some (.frz o (.lst xs))) ∨
  ∃ (o : Obj) (its : Array Value) (n : Nat), K.lookup a = some o ∧ o.cls = .type "list" ∧ o.dict = none ∧ o.data = .seq its n ∧ its.size ≤ sizeLine ∧ Vals xs its.toList
mutual
def Rp (K : PySem.W.Frag) (A m : List Addr) (H : Hp) : D → V → Prop
  | .non, v => v = .non
  | .bl b, v => v = .bl b
  | .int i, v => v = .int i
  | .str s, v => v = .str s
  | .ty n, v => v = .ty n
  | .at a, v => v = .ref a
  | .ob n, v => ∃ a, m[n]? = some a ∧ v = .ref a
  | .sc ns, v => ∃ a, v = .ref a ∧ SqF K H a (ns.map V.int)
  | .tup l, v => ∃ a vs, v = .ref a ∧ H a = some (.tup vs) ∧ Rps K A m H l vs
  | .lst l, v => ∃ a vs, v = .ref a ∧ H a = some (.lst vs) ∧ a ∉ A ∧ Rps K A m H l vs
  | .dK ks l, v => ∃ a kvs, v = .ref a ∧ H a = some (.dK kvs) ∧ kvs.map (·.1) = ks ∧ a ∉ A ∧ Rps K A m H l (kvs.map (·.2))
  | .dT ks l, v => ∃ a kvs, v = .ref a ∧ H a = some (.dT kvs) ∧ kvs.map (·.1) = ks ∧ a ∉ A ∧ Rps K A m H l (kvs.map (·.2))
def Rps (K : PySem.W.Frag) (A m : List Addr) (H : Hp) : List D → List V → Prop
  | [], vs => vs = []
  | d :: l, vs => ∃ v r, vs = v :: r ∧ Rp K A m H d v ∧ Rps K A m H l r
end

/-- a list or a dict, of those that may change -/
def muta : HO → Prop
  | .lst _ => True
  | .dK _ => True
  | .dT _ => True
  | _ => False

/-- what stays but for the addresses at m (and the tables of code objects) -/
def Stp (m : List Addr) (H H' : Hp) : Prop := ∀ a o, H a = some o → a ∉ m → (∀ ps, o ≠ .tbl ps) → H' a = some o
theorem Stp.refl (m : List Addr) (H : Hp) : Stp m H H := fun _ _ e _ _ => e
theorem Stp.trans {m : List Addr} {H H1 H2 : Hp} (a : Stp m H H1) (b : Stp m H1 H2) : Stp m H H2 := fun x o e n t => b x o (a x o e n t) n t
theorem Stp.mono {m m' : List Addr} {H H' : Hp} (s : Stp m H H') (h : ∀ a ∈ m, a ∈ m') : Stp m' H H' := fun a o e n t => s a o e (fun z => n (h a z)) t
/-- something stands there, no table of code objects -/
def Lv (H : Hp) (a : Addr) : Prop := ∃ o, H a = some o ∧ ∀ ps, o ≠ .tbl ps
theorem Stp.lv {m : List Addr} {H H' : Hp} (s : Stp m H H') {a : Addr} (h : Lv H a) (n : a ∉ m) : Lv H' a := by
  obtain ⟨o, e, t⟩ := h
  exact ⟨o, s a o e n t, t⟩
/-- the addresses that may be written hold lists or dicts -/
def AOk (A : List Addr) (H : Hp) : Prop := ∀ a ∈ A, ∃ o, H a = some o ∧ muta o
theorem muta_tbl {o : HO} (h : muta o) : ∀ ps, o ≠ .tbl ps := fun ps e => by subst e; exact h
theorem lst_tbl {xs : List V} : ∀ ps, HO.lst xs ≠ .tbl ps := fun ps e => by cases e
theorem dK_tbl {xs : List (Key × V)} : ∀ ps, HO.dK xs ≠ .tbl ps := fun ps e => by cases e
theorem dT_tbl {xs : List (List Key × V)} : ∀ ps, HO.dT xs ≠ .tbl ps := fun ps e => by cases e

section
variable {K : PySem.W.Frag} {A A' m : List Addr} {H H' : Hp}
theorem tup_step {B : List Addr} {a : Addr} {vs : List V} (ok : AOk B H) (s : Stp B H H') (h : H a = some (.tup vs)) : H' a = some (.tup vs) := by
  refine s a _ h (fun hm => ?_) (fun ps e => by cases e)
  obtain ⟨o, e, mu⟩ := ok a hm
  rw [h] at e; cases e; exact mu
theorem sqF_step {B : List Addr} {a : Addr} {xs : List V} (ok : AOk B H) (s : Stp B H H') (h : SqF K H a xs) : SqF K H' a xs := by
  rcases h with ⟨o, e⟩ | h
  · refine .inl ⟨o, s a _ e (fun hm => ?_) (fun ps z => by cases z)⟩
    obtain ⟨u, e2, mu⟩ := ok a hm
    rw [e] at e2; cases e2; exact mu
  · exact .inr h
mutual
theorem Rp.step {B : List Addr} (ok : AOk B H) (hA : ∀ a ∈ B, a ∈ A) (s : Stp B H H') : ∀ (d : D) (v : V), Rp K A m H d v → Rp K A m H' d v
  | .non, _, h => h
  | .bl _, _, h => h
  | .int _, _, h => h
  | .str _, _, h => h
  | .ty _, _, h => h
  | .at _, _, h => h
  | .ob _, _, h => h
  | .sc _, _, ⟨a, e, h⟩ => ⟨a, e, sqF_step ok s h⟩
  | .tup l, v, ⟨a, vs, e, hs, hl⟩ => ⟨a, vs, e, tup_step ok s hs, Rps.step ok hA s l vs hl⟩
  | .lst l, v, ⟨a, vs, e, hs, hn, hl⟩ => ⟨a, vs, e, s a _ hs (fun hm => hn (hA a hm)) lst_tbl, hn, Rps.step ok hA s l vs hl⟩
  | .dK ks l, v, ⟨a, kvs, e, hs, ek, hn, hl⟩ => ⟨a, kvs, e, s a _ hs (fun hm => hn (hA a hm)) dK_tbl, ek, hn, Rps.step ok hA s l _ hl⟩
  | .dT ks l, v, ⟨a, kvs, e, hs, ek, hn, hl⟩ => ⟨a, kvs, e, s a _ hs (fun hm => hn (hA a hm)) dT_tbl, ek, hn, Rps.step ok hA s l _ hl⟩
theorem Rps.step {B : List Addr} (ok : AOk B H) (hA : ∀ a ∈ B, a ∈ A) (s : Stp B H H') : ∀ (l : List D) (vs : List V), Rps K A m H l vs → Rps K A m H' l vs
  | [], _, h => h
  | d :: l, vs, ⟨v, r, e, h1, h2⟩ => ⟨v, r, e, Rp.step ok hA s d v h1, Rps.step ok hA s l r h2⟩
end
mutual
theorem Rp.avoid (hA : ∀ a ∈ A', a ∈ A ∨ ¬ Lv H a) : ∀ (d : D) (v : V), Rp K A m H d v → Rp K A' m H d v
  | .non, _, h => h
  | .bl _, _, h => h
  | .int _, _, h => h
  | .str _, _, h => h
  | .ty _, _, h => h
  | .at _, _, h => h
  | .ob _, _, h => h
  | .sc _, _, h => h
  | .tup l, v, ⟨a, vs, e, hs, hl⟩ => ⟨a, vs, e, hs, Rps.avoid hA l vs hl⟩
  | .lst l, v, ⟨a, vs, e, hs, hn, hl⟩ => ⟨a, vs, e, hs, fun z => (hA a z).elim hn (fun q => q ⟨_, hs, lst_tbl⟩), Rps.avoid hA l vs hl⟩
  | .dK ks l, v, ⟨a, kvs, e, hs, ek, hn, hl⟩ => ⟨a, kvs, e, hs, ek, fun z => (hA a z).elim hn (fun q => q ⟨_, hs, dK_tbl⟩), Rps.avoid hA l _ hl⟩
  | .dT ks l, v, ⟨a, kvs, e, hs, ek, hn, hl⟩ => ⟨a, kvs, e, hs, ek, fun z => (hA a z).elim hn (fun q => q ⟨_, hs, dT_tbl⟩), Rps.avoid hA l _ hl⟩
theorem Rps.avoid (hA : ∀ a ∈ A', a ∈ A ∨ ¬ Lv H a) : ∀ (l : List D) (vs : List V), Rps K A m H l vs → Rps K A' m H l vs
  | [], _, h => h
  | d :: l, vs, ⟨v, r, e, h1, h2⟩ => ⟨v, r, e, Rp.avoid hA d v h1, Rps.avoid hA l r h2⟩
end
mutual
theorem Rp.bare : ∀ (d : D) (v : V), D.bare d = true → Rp K A m H d v → Rp K A' m H d v
  | .non, _, _, h => h
  | .bl _, _, _, h => h
  | .int _, _, _, h => h
  | .str _, _, _, h => h
  | .ty _, _, _, h => h
  | .at _, _, _, h => h
  | .ob _, _, _, h => h
  | .sc _, _, _, h => h
  | .tup l, v, b, ⟨a, vs, e, hs, hl⟩ => ⟨a, vs, e, hs, Rps.bare l vs b hl⟩
  | .lst _, _, b, _ => by cases b
  | .dK _ _, _, b, _ => by cases b
  | .dT _ _, _, b, _ => by cases b
theorem Rps.bare : ∀ (l : List D) (vs : List V), D.bareL l = true → Rps K A m H l vs → Rps K A' m H l vs
  | [], _, _, h => h
  | d :: l, vs, b, ⟨v, r, e, h1, h2⟩ => by
    have b' : (D.bare d && D.bareL l) = true := b
    rw [Bool.and_eq_true] at b'
    exact ⟨v, r, e, Rp.bare d v b'.1 h1, Rps.bare l r b'.2 h2⟩
end
theorem Rps.len : ∀ {l : List D} {vs : List V}, Rps K A m H l vs → vs.length = l.length
  | [], _, h => by have e : _ = [] := h; rw [e]; rfl
  | d :: l, vs, ⟨v, r, e, h1, h2⟩ => by rw [e, List.length_cons, List.length_cons, Rps.len h2]
theorem Rps.app : ∀ {l l' : List D} {vs vs' : List V}, Rps K A m H l vs → Rps K A m H l' vs' → Rps K A m H (l ++ l') (vs ++ vs')
  | [], _, _, _, h, h' => by have e : _ = [] := h; rw [e]; exact h'
  | d :: l, _, vs, _, ⟨v, r, e, h1, h2⟩, h' => ⟨v, r ++ _, by rw [e]; rfl, h1, Rps.app h2 h'⟩
theorem Rps.one {d : D} {v : V} (h : Rp K A m H d v) : Rps K A m H [d] [v] := ⟨v, [], rfl, h, rfl⟩
theorem Rps.get : ∀ {l : List D} {vs : List V} {i : Nat} {d : D}, Rps K A m H l vs → l[i]? = some d → ∃ v, vs[i]? = some v ∧ Rp K A m H d v
  | [], _, i, _, _, e => by simp at e
  | d :: l, vs, 0, x, ⟨v, r, e, h1, h2⟩, q => by simp at q; subst q; exact ⟨v, by rw [e]; rfl, h1⟩
  | d :: l, vs, i + 1, x, ⟨v, r, e, h1, h2⟩, q => by
    obtain ⟨y, e1, e2⟩ := Rps.get (i := i) h2 (by simpa using q)
    exact ⟨y, by rw [e]; simpa using e1, e2⟩
theorem Rps.set : ∀ {l : List D} {vs : List V} (i : Nat) {d : D} {v : V}, Rps K A m H l vs → Rp K A m H d v → Rps K A m H (l.set i d) (vs.set i v)
  | [], _, i, _, _, h, _ => by have e : _ = [] := h; rw [e]; exact rfl
  | d :: l, vs, 0, x, y, ⟨v, r, e, h1, h2⟩, q => ⟨y, r, by rw [e]; rfl, q, h2⟩
  | d :: l, vs, i + 1, x, y, ⟨v, r, e, h1, h2⟩, q => ⟨v, r.set i y, by rw [e]; rfl, h1, Rps.set i h2 q⟩
theorem Rps.take : ∀ {l : List D} {vs : List V} (n : Nat), Rps K A m H l vs → Rps K A m H (l.take n) (vs.take n)
  | _, _, 0, _ => by simp; exact rfl
  | [], _, n + 1, h => by have e : _ = [] := h; rw [e]; exact rfl
  | d :: l, vs, n + 1, ⟨v, r, e, h1, h2⟩ => by rw [e]; exact ⟨v, r.take n, rfl, h1, Rps.take n h2⟩
theorem Rps.drop : ∀ {l : List D} {vs : List V} (n : Nat), Rps K A m H l vs → Rps K A m H (l.drop n) (vs.drop n)
  | _, _, 0, h => by simpa using h
  | [], _, n + 1, h => by have e : _ = [] := h; rw [e]; exact rfl
  | d :: l, vs, n + 1, ⟨v, r, e, h1, h2⟩ => by rw [e]; exact Rps.drop n h2
theorem Rps.rev : ∀ {l : List D} {vs : List V}, Rps K A m H l vs → Rps K A m H l.reverse vs.reverse
  | [], _, h => by have e : _ = [] := h; rw [e]; exact rfl
  | d :: l, vs, ⟨v, r, e, h1, h2⟩ => by rw [e, List.reverse_cons, List.reverse_cons]; exact Rps.app (Rps.rev h2) (Rps.one h1)
theorem Rps.rep {l : List D} {vs : List V} (h : Rps K A m H l vs) : ∀ n : Nat, Rps K A m H (List.replicate n l).flatten (List.replicate n vs).flatten
  | 0 => rfl
  | n + 1 => by rw [List.replicate_succ, List.replicate_succ, List.flatten_cons, List.flatten_cons]; exact Rps.app h (Rps.rep h n)
theorem Rps.ints : ∀ {ns : List Int} {vs : List V}, Rps K A m H (ns.map D.int) vs → vs = ns.map V.int
  | [], _, h => h
  | n :: ns, vs, ⟨v, r, e, h1, h2⟩ => by rw [e, show v = .int n from h1, Rps.ints h2]; rfl
theorem Rps.of_ints : ∀ (ns : List Int), Rps K A m H (ns.map D.int) (ns.map V.int)
  | [] => rfl
  | n :: ns => ⟨.int n, ns.map V.int, rfl, rfl, Rps.of_ints ns⟩
end

/-! ### the memory, the frame -/
def OR (K : PySem.W.Frag) (m : List Addr) (H : Hp) (a : Addr) : O → Prop
  | .lst l => ∃ vs, H a = some (.lst vs) ∧ D.bareL l = true ∧ Rps K m m H l vs
structure WR (K : PySem.W.Frag) (m : List Addr) (M : Mem) (H : Hp) : Prop where
  len : m.length = M.length
  nd : m.Nodup
  ok : ∀ (n : Nat) (a : Addr) (o : O), m[n]? = some a → M[n]? = some o → OR K m H a o
theorem WR.aok {K : PySem.W.Frag} {m : List Addr} {M : Mem} {H : Hp} (w : WR K m M H) : AOk m H := fun a ha => by
  obtain ⟨n, hn, e⟩ := List.mem_iff_getElem.mp ha
  have hM : n < M.length := by rw [← w.len]; exact hn
  have q := w.ok n a (M[n]) (by rw [List.getElem?_eq_getElem hn, e]) (List.getElem?_eq_getElem hM)
  cases hq : M[n] with
  | lst l => rw [hq] at q; obtain ⟨vs, e, _⟩ := q; exact ⟨_, e, trivial⟩

/-- an expression's value -/
def EvR (K : PySem.W.Frag) (H0 : Hp) (A m : List Addr) (H : Hp) : Ev → V → Prop
  | .d x, v => Rp K A m H x v
  | .ls .own _, _ => False
  | .ls .vw l, v => ∃ a vs, v = .ref a ∧ H a = some (.lst vs) ∧ a ∉ m ∧ ¬ Lv H0 a ∧ Rps K A m H l vs
  | .ls .pv l, v => ∃ a vs, v = .ref a ∧ H a = some (.lst vs) ∧ a ∉ m ∧ Lv H0 a ∧ Rps K A m H l vs
  | .rw .vw rows, v => ∃ a vs, v = .ref a ∧ H a = some (.lst vs) ∧ a ∉ m ∧ ¬ Lv H0 a ∧ Paired (fun row u => ∃ b ws, u = V.ref b ∧ H b = some (.lst ws) ∧ b ∉ m ∧ ¬ Lv H0 b ∧ Rps K A m H row ws) rows vs
  | .rw _ _, _ => False
  | .dk .vw ks l, v => ∃ a kvs, v = .ref a ∧ H a = some (.dK kvs) ∧ kvs.map (·.1) = ks ∧ a ∉ m ∧ ¬ Lv H0 a ∧ Rps K A m H l (kvs.map (·.2))
  | .dk .pv ks l, v => ∃ a kvs, v = .ref a ∧ H a = some (.dK kvs) ∧ kvs.map (·.1) = ks ∧ a ∉ m ∧ Lv H0 a ∧ Rps K A m H l (kvs.map (·.2))
  | .dk .own _ _, _ => False
  | .dt .vw ks l, v => ∃ a kvs, v = .ref a ∧ H a = some (.dT kvs) ∧ kvs.map (·.1) = ks ∧ a ∉ m ∧ ¬ Lv H0 a ∧ Rps K A m H l (kvs.map (·.2))
  | .dt .pv ks l, v => ∃ a kvs, v = .ref a ∧ H a = some (.dT kvs) ∧ kvs.map (·.1) = ks ∧ a ∉ m ∧ Lv H0 a ∧ Rps K A m H l (kvs.map (·.2))
  | .dt .own _ _, _ => False
theorem EvR.step {K : PySem.W.Frag} {H0 : Hp} {A m : List Addr} {H H' : Hp} (ok : AOk m H) (hA : ∀ a ∈ m, a ∈ A) (s : Stp m H H') : ∀ {x : Ev} {v : V}, EvR K H0 A m H x v → EvR K H0 A m H' x v
  | .d x, v, h => Rp.step ok hA s x v h
  | .ls .vw l, v, ⟨a, vs, e, h, n, z, r⟩ => ⟨a, vs, e, s a _ h n lst_tbl, n, z, Rps.step ok hA s _ _ r⟩
  | .ls .pv l, v, ⟨a, vs, e, h, n, z, r⟩ => ⟨a, vs, e, s a _ h n lst_tbl, n, z, Rps.step ok hA s _ _ r⟩
  | .rw .vw rows, v, ⟨a, vs, e, h, n, z, r⟩ => ⟨a, vs, e, s a _ h n lst_tbl, n, z, Paired.mapP r fun row u ⟨b, ws, e1, e2, e3, e4, e5⟩ => ⟨b, ws, e1, s b _ e2 e3 lst_tbl, e3, e4, Rps.step ok hA s _ _ e5⟩⟩
  | .dk .vw ks l, v, ⟨a, vs, e, h, ek, n, z, r⟩ => ⟨a, vs, e, s a _ h n dK_tbl, ek, n, z, Rps.step ok hA s _ _ r⟩
  | .dk .pv ks l, v, ⟨a, vs, e, h, ek, n, z, r⟩ => ⟨a, vs, e, s a _ h n dK_tbl, ek, n, z, Rps.step ok hA s _ _ r⟩
  | .dt .vw ks l, v, ⟨a, vs, e, h, ek, n, z, r⟩ => ⟨a, vs, e, s a _ h n dT_tbl, ek, n, z, Rps.step ok hA s _ _ r⟩
  | .dt .pv ks l, v, ⟨a, vs, e, h, ek, n, z, r⟩ => ⟨a, vs, e, s a _ h n dT_tbl, ek, n, z, Rps.step ok hA s _ _ r⟩
  | .ls .own _, _, h => h.elim
  | .rw .pv _, _, h => h.elim
  | .rw .own _, _, h => h.elim
  | .dk .own _ _, _, h => h.elim
  | .dt .own _ _, _, h => h.elim
/-- rows, each the frame's own -/
def RowsR (K : PySem.W.Frag) (A m : List Addr) (H : Hp) : List (List D) → List V → List Addr → Prop
  | [], vs, P => vs = [] ∧ P = []
  | row :: rows, vs, P => ∃ b ws r P', vs = .ref b :: r ∧ P = b :: P' ∧ H b = some (.lst ws) ∧ Rps K A m H row ws ∧ RowsR K A m H rows r P'
/-- what a slot holds, P: the addresses that are the slot's own -/
def SlR (K : PySem.W.Frag) (H0 : Hp) (A m : List Addr) (H : Hp) : Ev → V → List Addr → Prop
  | .d x, v, P => P = [] ∧ Rp K A m H x v
  | .ls .pv l, v, P => P = [] ∧ EvR K H0 A m H (.ls .pv l) v
  | .ls .own l, v, P => ∃ a vs, v = .ref a ∧ H a = some (.lst vs) ∧ P = [a] ∧ Rps K A m H l vs
  | .rw .own rows, v, P => ∃ a vs P', v = .ref a ∧ H a = some (.lst vs) ∧ P = a :: P' ∧ RowsR K A m H rows vs P'
  | .dk .pv ks l, v, P => P = [] ∧ EvR K H0 A m H (.dk .pv ks l) v
  | .dk .own ks l, v, P => ∃ a kvs, v = .ref a ∧ H a = some (.dK kvs) ∧ kvs.map (·.1) = ks ∧ P = [a] ∧ Rps K A m H l (kvs.map (·.2))
  | .dt .pv ks l, v, P => P = [] ∧ EvR K H0 A m H (.dt .pv ks l) v
  | .dt .own ks l, v, P => ∃ a kvs, v = .ref a ∧ H a = some (.dT kvs) ∧ kvs.map (·.1) = ks ∧ P = [a] ∧ Rps K A m H l (kvs.map (·.2))
  | _, _, _ => False
def ER (K : PySem.W.Frag) (H0 : Hp) (A m : List Addr) (H : Hp) : Env → L2.St → List Addr → Prop
  | [], σ, P => σ = [] ∧ P = []
  | none :: ρ, σ, P => ∃ y τ, σ = y :: τ ∧ ER K H0 A m H ρ τ P
  | some x :: ρ, σ, P => ∃ v τ P1 P2, σ = some v :: τ ∧ P = P1 ++ P2 ∧ SlR K H0 A m H x v P1 ∧ ER K H0 A m H ρ τ P2
end DL

set_option Elab.async false
set_option linter.all false
set_option maxRecDepth 100000
set_option maxHeartbeats 2000000
/-! The data layer: frames, readings, how parts are put together. -/
namespace DL
open PySem PySem.Spec PyProof.Rows L2

inductive R (α : Type) where
  | ok (a : α) (M : Mem)
  | exc (c : Str) (f : Option (Str × D)) (M : Mem)
  | stuck
abbrev Sm (α : Type) := Env → Mem → R α
def bnd {α β : Type} (r : R α) (k : α → Mem → R β) : R β := match r with
  | .ok a M => k a M
  | .exc c f M => .exc c f M
  | .stuck => .stuck
theorem bnd_ok {α β : Type} (a : α) (M : Mem) (k : α → Mem → R β) : bnd (.ok a M) k = k a M := rfl
theorem bnd_exc {α β : Type} (c f) (M : Mem) (k : α → Mem → R β) : bnd (.exc c f M) k = .exc c f M := rfl
theorem bnd_stuck {α β : Type} (k : α → Mem → R β) : bnd (.stuck) k = .stuck := rfl

/-- what a name gives -/
def look : Ev → Ev
  | .ls .own l => .ls .vw l
  | .rw .own rows => .rw .vw rows
  | .dk .own ks l => .dk .vw ks l
  | .dt .own ks l => .dt .vw ks l
  | y => y
/-- a lone thing as a value of the heap -/
def scV : D → Option V
  | .non => some .non
  | .bl b => some (.bl b)
  | .int i => some (.int i)
  | .str s => some (.str s)
  | _ => none

/-- an exception of the class c, with its one field or none -/
def XR (mg : Str → Option Value) (H : Hp) (c : Str) (f : Option (Str × D)) (cls : Value) (d : Option Addr) : Prop :=
  ∃ C, mg c = some (.ref C) ∧ cls = .ref C ∧ match f with
    | none => d = none
    | some (nm, x) => ∃ dx v, d = some dx ∧ H dx = some (.xd [(nm, v)]) ∧ scV x = some v

/-- what stays the same through a def's body -/
structure Cf where
  K : PySem.W.Frag
  mg : Str → Option Value
  T : List (Addr × Str)
  W : WX
abbrev cf (X : Cx) (T : List (Addr × Str)) (W : WX) : Cf := ⟨X.K, X.mg, T, W⟩

structure FR (C : Cf) (H0 : Hp) (A m : List Addr) (M : Mem) (H : Hp) (ρ : Env) (σ : L2.St) (P : List Addr) : Prop where
  wr : WR C.K m M H
  tb : LamX.Tabs C.T H
  er : ER C.K H0 A m H ρ σ P
  nd : P.Nodup
  own : ∀ a ∈ P, a ∈ A ∧ a ∉ m ∧ ¬ Lv H0 a
  ma : ∀ a ∈ m, a ∈ A
  aok : AOk A H
  base : Stp m H0 H

section
variable {C : Cf} {K : PySem.W.Frag} {H0 H H' : Hp} {A m : List Addr} {M M' : Mem} {ρ : Env} {σ : L2.St} {P : List Addr}
theorem RowsR.step {B : List Addr} (ok : AOk B H) (hA : ∀ a ∈ B, a ∈ A) (s : Stp B H H') : ∀ {rows : List (List D)} {vs : List V} {P : List Addr}, (∀ a ∈ P, a ∉ B) → RowsR K A m H rows vs P → RowsR K A m H' rows vs P
  | [], _, _, _, h => h
  | row :: rows, vs, P, hP, ⟨b, ws, r, P', e, eP, hb, hr, ht⟩ =>
    ⟨b, ws, r, P', e, eP, s b _ hb (hP b (by rw [eP]; exact List.mem_cons_self)) lst_tbl, Rps.step ok hA s _ _ hr, RowsR.step ok hA s (fun a ha => hP a (by rw [eP]; exact List.mem_cons_of_mem _ ha)) ht⟩
theorem SlR.step (ok : AOk m H) (hA : ∀ a ∈ m, a ∈ A) (s : Stp m H H') : ∀ {x : Ev} {v : V} {P : List Addr}, (∀ a ∈ P, a ∉ m) → SlR K H0 A m H x v P → SlR K H0 A m H' x v P
  | .d x, v, P, hP, ⟨e, h⟩ => ⟨e, Rp.step ok hA s x v h⟩
  | .ls .pv l, v, P, hP, ⟨e, h⟩ => ⟨e, EvR.step ok hA s h⟩
  | .ls .own l, v, P, hP, ⟨a, vs, e, h, eP, r⟩ => ⟨a, vs, e, s a _ h (hP a (by rw [eP]; exact List.mem_cons_self)) lst_tbl, eP, Rps.step ok hA s _ _ r⟩
  | .rw .own rows, v, P, hP, ⟨a, vs, P', e, h, eP, r⟩ => ⟨a, vs, P', e, s a _ h (hP a (by rw [eP]; exact List.mem_cons_self)) lst_tbl, eP, RowsR.step ok hA s (fun b hb => hP b (by rw [eP]; exact List.mem_cons_of_mem _ hb)) r⟩
  | .dk .pv ks l, v, P, hP, ⟨e, h⟩ => ⟨e, EvR.step ok hA s h⟩
  | .dk .own ks l, v, P, hP, ⟨a, kvs, e, h, ek, eP, r⟩ => ⟨a, kvs, e, s a _ h (hP a (by rw [eP]; exact List.mem_cons_self)) dK_tbl, ek, eP, Rps.step ok hA s _ _ r⟩
  | .dt .pv ks l, v, P, hP, ⟨e, h⟩ => ⟨e, EvR.step ok hA s h⟩
  | .dt .own ks l, v, P, hP, ⟨a, kvs, e, h, ek, eP, r⟩ => ⟨a, kvs, e, s a _ h (hP a (by rw [eP]; exact List.mem_cons_self)) dT_tbl, ek, eP, Rps.step ok hA s _ _ r⟩
  | .ls .vw _, _, _, _, h => h.elim
  | .rw .vw _, _, _, _, h => h.elim
  | .rw .pv _, _, _, _, h => h.elim
  | .dk .vw _ _, _, _, _, h => h.elim
  | .dt .vw _ _, _, _, _, h => h.elim
theorem ER.step (ok : AOk m H) (hA : ∀ a ∈ m, a ∈ A) (s : Stp m H H') : ∀ {ρ : Env} {σ : L2.St} {P : List Addr}, (∀ a ∈ P, a ∉ m) → ER K H0 A m H ρ σ P → ER K H0 A m H' ρ σ P
  | [], _, _, _, h => h
  | none :: ρ, σ, P, hP, ⟨y, τ, e, h⟩ => ⟨y, τ, e, ER.step ok hA s hP h⟩
  | some x :: ρ, σ, P, hP, ⟨v, τ, P1, P2, e, eP, h1, h2⟩ =>
    ⟨v, τ, P1, P2, e, eP, SlR.step ok hA s (fun a ha => hP a (by rw [eP]; exact List.mem_append_left _ ha)) h1, ER.step ok hA s (fun a ha => hP a (by rw [eP]; exact List.mem_append_right _ ha)) h2⟩
theorem FR.step (F : FR C H0 A m M H ρ σ P) (s : Stp m H H') (w : WR C.K m M' H') (t : LamX.Tabs C.T H') : FR C H0 A m M' H' ρ σ P :=
  ⟨w, t, ER.step F.wr.aok F.ma s (fun a ha => (F.own a ha).2.1) F.er, F.nd, F.own, F.ma, fun a ha => by
    by_cases hm : a ∈ m
    · exact w.aok a hm
    · obtain ⟨o, e, mu⟩ := F.aok a ha
      exact ⟨o, s a o e hm (muta_tbl mu), mu⟩, F.base.trans s⟩
theorem Stp.upd {m : List Addr} {H : Hp} {p : Addr} {o : HO} (hp : H p = none) : Stp m H (upd H p o) := fun a u e _ _ => by
  rw [upd_ne (ne_of_none e hp)]; exact e
theorem WR.step (w : WR K m M H) (hk : ∀ a o, H a = some o → (∀ ps, o ≠ .tbl ps) → H' a = some o) : WR K m M H' := by
  refine ⟨w.len, w.nd, fun n a o e1 e2 => ?_⟩
  have q := w.ok n a o e1 e2
  cases o with
  | lst l =>
    obtain ⟨vs, e, b, r⟩ := q
    exact ⟨vs, hk a _ e lst_tbl, b, Rps.step (B := []) (fun _ h => nomatch h) (fun _ h => nomatch h) (fun a o e _ t => hk a o e t) _ _ r⟩
theorem WR.upd (w : WR K m M H) {p : Addr} {o : HO} (hp : H p = none) : WR K m M (upd H p o) := w.step fun a u e _ => by
  rw [upd_ne (ne_of_none e hp)]; exact e
theorem Tabs.upd {T : List (Addr × Str)} (t : LamX.Tabs T H) {p : Addr} {o : HO} (hp : H p = none) : LamX.Tabs T (upd H p o) := t.ext fun a u e => by
  rw [upd_ne (ne_of_none e hp)]; exact e
theorem FR.grow (F : FR C H0 A m M H ρ σ P) {p : Addr} {o : HO} (hp : H p = none) : FR C H0 A m M (upd H p o) ρ σ P := F.step (Stp.upd hp) (F.wr.upd hp) (Tabs.upd F.tb hp)
/-- a new address is none of those that are told -/
theorem FR.new (F : FR C H0 A m M H ρ σ P) {p : Addr} (hp : H p = none) : p ∉ A := fun h => by
  obtain ⟨o, e, _⟩ := F.aok p h
  rw [hp] at e; cases e
theorem FR.h0 (F : FR C H0 A m M H ρ σ P) {p : Addr} (hp : H p = none) : ¬ Lv H0 p := fun h => by
  obtain ⟨o, e, _⟩ := F.base.lv h (fun z => F.new hp (F.ma p z))
  rw [hp] at e; cases e
theorem SlR.get_look {x : Ev} {v : V} {P1 : List Addr} (h : SlR K H0 A m H x v P1) (ho : ∀ a ∈ P1, a ∉ m ∧ ¬ Lv H0 a) :
    EvR K H0 A m H (look x) v := by
  cases x with
  | d x => exact h.2
  | ls md l =>
    cases md with
    | vw => exact h.elim
    | pv => exact h.2
    | own =>
      obtain ⟨a, vs, e, hl, eP, r⟩ := h
      have q := ho a (by rw [eP]; exact List.mem_cons_self)
      exact ⟨a, vs, e, hl, q.1, q.2, r⟩
  | rw md l =>
    cases md with
    | vw => exact h.elim
    | pv => exact h.elim
    | own =>
      obtain ⟨a, vs, P', e, hl, eP, r⟩ := h
      have q := ho a (by rw [eP]; exact List.mem_cons_self)
      refine ⟨a, vs, e, hl, q.1, q.2, ?_⟩
      have all : ∀ {rows : List (List D)} {vs : List V} {P : List Addr}, (∀ a ∈ P, a ∉ m ∧ ¬ Lv H0 a) → RowsR K A m H rows vs P → Paired (fun row u => ∃ b ws, u = V.ref b ∧ H b = some (.lst ws) ∧ b ∉ m ∧ ¬ Lv H0 b ∧ Rps K A m H row ws) rows vs := by
        intro rows
        induction rows with
        | nil => intro vs P _ h; obtain ⟨rfl, _⟩ := h; exact .nil
        | cons row rows ih =>
          intro vs P hP h
          obtain ⟨b, ws, r, P', rfl, eP, hb, hr, ht⟩ := h
          have q := hP b (by rw [eP]; exact List.mem_cons_self)
          exact .cons ⟨b, ws, rfl, hb, q.1, q.2, hr⟩ (ih (fun a ha => hP a (by rw [eP]; exact List.mem_cons_of_mem _ ha)) ht)
      exact all (fun b hb => ho b (by rw [eP]; exact List.mem_cons_of_mem _ hb)) r
  | dk md ks l =>
    cases md with
    | vw => exact h.elim
    | pv => exact h.2
    | own =>
      obtain ⟨a, kvs, e, hl, ek, eP, r⟩ := h
      have q := ho a (by rw [eP]; exact List.mem_cons_self)
      exact ⟨a, kvs, e, hl, ek, q.1, q.2, r⟩
  | dt md ks l =>
    cases md with
    | vw => exact h.elim
    | pv => exact h.2
    | own =>
      obtain ⟨a, kvs, e, hl, ek, eP, r⟩ := h
      have q := ho a (by rw [eP]; exact List.mem_cons_self)
      exact ⟨a, kvs, e, hl, ek, q.1, q.2, r⟩
theorem ER.get : ∀ {ρ : Env} {σ : L2.St} {P : List Addr} {i : Nat} {x : Ev}, ER K H0 A m H ρ σ P → ρ[i]? = some (some x) → ∃ v P1, σ[i]? = some (some v) ∧ SlR K H0 A m H x v P1 ∧ ∀ a ∈ P1, a ∈ P
  | [], _, _, i, _, _, e => by simp at e
  | none :: ρ, σ, P, 0, x, _, e => by simp at e
  | none :: ρ, σ, P, i + 1, x, ⟨y, τ, eσ, h⟩, e => by
    obtain ⟨v, P1, q1, q2, q3⟩ := ER.get (i := i) h (by simpa using e)
    exact ⟨v, P1, by rw [eσ]; simpa using q1, q2, q3⟩
  | some z :: ρ, σ, P, 0, x, ⟨v, τ, P1, P2, eσ, eP, h1, h2⟩, e => by
    simp at e; subst e
    exact ⟨v, P1, by rw [eσ]; rfl, h1, fun a ha => by rw [eP]; exact List.mem_append_left _ ha⟩
  | some z :: ρ, σ, P, i + 1, x, ⟨v, τ, P1, P2, eσ, eP, h1, h2⟩, e => by
    obtain ⟨v, P1', q1, q2, q3⟩ := ER.get (i := i) h2 (by simpa using e)
    exact ⟨v, P1', by rw [eσ]; simpa using q1, q2, fun a ha => by rw [eP]; exact List.mem_append_right _ (q3 a ha)⟩
end
/-! ### readings -/
def PX {α β : Type} (C : Cf) (m : List Addr) (σ : L2.St) (rel : Hp → α → β → Prop) (H : Hp) (r : R α) (Q : β → Hp → Prop) : Prop := match r with
  | .ok d M' => ∀ H' v, Stp m H H' → WR C.K m M' H' → LamX.Tabs C.T H' → rel H' d v → Q v H'
  | .exc c f M' => ∀ H' cls d, Stp m H H' → WR C.K m M' H' → LamX.Tabs C.T H' → XR C.mg H' c f cls d → C.W cls d σ H'
  | .stuck => False
abbrev Rel (α β : Type) := Hp → List Addr → List Addr → Hp → α → β → Prop
def tX {α β : Type} (C : Cf) (rel : Rel α β) (f : Sm α) : L2.St → Hp → (β → Hp → Prop) → Prop := fun σ H Q =>
  ∃ H0 A m M ρ P, FR C H0 A m M H ρ σ P ∧ PX C m σ (rel H0 A m) H (f ρ M) Q
def relE (K : PySem.W.Frag) : Rel Ev V := fun H0 A m H x v => EvR K H0 A m H x v
def relL (K : PySem.W.Frag) : Rel (List Ev) (List V) := fun H0 A m H xs vs => Paired (EvR K H0 A m H) xs vs
def relB : Rel Bool Bool := fun _ _ _ _ a b => a = b
abbrev tE (C : Cf) (f : Sm Ev) : TE := tX C (relE C.K) f
abbrev tA (C : Cf) (f : Sm (List Ev)) : TA := tX C (relL C.K) f
abbrev tT (C : Cf) (f : Sm Bool) : TT := tX C relB f
section
variable {α β γ δ : Type} {C : Cf} {H0 H H' : Hp} {A m : List Addr} {M M' : Mem} {ρ : Env} {σ : L2.St} {P : List Addr} {rel : Hp → α → β → Prop}
theorem PX.step {r : R α} {Q : β → Hp → Prop} (s : Stp m H H') (h : PX C m σ rel H r Q) : PX C m σ rel H' r Q := by
  cases r with
  | ok d M' => exact fun H2 v s2 w t q => h H2 v (s.trans s2) w t q
  | exc c f M' => exact fun H2 cls d s2 w t q => h H2 cls d (s.trans s2) w t q
  | stuck => exact h
/-- a part is run, the rest behind it -/
theorem sub {rel1 : Rel α β} {rel2 : Hp → γ → δ → Prop} {f : Sm α} {k : α → Mem → R γ} {Q : δ → Hp → Prop} (F : FR C H0 A m M H ρ σ P) (h : PX C m σ rel2 H (bnd (f ρ M) k) Q) {G : β → Hp → Prop}
    (hk : ∀ d M1 H1 v, FR C H0 A m M1 H1 ρ σ P → Stp m H H1 → rel1 H0 A m H1 d v → PX C m σ rel2 H1 (k d M1) Q → G v H1) : tX C rel1 f σ H G := by
  refine ⟨H0, A, m, M, ρ, P, F, ?_⟩
  cases e : f ρ M with
  | ok d M1 =>
    rw [e] at h
    exact fun H1 v s w t q => hk d M1 H1 v (F.step s w t) s q (PX.step s h)
  | exc c g M1 => rw [e] at h; exact h
  | stuck => rw [e] at h; exact h
/-- a value is there -/
theorem PX.fin {d : α} {v : β} {Q : β → Hp → Prop} (h : PX C m σ rel H (.ok d M) Q) (F : FR C H0 A m M H ρ σ P) (r : rel H d v) : Q v H := h H v (Stp.refl m H) F.wr F.tb r
/-- a new object -/
theorem PX.made {d : α} {v : β} {Q : β → Hp → Prop} {p : Addr} {o : HO} (h : PX C m σ rel H (.ok d M) Q) (F : FR C H0 A m M H ρ σ P) (hp : H p = none) (r : rel (upd H p o) d v) : Q v (upd H p o) :=
  h _ v (Stp.upd hp) (F.wr.upd hp) (Tabs.upd F.tb hp) r
theorem Rp.grow {K : PySem.W.Frag} {d : D} {v : V} {p : Addr} {o : HO} (h : Rp K A m H d v) (hp : H p = none) : Rp K A m (upd H p o) d v :=
  Rp.step (B := []) (fun _ z => nomatch z) (fun _ z => nomatch z) (Stp.upd hp) d v h
theorem Rps.grow {K : PySem.W.Frag} {l : List D} {vs : List V} {p : Addr} {o : HO} (h : Rps K A m H l vs) (hp : H p = none) : Rps K A m (upd H p o) l vs :=
  Rps.step (B := []) (fun _ z => nomatch z) (fun _ z => nomatch z) (Stp.upd hp) l vs h
end
/-! ### expressions -/
section
variable {X : Cx} {T : List (Addr × Str)} {W : WX}
def eVar (i : Nat) : Sm Ev := fun ρ M => match ρ[i]? with
  | some (some x) => .ok (look x) M
  | _ => .stuck
theorem de_var (i : Nat) {x : Str} {pos : Pos} (hN : X.N[i]? = some x := by rfl) (hv : Vis X.env.scope x := by first | exact Or.inl rfl | exact Or.inr (Or.inl rfl) | exact Or.inr (Or.inr rfl)) (hd : (x == ("__debug__" : Str)) = false := by decide)
    (hcd : (x == ("__classdict__" : Str)) = false := by decide) : PE X (.Name x pos) (tE (cf X T W) (eVar i)) := by
  refine ⟨fun pins s σ H Q I h => (pe_var hN hv hd hcd).run pins s σ H Q I ?_⟩
  obtain ⟨H0, A, m, M, ρ, P, F, h⟩ := h
  unfold eVar at h
  cases e : ρ[i]? with
  | none => rw [e] at h; exact h.elim
  | some y =>
    cases y with
    | none => rw [e] at h; exact h.elim
    | some y =>
      rw [e] at h
      obtain ⟨v, P1, q1, q2, q3⟩ := ER.get F.er e
      exact ⟨v, q1, h.fin F (SlR.get_look q2 fun a ha => ⟨(F.own a (q3 a ha)).2.1, (F.own a (q3 a ha)).2.2⟩)⟩
def eC (x : D) : Sm Ev := fun _ M => .ok (.d x) M
theorem tE_C {x : D} {v : V} {σ : L2.St} {H : Hp} {Q : VK} (hx : ∀ A m H, Rp X.K A m H x v) (h : tE (cf X T W) (eC x) σ H Q) : Q v H := by
  obtain ⟨H0, A, m, M, ρ, P, F, h⟩ := h
  exact h.fin F (hx A m H)
theorem de_int {i j pos} : PE X (.Constant (.int i) j pos) (tE (cf X T W) (eC (.int i))) := ⟨fun pins s σ H Q I h => pe_int.run pins s σ H Q I (tE_C (x := .int i) (fun _ _ _ => rfl) h)⟩
theorem de_bl {b j pos} : PE X (.Constant (.bool b) j pos) (tE (cf X T W) (eC (.bl b))) := ⟨fun pins s σ H Q I h => pe_bl.run pins s σ H Q I (tE_C (x := .bl b) (fun _ _ _ => rfl) h)⟩
theorem de_non {j pos} : PE X (.Constant .none j pos) (tE (cf X T W) (eC .non)) := ⟨fun pins s σ H Q I h => pe_non.run pins s σ H Q I (tE_C (x := .non) (fun _ _ _ => rfl) h)⟩
theorem de_str {x j pos} : PE X (.Constant (.str x) j pos) (tE (cf X T W) (eC (.str x))) := ⟨fun pins s σ H Q I h => pe_str.run pins s σ H Q I (tE_C (x := .str x) (fun _ _ _ => rfl) h)⟩
/-- a constant of the module, a def, a class -/
theorem de_glob {x : Str} {d : D} {v : V} {u : Value} {pos : Pos} (hg : Gl X x) (hm : X.mg x = some u) (r : RelV v u) (hx : ∀ A m H, Rp X.K A m H d v) (hd : (x == ("__debug__" : Str)) = false := by decide) : PE X (.Name x pos) (tE (cf X T W) (eC d)) :=
  ⟨fun pins s σ H Q I h => (pe_glob hg hm r hd).run pins s σ H Q I (tE_C hx h)⟩
/-- a built-in class as a value -/
theorem de_ty {x : Str} {n : String} {pos : Pos} (hg : Gl X x) (hm : X.mg x = none) (hv : bootBuiltins x = some (.type n)) (hn : x ≠ "__name__" := by decide) (hd : (x == ("__debug__" : Str)) = false := by decide) : PE X (.Name x pos) (tE (cf X T W) (eC (.ty n))) :=
  ⟨fun pins s σ H Q I h => (pe_bltn (v := .ty n) hg hm hv rfl hn hd).run pins s σ H Q I (tE_C (x := .ty n) (fun _ _ _ => rfl) h)⟩
/-! two parts -/
def eBin (op : Ev → Ev → Mem → R Ev) (f g : Sm Ev) : Sm Ev := fun ρ M => bnd (f ρ M) fun a M1 => bnd (g ρ M1) fun b M2 => op a b M2
/-- what an operation asks is there -/
def OpOk (C : Cf) (op : Ev → Ev → Mem → R Ev) (r : R2) : Prop := ∀ H0 A m M H ρ σ P x y v w Q, FR C H0 A m M H ρ σ P → EvR C.K H0 A m H x v → EvR C.K H0 A m H y w → PX C m σ (EvR C.K H0 A m) H (op x y M) Q → r v w H Q
theorem tE_bin {op : Ev → Ev → Mem → R Ev} {f g : Sm Ev} {r : R2} {σ : L2.St} {H : Hp} {Q : VK} (ho : OpOk (cf X T W) op r) (h : tE (cf X T W) (eBin op f g) σ H Q) : tOp r (tE (cf X T W) f) (tE (cf X T W) g) σ H Q := by
  obtain ⟨H0, A, m, M, ρ, P, F, h⟩ := h
  refine sub F h fun a M1 H1 v F1 _ r1 h1 => ?_
  refine sub F1 h1 fun b M2 H2 w F2 s2 r2 h2 => ?_
  exact ho H0 A m M2 H2 ρ σ P a b v w Q F2 (EvR.step F1.wr.aok F1.ma s2 r1) r2 h2
end
end DL

set_option Elab.async false
set_option linter.all false
set_option maxRecDepth 100000
set_option maxHeartbeats 2000000
/-! The data layer: operators, comparisons, tests. -/
namespace DL
open PySem PySem.Spec PyProof.Rows L2
abbrev iv (i : Int) : Ev := .d (.int i)
abbrev bv (b : Bool) : Ev := .d (.bl b)
/-- a list's items -/
def lstOf : Ev → Option (List D)
  | .d (.lst l) => some l
  | .ls .own _ => none
  | .ls _ l => some l
  | _ => none
def tupOf : Ev → Option (List D)
  | .d (.tup l) => some l
  | _ => none
/-- a list's or a tuple's items -/
def seqOf : Ev → Option (List D)
  | .d (.tup l) => some l
  | .d (.lst l) => some l
  | .ls .own _ => none
  | .ls _ l => some l
  | _ => none
section
variable {K : PySem.W.Frag} {H0 H : Hp} {A m : List Addr} {x : Ev} {v : V} {l : List D}
theorem lstOf_at (h : lstOf x = some l) (r : EvR K H0 A m H x v) : ∃ a vs, v = .ref a ∧ H a = some (.lst vs) ∧ Rps K A m H l vs := by
  unfold lstOf at h
  split at h
  · cases h; obtain ⟨a, vs, e, hl, _, q⟩ := r; exact ⟨a, vs, e, hl, q⟩
  · cases h
  · rename_i md l' _
    cases h
    cases md with
    | vw => obtain ⟨a, vs, e, hl, _, _, q⟩ := r; exact ⟨a, vs, e, hl, q⟩
    | pv => obtain ⟨a, vs, e, hl, _, _, q⟩ := r; exact ⟨a, vs, e, hl, q⟩
    | own => exact r.elim
  · cases h
theorem tupOf_at (h : tupOf x = some l) (r : EvR K H0 A m H x v) : ∃ a vs, v = .ref a ∧ SqT K H a vs ∧ Rps K A m H l vs := by
  unfold tupOf at h
  split at h
  · cases h; obtain ⟨a, vs, e, hs, q⟩ := r; exact ⟨a, vs, e, SqT.of hs, q⟩
  · cases h
theorem seqOf_at (h : seqOf x = some l) (r : EvR K H0 A m H x v) : ∃ a vs, v = .ref a ∧ (SqL K H a vs ∨ SqT K H a vs) ∧ Rps K A m H l vs := by
  unfold seqOf at h
  split at h
  · cases h; obtain ⟨a, vs, e, hl, q⟩ := r; exact ⟨a, vs, e, .inr (SqT.of hl), q⟩
  · cases h; obtain ⟨a, vs, e, hl, _, q⟩ := r; exact ⟨a, vs, e, .inl (SqL.of hl), q⟩
  · cases h
  · rename_i md l' _
    cases h
    cases md with
    | vw => obtain ⟨a, vs, e, hl, _, _, q⟩ := r; exact ⟨a, vs, e, .inl (SqL.of hl), q⟩
    | pv => obtain ⟨a, vs, e, hl, _, _, q⟩ := r; exact ⟨a, vs, e, .inl (SqL.of hl), q⟩
    | own => exact r.elim
  · cases h
end
/-- as many as a list may have here -/
def most : Nat := 1000000
theorem most_line {n : Nat} (h : n ≤ most) : n ≤ sizeLine := by rw [sizeLine_eq]; unfold most at h; omega
/-- two ints -/
def opI2 (c : Int → Int → Prop) [∀ i j, Decidable (c i j)] (g : Int → Int → D) (a b : Ev) (M : Mem) : R Ev := match a, b with
  | .d (.int i), .d (.int j) => if c i j then .ok (.d (g i j)) M else .stuck
  | _, _ => .stuck
theorem opI2_ok {C : Cf} {c : Int → Int → Prop} [∀ i j, Decidable (c i j)] {g : Int → Int → D} {g' : Int → Int → V} (hg : ∀ A m H i j, Rp C.K A m H (g i j) (g' i j)) : OpOk C (opI2 c g) (rI c g') := by
  intro H0 A m M H ρ σ P x y v w Q F rx ry h
  unfold opI2 at h
  split at h
  · rename_i i j
    split at h
    · rename_i hc
      exact ⟨i, j, rx, ry, hc, h.fin F (hg A m H i j)⟩
    · exact h.elim
  · exact h.elim
theorem OpOk.orL {C : Cf} {op op' : Ev → Ev → Mem → R Ev} {r r' : R2} {p : Ev → Ev → Bool} (h : OpOk C op r) (h' : OpOk C op' r') : OpOk C (fun a b M => if p a b = true then op a b M else op' a b M) (fun x y H Q => r x y H Q ∨ r' x y H Q) := by
  intro H0 A m M H ρ σ P x y v w Q F rx ry q
  have q' : PX C m σ (EvR C.K H0 A m) H (if p x y = true then op x y M else op' x y M) Q := q
  split at q'
  · exact .inl (h H0 A m M H ρ σ P x y v w Q F rx ry q')
  · exact .inr (h' H0 A m M H ρ σ P x y v w Q F rx ry q')
theorem rI_of0 {C : Int → Int → Prop} {g : Int → Int → V} {x y : V} {H : Hp} {Q : VK} (h : rI C g x y H Q) : rI0 g x y H Q := by
  obtain ⟨i, j, e1, e2, _, q⟩ := h
  exact ⟨i, j, e1, e2, q⟩
def isI : Ev → Bool
  | .d (.int _) => true
  | _ => false
def isS : Ev → Bool
  | .d (.str _) => true
  | _ => false
def isT : Ev → Bool
  | .d (.tup _) => true
  | _ => false
/-! + -/
def opAddS (a b : Ev) (M : Mem) : R Ev := match a, b with
  | .d (.str s), .d (.str t) => if s.length + t.length ≤ most then .ok (.d (.str (s ++ t))) M else .stuck
  | _, _ => .stuck
def opAddT (a b : Ev) (M : Mem) : R Ev := match a, b with
  | .d (.tup s), .d (.tup t) => if s.length + t.length ≤ most then .ok (.d (.tup (s ++ t))) M else .stuck
  | _, _ => .stuck
def opAddL (a b : Ev) (M : Mem) : R Ev := match lstOf a, lstOf b with
  | some s, some t => if s.length + t.length ≤ most then .ok (.d (.lst (s ++ t))) M else .stuck
  | _, _ => .stuck
def opAdd (a b : Ev) (M : Mem) : R Ev := match a, b with
  | .d (.int i), .d (.int j) => .ok (iv (i + j)) M
  | .d (.str s), .d (.str t) => opAddS (.d (.str s)) (.d (.str t)) M
  | .d (.tup s), .d (.tup t) => opAddT (.d (.tup s)) (.d (.tup t)) M
  | a, b => opAddL a b M
def rAddA (K : PySem.W.Frag) : R2 := fun x y H Q => rI0 (fun i j => .int (i + j)) x y H Q ∨ (∃ i j, x = .str i ∧ y = .str j ∧ i.length + j.length ≤ sizeLine ∧ Q (.str (i ++ j)) H) ∨ rCatA K x y H Q ∨ rCat x y H Q
theorem op_addA {X : Cx} : OpR X (binaryOp .Add) (rAddA X.K) := op_add.or (op_add_str.or (op_catA.or op_cat))
theorem ok_addS {C : Cf} : OpOk C opAddS (fun x y H Q => ∃ i j, x = .str i ∧ y = .str j ∧ i.length + j.length ≤ sizeLine ∧ Q (.str (i ++ j)) H) := by
  intro H0 A m M H ρ σ P x y v w Q F rx ry h
  unfold opAddS at h
  split at h
  · rename_i s t
    split at h
    · rename_i hc
      exact ⟨s, t, rx, ry, most_line hc, h.fin F rfl⟩
    · exact h.elim
  · exact h.elim
theorem SqT.of' {K : PySem.W.Frag} {H : Hp} {p : Addr} {vs : List V} : SqT K (upd H p (.tup vs)) p vs := SqT.of upd_same
theorem ok_addT {C : Cf} : OpOk C opAddT (rCatA C.K) := by
  intro H0 A m M H ρ σ P x y v w Q F rx ry h
  unfold opAddT at h
  split at h
  · rename_i s t
    split at h
    · rename_i hc
      obtain ⟨a, vs, e, hs, r1⟩ := rx
      obtain ⟨b, ws, e2, ht, r2⟩ := ry
      refine ⟨a, b, vs, ws, e, e2, SqT.of hs, SqT.of ht, by rw [Rps.len r1, Rps.len r2]; exact most_line hc, fun z => ?_, fun _ z => ?_, fun _ _ p hp => ?_⟩
      · have q : Rps C.K A m H (s ++ t) (vs ++ ws) := Rps.app r1 r2
        rw [z, List.nil_append] at q
        exact h.fin F ⟨b, ws, rfl, ht, q⟩
      · have q : Rps C.K A m H (s ++ t) (vs ++ ws) := Rps.app r1 r2
        rw [z, List.append_nil] at q
        exact h.fin F ⟨a, vs, rfl, hs, q⟩
      · exact h.made F hp ⟨p, vs ++ ws, rfl, upd_same, (Rps.app r1 r2).grow hp⟩
    · exact h.elim
  · exact h.elim
/-- a new list that stands still -/
theorem newL {C : Cf} {H0 H : Hp} {A m : List Addr} {M : Mem} {ρ : Env} {σ : L2.St} {P : List Addr} {l : List D} {vs : List V} {p : Addr} (F : FR C H0 A m M H ρ σ P) (hp : H p = none) (r : Rps C.K A m H l vs) :
    Rp C.K A m (upd H p (.lst vs)) (.lst l) (.ref p) := ⟨p, vs, rfl, upd_same, F.new hp, r.grow hp⟩
theorem newT {C : Cf} {H : Hp} {A m : List Addr} {l : List D} {vs : List V} {p : Addr} (hp : H p = none) (r : Rps C.K A m H l vs) :
    Rp C.K A m (upd H p (.tup vs)) (.tup l) (.ref p) := ⟨p, vs, rfl, upd_same, r.grow hp⟩
theorem ok_addL {C : Cf} : OpOk C opAddL rCat := by
  intro H0 A m M H ρ σ P x y v w Q F rx ry h
  unfold opAddL at h
  cases e1 : lstOf x with
  | none => rw [e1] at h; exact h.elim
  | some s =>
    cases e2 : lstOf y with
    | none => rw [e1, e2] at h; exact h.elim
    | some t =>
      rw [e1, e2] at h
      obtain ⟨a, vs, e, hs, r1⟩ := lstOf_at e1 rx
      obtain ⟨b, ws, e', ht, r2⟩ := lstOf_at e2 ry
      have h' : PX C m σ (EvR C.K H0 A m) H (if s.length + t.length ≤ most then .ok (.d (.lst (s ++ t))) M else .stuck) Q := h
      split at h'
      · rename_i hc
        exact ⟨a, b, vs, ws, e, e', hs, ht, by rw [Rps.len r1, Rps.len r2]; exact most_line hc, fun p hp => h'.made F hp (newL F hp (Rps.app r1 r2))⟩
      · exact h'.elim
theorem ok_add {C : Cf} : OpOk C opAdd (rAddA C.K) := by
  intro H0 A m M H ρ σ P x y v w Q F rx ry h
  unfold opAdd at h
  split at h
  · rename_i i j
    exact .inl ⟨i, j, rx, ry, h.fin F rfl⟩
  · exact .inr (.inl (ok_addS H0 A m M H ρ σ P _ _ v w Q F rx ry h))
  · exact .inr (.inr (.inl (ok_addT H0 A m M H ρ σ P _ _ v w Q F rx ry h)))
  · exact .inr (.inr (.inr (ok_addL H0 A m M H ρ σ P _ _ v w Q F rx ry h)))
/-! - * // % ** << >> & | ^ -/
abbrev opSub : Ev → Ev → Mem → R Ev := opI2 (fun _ _ => True) (fun i j => .int (i - j))
theorem op_subT {X : Cx} : OpR X (binaryOp .Sub) (rI (fun _ _ => True) fun i j => .int (i - j)) := fun pins s σ H x y v u Q I rx ry h => op_sub pins s σ H x y v u Q I rx ry (rI_of0 h)
theorem ok_sub {C : Cf} : OpOk C opSub (rI (fun _ _ => True) fun i j => .int (i - j)) := opI2_ok fun _ _ _ _ _ => rfl
def cMul (i j : Int) : Prop := Builtin.Int.intBits i + Builtin.Int.intBits j ≤ 134217728
instance (i j : Int) : Decidable (cMul i j) := by unfold cMul; infer_instance
theorem op_mulI {X : Cx} : OpR X (binaryOp .Mult) (rI cMul fun i j => .int (i * j)) := fun pins s σ H x y v u Q I rx ry h => by
  obtain ⟨i, j, e1, e2, c, q⟩ := h
  refine op_mulX pins s σ H x y v u Q I rx ry ⟨i, j, e1, e2, ?_, q⟩
  unfold CMulX; unfold cMul at c; omega
/-- a list so often -/
def opMulL (a b : Ev) (M : Mem) : R Ev := match lstOf a, b with
  | some l, .d (.int k) => if -1000000 ≤ k ∧ k ≤ 1000000 ∧ l.length * k.toNat ≤ most then .ok (.d (.lst (List.replicate k.toNat l).flatten)) M else .stuck
  | _, _ => .stuck
theorem ok_mulL {C : Cf} : OpOk C opMulL rRep := by
  intro H0 A m M H ρ σ P x y v w Q F rx ry h
  unfold opMulL at h
  split at h
  · rename_i l k e1
    obtain ⟨a, vs, e, hs, r1⟩ := lstOf_at e1 rx
    split at h
    · rename_i hc
      exact ⟨a, k, vs, e, ry, hs, by omega, by omega, by rw [Rps.len r1]; exact most_line hc.2.2, fun p hp => h.made F hp (newL F hp (Rps.rep r1 _))⟩
    · exact h.elim
  · exact h.elim
def opMul (a b : Ev) (M : Mem) : R Ev := match a, b with
  | .d (.int i), .d (.int j) => if cMul i j then .ok (iv (i * j)) M else .stuck
  | a, b => opMulL a b M
theorem op_mulA {X : Cx} : OpR X (binaryOp .Mult) (fun x y H Q => rI cMul (fun i j => .int (i * j)) x y H Q ∨ rRep x y H Q) := op_mulI.or op_rep
theorem ok_mul {C : Cf} : OpOk C opMul (fun x y H Q => rI cMul (fun i j => .int (i * j)) x y H Q ∨ rRep x y H Q) := by
  intro H0 A m M H ρ σ P x y v w Q F rx ry h
  unfold opMul at h
  split at h
  · rename_i i j
    split at h
    · rename_i hc
      exact .inl ⟨i, j, rx, ry, hc, h.fin F rfl⟩
    · exact h.elim
  · exact .inr (ok_mulL H0 A m M H ρ σ P _ _ v w Q F rx ry h)
def cDiv (_ j : Int) : Prop := 0 < j ∧ j.natAbs.log2 < 9000
instance (i j : Int) : Decidable (cDiv i j) := by unfold cDiv; infer_instance
def cDivN (_ j : Int) : Prop := j < 0 ∧ j.natAbs < 1073741824
instance (i j : Int) : Decidable (cDivN i j) := by unfold cDivN; infer_instance
def opDiv (a b : Ev) (M : Mem) : R Ev := match a, b with
  | .d (.int i), .d (.int j) => if cDiv i j then .ok (iv (i / j)) M else if cDivN i j then .ok (iv (i.fdiv j)) M else .stuck
  | _, _ => .stuck
theorem op_divA {X : Cx} : OpR X (binaryOp .FloorDiv) (fun x y H Q => rI CDivW (fun i j => .int (i / j)) x y H Q ∨ rI CDivN (fun i j => .int (i.fdiv j)) x y H Q) := op_fdivW.or op_fdivN
theorem ok_div {C : Cf} : OpOk C opDiv (fun x y H Q => rI CDivW (fun i j => .int (i / j)) x y H Q ∨ rI CDivN (fun i j => .int (i.fdiv j)) x y H Q) := by
  intro H0 A m M H ρ σ P x y v w Q F rx ry h
  unfold opDiv at h
  split at h
  · rename_i i j
    split at h
    · rename_i hc
      exact .inl ⟨i, j, rx, ry, hc, h.fin F rfl⟩
    · split at h
      · rename_i hc
        exact .inr ⟨i, j, rx, ry, ⟨by unfold cDivN at hc; omega, hc.2⟩, h.fin F rfl⟩
      · exact h.elim
  · exact h.elim
def opMod (a b : Ev) (M : Mem) : R Ev := match a, b with
  | .d (.int i), .d (.int j) => if 0 < j then .ok (iv (i % j)) M else if j ≠ 0 then .ok (iv (i.fmod j)) M else .stuck
  | _, _ => .stuck
theorem op_modA {X : Cx} : OpR X (binaryOp .Mod) (fun x y H Q => rI (fun _ j => 0 < j) (fun i j => .int (i % j)) x y H Q ∨ rI (fun _ j => j ≠ 0) (fun i j => .int (i.fmod j)) x y H Q) := op_mod.or op_modN
theorem ok_mod {C : Cf} : OpOk C opMod (fun x y H Q => rI (fun _ j => 0 < j) (fun i j => .int (i % j)) x y H Q ∨ rI (fun _ j => j ≠ 0) (fun i j => .int (i.fmod j)) x y H Q) := by
  intro H0 A m M H ρ σ P x y v w Q F rx ry h
  unfold opMod at h
  split at h
  · rename_i i j
    split at h
    · rename_i hc
      exact .inl ⟨i, j, rx, ry, hc, h.fin F rfl⟩
    · split at h
      · rename_i hc
        exact .inr ⟨i, j, rx, ry, hc, h.fin F rfl⟩
      · exact h.elim
  · exact h.elim
instance (i j : Int) : Decidable (CPow i j) := by unfold CPow; infer_instance
abbrev opPow : Ev → Ev → Mem → R Ev := opI2 CPow (fun i j => .int (i ^ j.toNat))
theorem ok_pow {C : Cf} : OpOk C opPow (rI CPow fun i j => .int (i ^ j.toNat)) := opI2_ok fun _ _ _ _ _ => rfl
instance (i j : Int) : Decidable (CShl i j) := by unfold CShl; infer_instance
abbrev opShl : Ev → Ev → Mem → R Ev := opI2 CShl (fun i j => .int (i * 2 ^ j.toNat))
theorem ok_shl {C : Cf} : OpOk C opShl (rI CShl fun i j => .int (i * 2 ^ j.toNat)) := opI2_ok fun _ _ _ _ _ => rfl
abbrev opShr : Ev → Ev → Mem → R Ev := opI2 (fun _ j => 0 ≤ j) (fun i j => .int (i / 2 ^ j.toNat))
theorem ok_shr {C : Cf} : OpOk C opShr (rI (fun _ j => 0 ≤ j) fun i j => .int (i / 2 ^ j.toNat)) := opI2_ok fun _ _ _ _ _ => rfl
abbrev opAnd : Ev → Ev → Mem → R Ev := opI2 (fun _ _ => True) (fun i j => .int (Builtin.bitAnd i j))
abbrev opOr : Ev → Ev → Mem → R Ev := opI2 (fun _ _ => True) (fun i j => .int (Builtin.bitOr i j))
abbrev opXor : Ev → Ev → Mem → R Ev := opI2 (fun _ _ => True) (fun i j => .int (Builtin.bitXor i j))
theorem op_of0 {X : Cx} {f : Value → Value → Sem Value} {g : Int → Int → V} (h : OpR X f (rI0 g)) : OpR X f (rI (fun _ _ => True) g) := fun pins s σ H x y v u Q I rx ry q => h pins s σ H x y v u Q I rx ry (rI_of0 q)
theorem ok_and {C : Cf} : OpOk C opAnd (rI (fun _ _ => True) fun i j => .int (Builtin.bitAnd i j)) := opI2_ok fun _ _ _ _ _ => rfl
theorem ok_or {C : Cf} : OpOk C opOr (rI (fun _ _ => True) fun i j => .int (Builtin.bitOr i j)) := opI2_ok fun _ _ _ _ _ => rfl
theorem ok_xor {C : Cf} : OpOk C opXor (rI (fun _ _ => True) fun i j => .int (Builtin.bitXor i j)) := opI2_ok fun _ _ _ _ _ => rfl
section
variable {X : Cx} {T : List (Addr × Str)} {W : WX} {a b c : Expr} {f g h : Sm Ev} {pos : Pos}
theorem de_op {op : Operator} {o : Ev → Ev → Mem → R Ev} {r : R2} (h1 : OpR X (binaryOp op) r) (h2 : OpOk (cf X T W) o r) (ha : PE X a (tE (cf X T W) f)) (hb : PE X b (tE (cf X T W) g)) : PE X (.BinOp a op b pos) (tE (cf X T W) (eBin o f g)) :=
  ⟨fun pins s σ H Q I q => (pe_op h1 ha hb).run pins s σ H Q I (tE_bin h2 q)⟩
theorem de_add (ha : PE X a (tE (cf X T W) f)) (hb : PE X b (tE (cf X T W) g)) : PE X (.BinOp a .Add b pos) (tE (cf X T W) (eBin opAdd f g)) := de_op op_addA ok_add ha hb
theorem de_sub (ha : PE X a (tE (cf X T W) f)) (hb : PE X b (tE (cf X T W) g)) : PE X (.BinOp a .Sub b pos) (tE (cf X T W) (eBin opSub f g)) := de_op op_subT ok_sub ha hb
theorem de_mul (ha : PE X a (tE (cf X T W) f)) (hb : PE X b (tE (cf X T W) g)) : PE X (.BinOp a .Mult b pos) (tE (cf X T W) (eBin opMul f g)) := de_op op_mulA ok_mul ha hb
theorem de_div (ha : PE X a (tE (cf X T W) f)) (hb : PE X b (tE (cf X T W) g)) : PE X (.BinOp a .FloorDiv b pos) (tE (cf X T W) (eBin opDiv f g)) := de_op op_divA ok_div ha hb
theorem de_mod (ha : PE X a (tE (cf X T W) f)) (hb : PE X b (tE (cf X T W) g)) : PE X (.BinOp a .Mod b pos) (tE (cf X T W) (eBin opMod f g)) := de_op op_modA ok_mod ha hb
theorem de_pow (ha : PE X a (tE (cf X T W) f)) (hb : PE X b (tE (cf X T W) g)) : PE X (.BinOp a .Pow b pos) (tE (cf X T W) (eBin opPow f g)) := de_op op_pow ok_pow ha hb
theorem de_shl (ha : PE X a (tE (cf X T W) f)) (hb : PE X b (tE (cf X T W) g)) : PE X (.BinOp a .LShift b pos) (tE (cf X T W) (eBin opShl f g)) := de_op op_shlW ok_shl ha hb
theorem de_shr (ha : PE X a (tE (cf X T W) f)) (hb : PE X b (tE (cf X T W) g)) : PE X (.BinOp a .RShift b pos) (tE (cf X T W) (eBin opShr f g)) := de_op op_shr ok_shr ha hb
theorem de_band (ha : PE X a (tE (cf X T W) f)) (hb : PE X b (tE (cf X T W) g)) : PE X (.BinOp a .BitAnd b pos) (tE (cf X T W) (eBin opAnd f g)) := de_op (op_of0 op_and) ok_and ha hb
theorem de_bor (ha : PE X a (tE (cf X T W) f)) (hb : PE X b (tE (cf X T W) g)) : PE X (.BinOp a .BitOr b pos) (tE (cf X T W) (eBin opOr f g)) := de_op (op_of0 op_or) ok_or ha hb
theorem de_bxor (ha : PE X a (tE (cf X T W) f)) (hb : PE X b (tE (cf X T W) g)) : PE X (.BinOp a .BitXor b pos) (tE (cf X T W) (eBin opXor f g)) := de_op (op_of0 op_xor) ok_xor ha hb
/-! -a, ~a -/
def eUn (o : Ev → Mem → R Ev) (f : Sm Ev) : Sm Ev := fun ρ M => bnd (f ρ M) fun a M1 => o a M1
def unNeg (a : Ev) (M : Mem) : R Ev := match a with
  | .d (.int i) => .ok (iv (-i)) M
  | _ => .stuck
def unInv (a : Ev) (M : Mem) : R Ev := match a with
  | .d (.int i) => .ok (iv (Builtin.bitNot i)) M
  | _ => .stuck
theorem de_neg (ha : PE X a (tE (cf X T W) f)) : PE X (.UnaryOp .USub a pos) (tE (cf X T W) (eUn unNeg f)) := by
  refine ⟨fun pins s σ H Q I q => (pe_un un_neg ha).run pins s σ H Q I ?_⟩
  obtain ⟨H0, A, m, M, ρ, P, F, h⟩ := q
  refine sub F h fun a M1 H1 v F1 _ r1 h1 => ?_
  unfold unNeg at h1
  split at h1
  · rename_i i; exact ⟨i, r1, h1.fin F1 rfl⟩
  · exact h1.elim
theorem de_inv (ha : PE X a (tE (cf X T W) f)) : PE X (.UnaryOp .Invert a pos) (tE (cf X T W) (eUn unInv f)) := by
  refine ⟨fun pins s σ H Q I q => (pe_un un_inv ha).run pins s σ H Q I ?_⟩
  obtain ⟨H0, A, m, M, ρ, P, F, h⟩ := q
  refine sub F h fun a M1 H1 v F1 _ r1 h1 => ?_
  unfold unInv at h1
  split at h1
  · rename_i i; exact ⟨i, r1, h1.fin F1 rfl⟩
  · exact h1.elim
end
end DL

set_option Elab.async false
set_option linter.all false
set_option maxRecDepth 100000
set_option maxHeartbeats 2000000
/-! The data layer: comparisons, tests, and, or, not. -/
namespace DL
open PySem PySem.Spec PyProof.Rows L2
/-! ### a value as plain data -/
mutual
def D.py : D → PyData
  | .non => .none
  | .bl b => .bool b
  | .int i => .int i
  | .str s => .str s
  | .tup l => .tuple (D.pyL l)
  | .lst l => .list (D.pyL l)
  | _ => .dict []
def D.pyL : List D → List PyData
  | [] => []
  | d :: l => D.py d :: D.pyL l
end
def Ev.py : Ev → PyData
  | .d x => x.py
  | .ls _ l => .list (D.pyL l)
  | _ => .dict []
section
variable {K : PySem.W.Frag} {H0 H : Hp} {A m : List Addr}
mutual
theorem dp_of : ∀ (d : D) (v : V), d.py.canLay0 = true → Rp K A m H d v → Dp K H v d.py
  | .non, _, _, h => by cases (show _ = V.non from h); exact .non
  | .bl b, _, _, h => by cases (show _ = V.bl b from h); exact .bl b
  | .int i, _, _, h => by cases (show _ = V.int i from h); exact .int i
  | .str s, _, _, h => by cases (show _ = V.str s from h); exact .str s
  | .tup l, _, c, ⟨a, vs, e, hs, r⟩ => by cases e; exact .tup (SqT.of hs) (dp_ofL l vs c r)
  | .lst l, _, c, ⟨a, vs, e, hs, _, r⟩ => by cases e; exact .lst (SqL.of hs) (dp_ofL l vs c r)
  | .ty _, _, c, _ => by cases c
  | .at _, _, c, _ => by cases c
  | .ob _, _, c, _ => by cases c
  | .sc _, _, c, _ => by cases c
  | .dK _ _, _, c, _ => by cases c
  | .dT _ _, _, c, _ => by cases c
theorem dp_ofL : ∀ (l : List D) (vs : List V), PyData.canLayAll0 (D.pyL l) = true → Rps K A m H l vs → DpAll K H vs (D.pyL l)
  | [], _, _, h => by cases (show _ = [] from h); exact .nil
  | d :: l, _, c, ⟨v, r, e, h1, h2⟩ => by
    cases e
    have c' : (d.py.canLay0 && PyData.canLayAll0 (D.pyL l)) = true := c
    rw [Bool.and_eq_true] at c'
    exact .cons (dp_of d v c'.1 h1) (dp_ofL l r c'.2 h2)
end
theorem dp_ofE {x : Ev} {v : V} (c : x.py.canLay0 = true) (r : EvR K H0 A m H x v) : Dp K H v x.py := by
  cases x with
  | d x => exact dp_of x v c r
  | ls md l =>
    cases md with
    | vw => obtain ⟨a, vs, e, hl, _, _, q⟩ := r; cases e; exact .lst (SqL.of hl) (dp_ofL l vs c q)
    | pv => obtain ⟨a, vs, e, hl, _, _, q⟩ := r; cases e; exact .lst (SqL.of hl) (dp_ofL l vs c q)
    | own => exact r.elim
  | rw _ _ => cases c
  | dk _ _ _ => cases c
  | dt _ _ _ => cases c
end
/-! ### ==, != -/
def eqR (a b : Ev) : Option Bool := match a, b with
  | .d (.int i), .d (.int j) => some (decide (i = j))
  | .d (.str i), .d (.str j) => some (decide (i = j))
  | a, b => if SeqAt.shaped a.py = true ∧ SeqAt.shaped b.py = true then some (PyData.eqv a.py b.py) else none
def opEq (neg : Bool) (a b : Ev) (M : Mem) : R Ev := match eqR a b with
  | some k => .ok (bv (if neg then !k else k)) M
  | none => .stuck
theorem ok_eq {C : Cf} : OpOk C (opEq false) (fun x y H Q => rEq x y H Q ∨ rEqD C.K x y H Q) := by
  intro H0 A m M H ρ σ P x y v w Q F rx ry h
  unfold opEq eqR at h
  split at h
  · rename_i k hk
    split at hk
    · rename_i i j
      cases hk
      cases (show v = V.int i from rx); cases (show w = V.int j from ry)
      refine .inl ⟨rfl, ?_⟩
      have e : decide ((V.int i) = V.int j) = decide (i = j) := by simp
      rw [e]; exact h.fin F rfl
    · rename_i i j
      cases hk
      cases (show v = V.str i from rx); cases (show w = V.str j from ry)
      refine .inl ⟨rfl, ?_⟩
      have e : decide ((V.str i) = V.str j) = decide (i = j) := by simp
      rw [e]; exact h.fin F rfl
    · split at hk
      · rename_i hc
        cases hk
        exact .inr ⟨_, _, dp_ofE (SeqAt.canLay_of_shaped hc.1) rx, dp_ofE (SeqAt.canLay_of_shaped hc.2) ry, hc.1, hc.2, h.fin F rfl⟩
      · cases hk
  · exact h.elim
theorem ok_ne {C : Cf} : OpOk C (opEq true) (fun x y H Q => rNe x y H Q ∨ rNeD C.K x y H Q) := by
  intro H0 A m M H ρ σ P x y v w Q F rx ry h
  unfold opEq eqR at h
  split at h
  · rename_i k hk
    split at hk
    · rename_i i j
      cases hk
      cases (show v = V.int i from rx); cases (show w = V.int j from ry)
      refine .inl ⟨rfl, ?_⟩
      have e : (!decide ((V.int i) = V.int j)) = (!decide (i = j)) := by simp
      rw [e]; exact h.fin F rfl
    · rename_i i j
      cases hk
      cases (show v = V.str i from rx); cases (show w = V.str j from ry)
      refine .inl ⟨rfl, ?_⟩
      have e : (!decide ((V.str i) = V.str j)) = (!decide (i = j)) := by simp
      rw [e]; exact h.fin F rfl
    · split at hk
      · rename_i hc
        cases hk
        exact .inr ⟨_, _, dp_ofE (SeqAt.canLay_of_shaped hc.1) rx, dp_ofE (SeqAt.canLay_of_shaped hc.2) ry, hc.1, hc.2, h.fin F rfl⟩
      · cases hk
  · exact h.elim
/-! ### < <= > >= -/
def toInts : List D → Option (List Int)
  | [] => some []
  | .int i :: l => (toInts l).map (i :: ·)
  | _ => none
theorem toInts_map : ∀ {l : List D} {ns : List Int}, toInts l = some ns → l = ns.map D.int
  | [], _, h => by cases h; rfl
  | .int i :: l, ns, h => by
    unfold toInts at h
    cases e : toInts l with
    | none => rw [e] at h; cases h
    | some r => rw [e] at h; cases h; rw [toInts_map e]; rfl
  | .non :: _, _, h => by cases h
  | .bl _ :: _, _, h => by cases h
  | .str _ :: _, _, h => by cases h
  | .ty _ :: _, _, h => by cases h
  | .at _ :: _, _, h => by cases h
  | .ob _ :: _, _, h => by cases h
  | .sc _ :: _, _, h => by cases h
  | .tup _ :: _, _, h => by cases h
  | .lst _ :: _, _, h => by cases h
  | .dK _ _ :: _, _, h => by cases h
  | .dT _ _ :: _, _, h => by cases h
theorem toInts_ints : ∀ (ns : List Int), toInts (ns.map D.int) = some ns
  | [] => rfl
  | n :: ns => by rw [List.map_cons]; unfold toInts; rw [toInts_ints ns]; rfl
def opLt (a b : Ev) (M : Mem) : R Ev := match a, b with
  | .d (.int i), .d (.int j) => .ok (bv (decide (i < j))) M
  | .d (.str i), .d (.str j) => .ok (bv (decide (i.cps.toList < j.cps.toList))) M
  | .d (.tup s), .d (.tup t) => match toInts s, toInts t with
    | some ns, some ms => .ok (bv (HT.lexLt ns ms)) M
    | _, _ => .stuck
  | _, _ => .stuck
theorem ok_lt {C : Cf} : OpOk C opLt (fun x y H Q => rI0 (fun i j => .bl (decide (i < j))) x y H Q ∨ (∃ i j, x = .str i ∧ y = .str j ∧ Q (.bl (decide (i.cps.toList < j.cps.toList))) H) ∨ rLtT C.K x y H Q) := by
  intro H0 A m M H ρ σ P x y v w Q F rx ry h
  unfold opLt at h
  split at h
  · rename_i i j; exact .inl ⟨i, j, rx, ry, h.fin F rfl⟩
  · rename_i i j; exact .inr (.inl ⟨i, j, rx, ry, h.fin F rfl⟩)
  · rename_i s t
    split at h
    · rename_i ns ms e1 e2
      have es := toInts_map e1
      have et := toInts_map e2
      subst es; subst et
      obtain ⟨a, vs, e, hs, r1⟩ := rx
      obtain ⟨b, ws, e', ht, r2⟩ := ry
      rw [Rps.ints r1] at hs
      rw [Rps.ints r2] at ht
      exact .inr (.inr ⟨a, b, ns, ms, e, e', SqT.of hs, SqT.of ht, h.fin F rfl⟩)
    · exact h.elim
  · exact h.elim
abbrev opLe : Ev → Ev → Mem → R Ev := opI2 (fun _ _ => True) (fun i j => .bl (decide (i ≤ j)))
abbrev opGt : Ev → Ev → Mem → R Ev := opI2 (fun _ _ => True) (fun i j => .bl (decide (j < i)))
abbrev opGe : Ev → Ev → Mem → R Ev := opI2 (fun _ _ => True) (fun i j => .bl (decide (j ≤ i)))
theorem ok_le {C : Cf} : OpOk C opLe (rI (fun _ _ => True) fun i j => .bl (decide (i ≤ j))) := opI2_ok fun _ _ _ _ _ => rfl
theorem ok_gt {C : Cf} : OpOk C opGt (rI (fun _ _ => True) fun i j => .bl (decide (j < i))) := opI2_ok fun _ _ _ _ _ => rfl
theorem ok_ge {C : Cf} : OpOk C opGe (rI (fun _ _ => True) fun i j => .bl (decide (j ≤ i))) := opI2_ok fun _ _ _ _ _ => rfl
/-! ### is None, is True -/
def isNon : Ev → Bool
  | .d .non => true
  | _ => false
def isB : Ev → Option Bool
  | .d (.bl b) => some b
  | _ => none
def opIs (neg : Bool) (a b : Ev) (M : Mem) : R Ev := match b with
  | .d .non => .ok (bv (if neg then !isNon a else isNon a)) M
  | .d (.bl c) => match isB a with
    | some k => .ok (bv (if neg then !decide (k = c) else decide (k = c))) M
    | none => .stuck
  | _ => .stuck
theorem isNon_rel {K : PySem.W.Frag} {H0 H : Hp} {A m : List Addr} {x : Ev} {v : V} (r : EvR K H0 A m H x v) : decide (v = V.non) = isNon x := by
  cases x with
  | d x =>
    cases x with
    | non => cases (show v = V.non from r); rfl
    | bl b => cases (show v = V.bl b from r); rfl
    | int b => cases (show v = V.int b from r); rfl
    | str b => cases (show v = V.str b from r); rfl
    | ty b => cases (show v = V.ty b from r); rfl
    | «at» b => cases (show v = V.ref b from r); rfl
    | ob b => obtain ⟨a, _, e⟩ := r; cases e; rfl
    | sc b => obtain ⟨a, e, _⟩ := r; cases e; rfl
    | tup l => obtain ⟨a, vs, e, _⟩ := r; cases e; rfl
    | lst l => obtain ⟨a, vs, e, _⟩ := r; cases e; rfl
    | dK ks l => obtain ⟨a, vs, e, _⟩ := r; cases e; rfl
    | dT ks l => obtain ⟨a, vs, e, _⟩ := r; cases e; rfl
  | ls md l => cases md <;> first | exact r.elim | (obtain ⟨a, vs, e, _⟩ := r; cases e; rfl)
  | rw md l => cases md <;> first | exact r.elim | (obtain ⟨a, vs, e, _⟩ := r; cases e; rfl)
  | dk md ks l => cases md <;> first | exact r.elim | (obtain ⟨a, vs, e, _⟩ := r; cases e; rfl)
  | dt md ks l => cases md <;> first | exact r.elim | (obtain ⟨a, vs, e, _⟩ := r; cases e; rfl)
theorem isB_rel {K : PySem.W.Frag} {H0 H : Hp} {A m : List Addr} {x : Ev} {v : V} {k : Bool} (e : isB x = some k) (r : EvR K H0 A m H x v) : v = .bl k := by
  unfold isB at e
  split at e
  · cases e; exact r
  · cases e
def rIs : R2 := fun x y H Q => (y = .non ∧ Q (.bl (decide (x = .non))) H) ∨ rIsB x y H Q
def rIsNot : R2 := fun x y H Q => (y = .non ∧ Q (.bl (!decide (x = .non))) H) ∨ rNotB x y H Q
theorem op_isA {X : Cx} : OpR X (compareOp .Is) rIs := op_isN.or op_isBl
theorem op_isnotA {X : Cx} : OpR X (compareOp .IsNot) rIsNot := op_notN.or op_notBl
theorem ok_is {C : Cf} : OpOk C (opIs false) rIs := by
  intro H0 A m M H ρ σ P x y v w Q F rx ry h
  unfold opIs at h
  split at h
  · refine .inl ⟨ry, ?_⟩
    rw [isNon_rel rx]; exact h.fin F rfl
  · rename_i c
    split at h
    · rename_i k hk
      exact .inr ⟨k, c, isB_rel hk rx, ry, h.fin F rfl⟩
    · exact h.elim
  · exact h.elim
theorem ok_isnot {C : Cf} : OpOk C (opIs true) rIsNot := by
  intro H0 A m M H ρ σ P x y v w Q F rx ry h
  unfold opIs at h
  split at h
  · refine .inl ⟨ry, ?_⟩
    rw [isNon_rel rx]; exact h.fin F rfl
  · rename_i c
    split at h
    · rename_i k hk
      exact .inr ⟨k, c, isB_rel hk rx, ry, h.fin F rfl⟩
    · exact h.elim
  · exact h.elim
/-! ### the comparisons as values, as tests -/
section
variable {X : Cx} {T : List (Addr × Str)} {W : WX} {a b c : Expr} {f g h : Sm Ev} {pos : Pos}
theorem de_cmpR {op : CmpOp} {o : Ev → Ev → Mem → R Ev} {r : R2} (h1 : OpR X (compareOp op) r) (h2 : OpOk (cf X T W) o r) (ha : PE X a (tE (cf X T W) f)) (hb : PE X b (tE (cf X T W) g)) (hm : behindInMarks op b = false) : PE X (.Compare a [op] [b] pos) (tE (cf X T W) (eBin o f g)) :=
  ⟨fun pins s σ H Q I q => (pe_cmpR h1 ha hb hm).run pins s σ H Q I (tE_bin h2 q)⟩
/-- a value that is a truth, as one -/
def asB (r : R Ev) : R Bool := bnd r fun x M => match x with
  | .d (.bl b) => .ok b M
  | _ => .stuck
theorem bnd_bnd {α β γ : Type} (r : R α) (k : α → Mem → R β) (k' : β → Mem → R γ) : bnd (bnd r k) k' = bnd r fun a M => bnd (k a M) k' := by cases r <;> rfl
def tCmpE (o : Ev → Ev → Mem → R Ev) (f g : Sm Ev) : Sm Bool := fun ρ M => asB (eBin o f g ρ M)
theorem asB_run {C : Cf} {H0 H : Hp} {A m : List Addr} {M : Mem} {ρ : Env} {σ : L2.St} {P : List Addr} {f : Sm Ev} {Q : Bool → Hp → Prop} (F : FR C H0 A m M H ρ σ P) (h : PX C m σ (relB H0 A m) H (asB (f ρ M)) Q) :
    tE C f σ H fun x H1 => ∃ k, x = .bl k ∧ Q k H1 := by
  refine sub F h fun d M1 H1 v F1 _ r1 h1 => ?_
  split at h1
  · rename_i b; exact ⟨b, r1, h1.fin F1 rfl⟩
  · exact h1.elim
theorem dt_cmpR {op : CmpOp} {o : Ev → Ev → Mem → R Ev} {r : R2} (h1 : OpR X (compareOp op) r) (h2 : OpOk (cf X T W) o r) (ha : PE X a (tE (cf X T W) f)) (hb : PE X b (tE (cf X T W) g)) (hm : behindInMarks op b = false) : PT X (.Compare a [op] [b] pos) (tT (cf X T W) (tCmpE o f g)) := by
  refine ⟨fun pins s σ H Q I q => (pt_cmpR h1 ha hb hm).run pins s σ H Q I ?_⟩
  obtain ⟨H0, A, m, M, ρ, P, F, q⟩ := q
  exact tE_bin h2 (asB_run F q)
variable (hu : X.A.units + 64 < cLine)
include hu in
theorem op_eqA : OpR X (compareOp .Eq) (fun x y H Q => rEq x y H Q ∨ rEqD X.K x y H Q) := op_eq.or (op_eqD hu)
include hu in
theorem op_neA : OpR X (compareOp .NotEq) (fun x y H Q => rNe x y H Q ∨ rNeD X.K x y H Q) := op_ne.or (op_neD hu)
include hu in
theorem op_ltA : OpR X (compareOp .Lt) (fun x y H Q => rI0 (fun i j => .bl (decide (i < j))) x y H Q ∨ (∃ i j, x = .str i ∧ y = .str j ∧ Q (.bl (decide (i.cps.toList < j.cps.toList))) H) ∨ rLtT X.K x y H Q) := op_lt.or (op_lt_str.or (op_ltT (by omega)))
/-- what a comparison is worth -/
structure CmpIs (X : Cx) (T : List (Addr × Str)) (W : WX) (op : CmpOp) (o : Ev → Ev → Mem → R Ev) : Prop where
  ex : ∃ r, OpR X (compareOp op) r ∧ OpOk (cf X T W) o r
include hu in
theorem ci_eq : CmpIs X T W .Eq (opEq false) := ⟨_, op_eqA hu, ok_eq⟩
include hu in
theorem ci_ne : CmpIs X T W .NotEq (opEq true) := ⟨_, op_neA hu, ok_ne⟩
include hu in
theorem ci_lt : CmpIs X T W .Lt opLt := ⟨_, op_ltA hu, ok_lt⟩
theorem ci_le : CmpIs X T W .LtE opLe := ⟨_, op_of0 op_le, ok_le⟩
theorem ci_gt : CmpIs X T W .Gt opGt := ⟨_, op_of0 op_gt, ok_gt⟩
theorem ci_ge : CmpIs X T W .GtE opGe := ⟨_, op_of0 op_ge, ok_ge⟩
theorem ci_is : CmpIs X T W .Is (opIs false) := ⟨_, op_isA, ok_is⟩
theorem ci_isnot : CmpIs X T W .IsNot (opIs true) := ⟨_, op_isnotA, ok_isnot⟩
theorem de_cmp {op : CmpOp} {o : Ev → Ev → Mem → R Ev} (ci : CmpIs X T W op o) (ha : PE X a (tE (cf X T W) f)) (hb : PE X b (tE (cf X T W) g)) (hm : behindInMarks op b = false := by exact nomark _) : PE X (.Compare a [op] [b] pos) (tE (cf X T W) (eBin o f g)) := by
  obtain ⟨r, h1, h2⟩ := ci.ex
  exact de_cmpR h1 h2 ha hb hm
theorem dt_cmp {op : CmpOp} {o : Ev → Ev → Mem → R Ev} (ci : CmpIs X T W op o) (ha : PE X a (tE (cf X T W) f)) (hb : PE X b (tE (cf X T W) g)) (hm : behindInMarks op b = false := by exact nomark _) : PT X (.Compare a [op] [b] pos) (tT (cf X T W) (tCmpE o f g)) := by
  obtain ⟨r, h1, h2⟩ := ci.ex
  exact dt_cmpR h1 h2 ha hb hm
/-! a op1 b op2 c -/
def eChain (o o' : Ev → Ev → Mem → R Ev) (f g h : Sm Ev) : Sm Ev := fun ρ M => bnd (f ρ M) fun a M1 => bnd (g ρ M1) fun b M2 => bnd (o a b M2) fun z M3 => match z with
  | .d (.bl true) => bnd (h ρ M3) fun c M4 => o' b c M4
  | .d (.bl false) => .ok (bv false) M3
  | _ => .stuck
theorem OpOk.bnd {C : Cf} {o : Ev → Ev → Mem → R Ev} {r : R2} (h2 : OpOk C o r) {H0 H : Hp} {A m : List Addr} {M : Mem} {ρ : Env} {σ : L2.St} {P : List Addr} {x y : Ev} {v w : V} {k : Ev → Mem → R Ev} {Q G : VK} (F : FR C H0 A m M H ρ σ P) (rx : EvR C.K H0 A m H x v) (ry : EvR C.K H0 A m H y w)
    (h : PX C m σ (EvR C.K H0 A m) H (bnd (o x y M) k) Q) (hk : ∀ z M1 H1 u, FR C H0 A m M1 H1 ρ σ P → Stp m H H1 → EvR C.K H0 A m H1 z u → PX C m σ (EvR C.K H0 A m) H1 (k z M1) Q → G u H1) : r v w H G := by
  refine h2 H0 A m M H ρ σ P x y v w G F rx ry ?_
  cases e : o x y M with
  | ok d M1 =>
    rw [e] at h
    exact fun H1 u s w t q => hk d M1 H1 u (F.step s w t) s q (PX.step s h)
  | exc c g M1 => rw [e] at h; exact h
  | stuck => rw [e] at h; exact h
theorem chain_run {op op' : CmpOp} {o o' : Ev → Ev → Mem → R Ev} {r r' : R2} (h2 : OpOk (cf X T W) o r) (h2' : OpOk (cf X T W) o' r') {σ : L2.St} {H : Hp} {Q : VK} (q : tE (cf X T W) (eChain o o' f g h) σ H Q) :
    tChain r r' (tE (cf X T W) f) (tE (cf X T W) g) (tE (cf X T W) h) σ H Q := by
  obtain ⟨H0, A, m, M, ρ, P, F, q⟩ := q
  refine sub F q fun x M1 H1 v F1 _ r1 q1 => ?_
  refine sub F1 q1 fun y M2 H2 w F2 s2 r2 q2 => ?_
  refine h2.bnd F2 (EvR.step F1.wr.aok F1.ma s2 r1) r2 q2 fun z M3 H3 u F3 s3 r3 q3 => ?_
  split at q3
  · refine ⟨true, r3, ?_⟩
    rw [if_pos rfl]
    refine sub F3 q3 fun c M4 H4 w' F4 s4 r4 q4 => ?_
    exact h2' H0 A m M4 H4 ρ σ P _ _ w w' Q F4 (EvR.step F3.wr.aok F3.ma s4 (EvR.step F2.wr.aok F2.ma s3 r2)) r4 q4
  · refine ⟨false, r3, ?_⟩
    rw [if_neg (by decide)]
    exact q3.fin F3 rfl
  · exact q3.elim
theorem de_chain {op op' : CmpOp} {o o' : Ev → Ev → Mem → R Ev} (ci : CmpIs X T W op o) (ci' : CmpIs X T W op' o') (ha : PE X a (tE (cf X T W) f)) (hb : PE X b (tE (cf X T W) g)) (hc : PE X c (tE (cf X T W) h))
    (hm : lastMarks [op, op'] [b, c] = false := by with_unfolding_all rfl) : PE X (.Compare a [op, op'] [b, c] pos) (tE (cf X T W) (eChain o o' f g h)) := by
  obtain ⟨r, h1, h2⟩ := ci.ex
  obtain ⟨r', h1', h2'⟩ := ci'.ex
  exact ⟨fun pins s σ H Q I q => (pe_chain h1 h1' ha hb hc hm).run pins s σ H Q I (chain_run (op := op) (op' := op') h2 h2' q)⟩
def tChainE (o o' : Ev → Ev → Mem → R Ev) (f g h : Sm Ev) : Sm Bool := fun ρ M => asB (eChain o o' f g h ρ M)
theorem dt_chain {op op' : CmpOp} {o o' : Ev → Ev → Mem → R Ev} (ci : CmpIs X T W op o) (ci' : CmpIs X T W op' o') (ha : PE X a (tE (cf X T W) f)) (hb : PE X b (tE (cf X T W) g)) (hc : PE X c (tE (cf X T W) h))
    (hm : lastMarks [op, op'] [b, c] = false := by with_unfolding_all rfl) : PT X (.Compare a [op, op'] [b, c] pos) (tT (cf X T W) (tChainE o o' f g h)) := by
  obtain ⟨r, h1, h2⟩ := ci.ex
  obtain ⟨r', h1', h2'⟩ := ci'.ex
  refine ⟨fun pins s σ H Q I q => (pt_chain h1 h1' ha hb hc hm).run pins s σ H Q I ?_⟩
  obtain ⟨H0, A, m, M, ρ, P, F, q⟩ := q
  exact chain_run (op := op) (op' := op') h2 h2' (asB_run F q)
/-! ### truth -/
def truth : Ev → Option Bool
  | .d .non => some false
  | .d (.bl b) => some b
  | .d (.int i) => some (i != 0)
  | .d (.str s) => if s.length ≤ most then some ((s.length : Int) != 0) else none
  | .d (.tup l) => some (!l.isEmpty)
  | .d (.lst l) => some (!l.isEmpty)
  | .ls .own _ => none
  | .ls _ l => some (!l.isEmpty)
  | .d (.dK _ l) => some (!l.isEmpty)
  | _ => none
theorem Rps.emp {K : PySem.W.Frag} {A m : List Addr} {H : Hp} : ∀ {l : List D} {vs : List V}, Rps K A m H l vs → l.isEmpty = vs.isEmpty
  | [], _, h => by cases (show _ = [] from h); rfl
  | _ :: _, _, ⟨_, _, e, _⟩ => by cases e; rfl
theorem truth_rel {K : PySem.W.Frag} {H0 H : Hp} {A m : List Addr} {x : Ev} {v : V} {k : Bool} (e : truth x = some k) (r : EvR K H0 A m H x v) : TruV K v H k := by
  unfold truth at e
  split at e
  · cases e; cases (show v = V.non from r); rfl
  · cases e; cases (show v = V.bl k from r); rfl
  · cases e; rename_i i; cases (show v = V.int i from r); rfl
  · rename_i s
    split at e
    · rename_i hc; cases e; cases (show v = V.str s from r); exact ⟨most_line hc, rfl⟩
    · cases e
  · cases e; obtain ⟨a, vs, e, hs, q⟩ := r; cases e; exact .inr (.inl ⟨vs, SqT.of hs, by rw [Rps.emp q]⟩)
  · cases e; obtain ⟨a, vs, e, hs, _, q⟩ := r; cases e; exact .inl ⟨vs, SqL.of hs, by rw [Rps.emp q]⟩
  · cases e
  · rename_i md l hmd
    cases e
    cases md with
    | vw => obtain ⟨a, vs, e, hs, _, _, q⟩ := r; cases e; exact .inl ⟨vs, SqL.of hs, by rw [Rps.emp q]⟩
    | pv => obtain ⟨a, vs, e, hs, _, _, q⟩ := r; cases e; exact .inl ⟨vs, SqL.of hs, by rw [Rps.emp q]⟩
    | own => exact r.elim
  · cases e; obtain ⟨a, kvs, e, hs, _, _, q⟩ := r; cases e
    refine .inr (.inr ⟨kvs, hs, ?_⟩)
    rw [Rps.emp q]; cases kvs <;> rfl
  · cases e
def truB (r : R Ev) : R Bool := bnd r fun x M => match truth x with
  | some b => .ok b M
  | none => .stuck
def tTru (f : Sm Ev) : Sm Bool := fun ρ M => truB (f ρ M)
theorem dt_val (ha : PE X a (tE (cf X T W) f)) (he : ∀ whole, isTrue a X.env whole = (do let v ← whole; standAt a.pos; holding [v] (truthy v)) := by intro _; rfl) : PT X a (tT (cf X T W) (tTru f)) := by
  refine ⟨fun pins s σ H Q I q => (pt_truth ha he).run pins s σ H Q I ?_⟩
  obtain ⟨H0, A, m, M, ρ, P, F, q⟩ := q
  refine sub F q fun x M1 H1 v F1 _ r1 q1 => ?_
  split at q1
  · rename_i k hk; exact ⟨k, truth_rel hk r1, q1.fin F1 rfl⟩
  · exact q1.elim
/-! ### tests put together -/
variable {tf tg : Sm Bool} {rest : List Expr}
def bAnd (f g : Sm Bool) : Sm Bool := fun ρ M => bnd (f ρ M) fun b M1 => if b = true then g ρ M1 else .ok false M1
def bOr (f g : Sm Bool) : Sm Bool := fun ρ M => bnd (f ρ M) fun b M1 => if b = true then .ok true M1 else g ρ M1
def bNot (f : Sm Bool) : Sm Bool := fun ρ M => bnd (f ρ M) fun b M1 => .ok (!b) M1
theorem dw_and1 (ha : PT X a (tT (cf X T W) tf)) : PW X (.BoolOp .And [a] pos) (tT (cf X T W) tf) := pw_and1 ha
theorem dw_or1 (ha : PT X a (tT (cf X T W) tf)) : PW X (.BoolOp .Or [a] pos) (tT (cf X T W) tf) := pw_or1 ha
theorem dw_and (ha : PT X a (tT (cf X T W) tf)) (hb : PW X (.BoolOp .And (b :: rest) pos) (tT (cf X T W) tg)) : PW X (.BoolOp .And (a :: b :: rest) pos) (tT (cf X T W) (bAnd tf tg)) := by
  refine ⟨fun wh pins s σ H Q I q => (pw_and ha hb).run wh pins s σ H Q I ?_⟩
  obtain ⟨H0, A, m, M, ρ, P, F, q⟩ := q
  refine sub F q fun x M1 H1 v F1 _ r1 q1 => ?_
  cases (show x = v from r1)
  cases x with
  | true => exact ⟨H0, A, m, M1, ρ, P, F1, q1⟩
  | false => exact q1.fin F1 rfl
theorem dw_or (ha : PT X a (tT (cf X T W) tf)) (hb : PW X (.BoolOp .Or (b :: rest) pos) (tT (cf X T W) tg)) : PW X (.BoolOp .Or (a :: b :: rest) pos) (tT (cf X T W) (bOr tf tg)) := by
  refine ⟨fun wh pins s σ H Q I q => (pw_or ha hb).run wh pins s σ H Q I ?_⟩
  obtain ⟨H0, A, m, M, ρ, P, F, q⟩ := q
  refine sub F q fun x M1 H1 v F1 _ r1 q1 => ?_
  cases (show x = v from r1)
  cases x with
  | true => exact q1.fin F1 rfl
  | false => exact ⟨H0, A, m, M1, ρ, P, F1, q1⟩
theorem dt_not (ha : PT X a (tT (cf X T W) tf)) : PT X (.UnaryOp .Not a pos) (tT (cf X T W) (bNot tf)) := by
  refine ⟨fun pins s σ H Q I q => (pt_not ha).run pins s σ H Q I ?_⟩
  obtain ⟨H0, A, m, M, ρ, P, F, q⟩ := q
  refine sub F q fun x M1 H1 v F1 _ r1 q1 => ?_
  cases (show x = v from r1)
  exact q1.fin F1 rfl
/-! and, or, not as values -/
def eAnd (f g : Sm Ev) : Sm Ev := fun ρ M => bnd (f ρ M) fun x M1 => match truth x with
  | some true => g ρ M1
  | some false => .ok x M1
  | none => .stuck
def eOr (f g : Sm Ev) : Sm Ev := fun ρ M => bnd (f ρ M) fun x M1 => match truth x with
  | some true => .ok x M1
  | some false => g ρ M1
  | none => .stuck
def eNot (f : Sm Ev) : Sm Ev := fun ρ M => bnd (f ρ M) fun x M1 => match truth x with
  | some b => .ok (bv (!b)) M1
  | none => .stuck
theorem de_one {op} (h : PE X a (tE (cf X T W) f)) : PE X (.BoolOp op [a] pos) (tE (cf X T W) f) := pe_one h
theorem de_and (ha : PE X a (tE (cf X T W) f)) (hb : PE X (.BoolOp .And (b :: rest) pos) (tE (cf X T W) g)) : PE X (.BoolOp .And (a :: b :: rest) pos) (tE (cf X T W) (eAnd f g)) := by
  refine ⟨fun pins s σ H Q I q => (pe_andT ha hb).run pins s σ H Q I ?_⟩
  obtain ⟨H0, A, m, M, ρ, P, F, q⟩ := q
  refine sub F q fun x M1 H1 v F1 _ r1 q1 => ?_
  split at q1
  · rename_i hk; exact ⟨true, truth_rel hk r1, by rw [if_pos rfl]; exact ⟨H0, A, m, M1, ρ, P, F1, q1⟩⟩
  · rename_i hk; exact ⟨false, truth_rel hk r1, by rw [if_neg (by decide)]; exact q1.fin F1 r1⟩
  · exact q1.elim
theorem de_or (ha : PE X a (tE (cf X T W) f)) (hb : PE X (.BoolOp .Or (b :: rest) pos) (tE (cf X T W) g)) : PE X (.BoolOp .Or (a :: b :: rest) pos) (tE (cf X T W) (eOr f g)) := by
  refine ⟨fun pins s σ H Q I q => (pe_orT ha hb).run pins s σ H Q I ?_⟩
  obtain ⟨H0, A, m, M, ρ, P, F, q⟩ := q
  refine sub F q fun x M1 H1 v F1 _ r1 q1 => ?_
  split at q1
  · rename_i hk; exact ⟨true, truth_rel hk r1, by rw [if_pos rfl]; exact q1.fin F1 r1⟩
  · rename_i hk; exact ⟨false, truth_rel hk r1, by rw [if_neg (by decide)]; exact ⟨H0, A, m, M1, ρ, P, F1, q1⟩⟩
  · exact q1.elim
theorem de_not (ha : PE X a (tE (cf X T W) f)) : PE X (.UnaryOp .Not a pos) (tE (cf X T W) (eNot f)) := by
  refine ⟨fun pins s σ H Q I q => (pe_notT ha).run pins s σ H Q I ?_⟩
  obtain ⟨H0, A, m, M, ρ, P, F, q⟩ := q
  refine sub F q fun x M1 H1 v F1 _ r1 q1 => ?_
  split at q1
  · rename_i k hk; exact ⟨k, truth_rel hk r1, q1.fin F1 rfl⟩
  · exact q1.elim
/-- a if t else b -/
def eIf (t : Sm Bool) (f g : Sm Ev) : Sm Ev := fun ρ M => bnd (t ρ M) fun k M1 => if k = true then f ρ M1 else g ρ M1
theorem de_if (hc : PT X c (tT (cf X T W) tf)) (ha : PE X a (tE (cf X T W) f)) (hb : PE X b (tE (cf X T W) g)) : PE X (.IfExp c a b pos) (tE (cf X T W) (eIf tf f g)) := by
  refine ⟨fun pins s σ H Q I q => (pe_ifExp hc ha hb).run pins s σ H Q I ?_⟩
  obtain ⟨H0, A, m, M, ρ, P, F, q⟩ := q
  refine sub F q fun x M1 H1 v F1 _ r1 q1 => ?_
  cases (show x = v from r1)
  cases x with
  | true => exact ⟨H0, A, m, M1, ρ, P, F1, q1⟩
  | false => exact ⟨H0, A, m, M1, ρ, P, F1, q1⟩
end
end DL

set_option Elab.async false
set_option linter.all false
set_option maxRecDepth 100000
set_option maxHeartbeats 2000000
/-! The data layer: arguments, displays, calls of built-ins, subscripts, slices. -/
namespace DL
open PySem PySem.Spec PyProof.Rows L2
abbrev EvL (K : PySem.W.Frag) (H0 : Hp) (A m : List Addr) (H : Hp) (xs : List Ev) (vs : List V) : Prop := Paired (EvR K H0 A m H) xs vs
section
variable {K : PySem.W.Frag} {H0 H H' : Hp} {A m : List Addr}
theorem EvL.step (ok : AOk m H) (hA : ∀ a ∈ m, a ∈ A) (s : Stp m H H') {xs : List Ev} {vs : List V} (h : EvL K H0 A m H xs vs) : EvL K H0 A m H' xs vs := Paired.mapP h fun _ _ r => EvR.step ok hA s r
/-- plain data all -/
def datas : List Ev → Option (List D)
  | [] => some []
  | .d x :: r => (datas r).map (x :: ·)
  | _ => none
theorem datas_at : ∀ {xs : List Ev} {vs : List V} {l : List D}, datas xs = some l → EvL K H0 A m H xs vs → Rps K A m H l vs
  | [], _, _, h, r => by cases h; cases r; rfl
  | .d x :: xs, _, l, h, r => by
    cases r with
    | cons r1 r2 =>
      unfold datas at h
      cases e : datas xs with
      | none => rw [e] at h; cases h
      | some q => rw [e] at h; cases h; exact ⟨_, _, rfl, r1, datas_at e r2⟩
  | .ls _ _ :: _, _, _, h, _ => by cases h
  | .rw _ _ :: _, _, _, h, _ => by cases h
  | .dk _ _ _ :: _, _, _, h, _ => by cases h
  | .dt _ _ _ :: _, _, _, h, _ => by cases h
end
section
variable {X : Cx} {T : List (Addr × Str)} {W : WX} {a b c e : Expr} {es : List Expr} {f g h : Sm Ev} {fs : Sm (List Ev)} {pos p : Pos} {x : Str}
def aNil : Sm (List Ev) := fun _ M => .ok [] M
def aCons (f : Sm Ev) (g : Sm (List Ev)) : Sm (List Ev) := fun ρ M => bnd (f ρ M) fun x M1 => bnd (g ρ M1) fun xs M2 => .ok (x :: xs) M2
theorem da_nil : PA X [] (tA (cf X T W) aNil) := by
  refine ⟨fun pos pins s σ H Q I q => pa_nil.run pos pins s σ H Q I ?_⟩
  obtain ⟨H0, A, m, M, ρ, P, F, q⟩ := q
  exact q.fin F .nil
theorem da_cons (ha : PE X e (tE (cf X T W) f)) (hr : PA X es (tA (cf X T W) fs)) (hs : starEach (e :: es) X.env = (false, eval e X.env) :: starEach es X.env := by rfl) : PA X (e :: es) (tA (cf X T W) (aCons f fs)) := by
  refine ⟨fun pos pins s σ H Q I q => (pa_cons ha hr hs).run pos pins s σ H Q I ?_⟩
  obtain ⟨H0, A, m, M, ρ, P, F, q⟩ := q
  refine sub F q fun x M1 H1 v F1 _ r1 q1 => ?_
  refine sub F1 q1 fun xs M2 H2 vs F2 s2 r2 q2 => ?_
  exact q2.fin F2 (.cons (EvR.step F1.wr.aok F1.ma s2 r1) r2)
/-! ### displays -/
def eTup (fs : Sm (List Ev)) : Sm Ev := fun ρ M => bnd (fs ρ M) fun xs M1 => match datas xs with
  | some l => if l.length ≤ most then .ok (.d (.tup l)) M1 else .stuck
  | none => .stuck
def eLst (fs : Sm (List Ev)) : Sm Ev := fun ρ M => bnd (fs ρ M) fun xs M1 => match datas xs with
  | some l => if l.length ≤ most then .ok (.d (.lst l)) M1 else .stuck
  | none => .stuck
theorem de_tup {k} (ha : PA X es (tA (cf X T W) fs)) : PE X (.Tuple es k pos) (tE (cf X T W) (eTup fs)) := by
  refine ⟨fun pins s σ H Q I q => (pe_tup ha).run pins s σ H Q I ?_⟩
  obtain ⟨H0, A, m, M, ρ, P, F, q⟩ := q
  refine sub F q fun xs M1 H1 vs F1 _ r1 q1 => ?_
  split at q1
  · rename_i l hl
    have r := datas_at hl r1
    split at q1
    · rename_i hc
      exact ⟨by rw [Rps.len r]; exact most_line hc, fun p hp => q1.made F1 hp (newT (C := cf X T W) hp r)⟩
    · exact q1.elim
  · exact q1.elim
theorem de_lst (ha : PA X es (tA (cf X T W) fs)) : PE X (.List es pos) (tE (cf X T W) (eLst fs)) := by
  refine ⟨fun pins s σ H Q I q => (pe_lst ha).run pins s σ H Q I ?_⟩
  obtain ⟨H0, A, m, M, ρ, P, F, q⟩ := q
  refine sub F q fun xs M1 H1 vs F1 _ r1 q1 => ?_
  split at q1
  · rename_i l hl
    have r := datas_at hl r1
    split at q1
    · rename_i hc
      exact ⟨by rw [Rps.len r]; exact most_line hc, fun p hp => q1.made F1 hp (newL F1 hp r)⟩
    · exact q1.elim
  · exact q1.elim
/-! ### built-ins by their names -/
def BOk (C : Cf) (op : List Ev → Mem → R Ev) (r : List V → Hp → VK → Prop) : Prop := ∀ H0 A m M H ρ σ P xs vs Q, FR C H0 A m M H ρ σ P → EvL C.K H0 A m H xs vs → PX C m σ (EvR C.K H0 A m) H (op xs M) Q → r vs H Q
def eB (op : List Ev → Mem → R Ev) (fs : Sm (List Ev)) : Sm Ev := fun ρ M => bnd (fs ρ M) fun xs M1 => op xs M1
/-- a built-in function -/
structure BIs (X : Cx) (T : List (Addr × Str)) (W : WX) (v : Value) (op : List Ev → Mem → R Ev) : Prop where
  ex : ∃ r, CallR X v r ∧ BOk (cf X T W) op r
theorem tE_B {op : List Ev → Mem → R Ev} {r : List V → Hp → VK → Prop} {σ : L2.St} {H : Hp} {Q : VK} (ho : BOk (cf X T W) op r) (q : tE (cf X T W) (eB op fs) σ H Q) : tCB r (tA (cf X T W) fs) σ H Q := by
  obtain ⟨H0, A, m, M, ρ, P, F, q⟩ := q
  refine sub F q fun xs M1 H1 vs F1 _ r1 q1 => ?_
  exact ho H0 A m M1 H1 ρ σ P xs vs Q F1 r1 q1
theorem de_B {id : String} {op : List Ev → Mem → R Ev} (bi : BIs X T W (.builtin id) op) (hg : Gl X x) (hm : X.mg x = none) (hv : bootBuiltins x = some (.builtin id)) (ha : PA X (e :: es) (tA (cf X T W) fs)) (hn : x ≠ "__name__" := by decide) (hdb : (x == ("__debug__" : Str)) = false := by decide)
    (he : starEach (e :: es) X.env = (false, eval e X.env) :: starEach es X.env := by rfl) (hpl : (backTo pos (starEach es X.env)).any (·.1) = false := by rfl) : PE X (.Call (.Name x p) (e :: es) [] pos) (tE (cf X T W) (eB op fs)) := by
  obtain ⟨r, h1, h2⟩ := bi.ex
  exact ⟨fun pins s σ H Q I q => (pe_callB h1 hg hm hv ha hn hdb he hpl).run pins s σ H Q I (tE_B h2 q)⟩
theorem de_BT {n : String} {op : List Ev → Mem → R Ev} (bi : BIs X T W (.type n) op) (hg : Gl X x) (hm : X.mg x = none) (hv : bootBuiltins x = some (.type n)) (ha : PA X (e :: es) (tA (cf X T W) fs)) (hn : x ≠ "__name__" := by decide) (hdb : (x == ("__debug__" : Str)) = false := by decide)
    (he : starEach (e :: es) X.env = (false, eval e X.env) :: starEach es X.env := by rfl) (hpl : (backTo pos (starEach es X.env)).any (·.1) = false := by rfl) : PE X (.Call (.Name x p) (e :: es) [] pos) (tE (cf X T W) (eB op fs)) := by
  obtain ⟨r, h1, h2⟩ := bi.ex
  exact ⟨fun pins s σ H Q I q => (pe_callTy h1 hg hm hv ha hn hdb he hpl).run pins s σ H Q I (tE_B h2 q)⟩
/-- len -/
theorem FR.obj {C : Cf} {H0 H : Hp} {A m : List Addr} {M : Mem} {ρ : Env} {σ : L2.St} {P : List Addr} (F : FR C H0 A m M H ρ σ P) {n : Nat} {l : List D} {v : V} (hM : M[n]? = some (.lst l)) (r : Rp C.K A m H (.ob n) v) :
    ∃ a vs, v = .ref a ∧ m[n]? = some a ∧ H a = some (.lst vs) ∧ Rps C.K A m H l vs := by
  obtain ⟨a, e, rfl⟩ := r
  obtain ⟨vs, h1, h2, h3⟩ := F.wr.ok n a _ e hM
  exact ⟨a, vs, rfl, e, h1, Rps.bare _ _ h2 h3⟩
def bLen (xs : List Ev) (M : Mem) : R Ev := match xs with
  | [.d (.ob n)] => match M[n]? with
    | some (.lst l) => .ok (iv l.length) M
    | none => .stuck
  | [.d (.str s)] => if s.length ≤ most then .ok (iv s.length) M else .stuck
  | [.rw .vw rows] => .ok (iv rows.length) M
  | [.d (.dK _ l)] => .ok (iv l.length) M
  | [.dk .vw _ l] => .ok (iv l.length) M
  | [.dk .pv _ l] => .ok (iv l.length) M
  | [x] => match seqOf x with
    | some l => .ok (iv l.length) M
    | none => .stuck
  | _ => .stuck
def rLenA (K : PySem.W.Frag) : List V → Hp → VK → Prop := fun xs H Q => (∃ x n, xs = [x] ∧ LenV K x H n ∧ Q (.int n) H) ∨ ∃ p kvs, xs = [V.ref p] ∧ H p = some (.dK kvs) ∧ Q (.int kvs.length) H
theorem Paired.one {α β : Type} {G : α → β → Prop} {x : α} {vs : List β} (h : Paired G [x] vs) : ∃ v, vs = [v] ∧ G x v := by
  cases h with
  | cons a b => cases b; exact ⟨_, rfl, a⟩
theorem Paired.two {α β : Type} {G : α → β → Prop} {x y : α} {vs : List β} (h : Paired G [x, y] vs) : ∃ v w, vs = [v, w] ∧ G x v ∧ G y w := by
  cases h with
  | cons a b => cases b with
    | cons c d => cases d; exact ⟨_, _, rfl, a, c⟩
theorem call_lenA : CallR X (.builtin "len") (rLenA X.K) := by
  intro pins s σ H xs us Q I r h
  rcases h with h | ⟨p, kvs, rfl, hk, q⟩
  · exact call_len pins s σ H xs us Q I r h
  · obtain ⟨u, rfl, ru⟩ := vals1 r
    cases ru
    exact d_len I (.inl hk) fun t s' I' => ⟨.int _, H, I', ⟨_, rfl⟩, q⟩
theorem bi_len : BIs X T W (.builtin "len") bLen := by
  refine ⟨_, call_lenA, ?_⟩
  intro H0 A m M H ρ σ P xs vs Q F ra h
  unfold bLen at h
  split at h
  · rename_i n
    obtain ⟨v, rfl, r⟩ := Paired.one ra
    split at h
    · rename_i l hM
      obtain ⟨a, vs, e, _, hs, q⟩ := F.obj hM r
      exact .inl ⟨v, l.length, rfl, by rw [e]; exact .inl ⟨vs, SqL.of hs, (Rps.len q).symm⟩, h.fin F rfl⟩
    · exact h.elim
  · rename_i s
    obtain ⟨v, rfl, r⟩ := Paired.one ra
    split at h
    · rename_i hc
      exact .inl ⟨v, s.length, rfl, by rw [show v = V.str s from r]; exact ⟨most_line hc, rfl⟩, h.fin F rfl⟩
    · exact h.elim
  · rename_i rows
    obtain ⟨v, rfl, r⟩ := Paired.one ra
    obtain ⟨a, vs, e, hs, _, _, q⟩ := r
    refine .inl ⟨v, rows.length, rfl, by rw [e]; exact .inl ⟨vs, SqL.of hs, Paired.length q⟩, h.fin F rfl⟩
  · rename_i ks l
    obtain ⟨v, rfl, r⟩ := Paired.one ra
    obtain ⟨a, kvs, e, hs, _, _, q⟩ := r
    refine .inr ⟨a, kvs, by rw [e], hs, ?_⟩
    have e2 : kvs.length = l.length := by have := Rps.len q; simpa using this
    rw [e2]; exact h.fin F rfl
  · rename_i ks l
    obtain ⟨v, rfl, r⟩ := Paired.one ra
    obtain ⟨a, kvs, e, hs, _, _, _, q⟩ := r
    refine .inr ⟨a, kvs, by rw [e], hs, ?_⟩
    have e2 : kvs.length = l.length := by have := Rps.len q; simpa using this
    rw [e2]; exact h.fin F rfl
  · rename_i ks l
    obtain ⟨v, rfl, r⟩ := Paired.one ra
    obtain ⟨a, kvs, e, hs, _, _, _, q⟩ := r
    refine .inr ⟨a, kvs, by rw [e], hs, ?_⟩
    have e2 : kvs.length = l.length := by have := Rps.len q; simpa using this
    rw [e2]; exact h.fin F rfl
  · rename_i x _ _ _ _ _ _
    obtain ⟨v, rfl, r⟩ := Paired.one ra
    split at h
    · rename_i l hl
      obtain ⟨a, vs, e, hs, q⟩ := seqOf_at hl r
      refine .inl ⟨v, l.length, rfl, ?_, h.fin F rfl⟩
      rw [e]
      rcases hs with hs | hs
      · exact .inl ⟨vs, hs, (Rps.len q).symm⟩
      · exact .inr ⟨vs, hs, (Rps.len q).symm⟩
    · exact h.elim
  · exact h.elim
/-- abs, int, bool of an int -/
def bAbs (xs : List Ev) (M : Mem) : R Ev := match xs with
  | [.d (.int i)] => .ok (iv (if i < 0 then -i else i)) M
  | _ => .stuck
theorem bi_abs : BIs X T W (.builtin "abs") bAbs := by
  refine ⟨_, call_abs, ?_⟩
  intro H0 A m M H ρ σ P xs vs Q F ra h
  unfold bAbs at h
  split at h
  · rename_i i
    obtain ⟨v, rfl, r⟩ := Paired.one ra
    exact ⟨i, by rw [show v = V.int i from r], h.fin F rfl⟩
  · exact h.elim
def bInt (xs : List Ev) (M : Mem) : R Ev := match xs with
  | [.d (.int i)] => .ok (iv i) M
  | [.d (.bl b)] => .ok (iv (if b then 1 else 0)) M
  | _ => .stuck
theorem bi_int : BIs X T W (.type "int") bInt := by
  refine ⟨_, call_int1, ?_⟩
  intro H0 A m M H ρ σ P xs vs Q F ra h
  unfold bInt at h
  split at h
  · rename_i i
    obtain ⟨v, rfl, r⟩ := Paired.one ra
    exact .inl ⟨i, by rw [show v = V.int i from r], h.fin F rfl⟩
  · rename_i i
    obtain ⟨v, rfl, r⟩ := Paired.one ra
    exact .inr ⟨i, by rw [show v = V.bl i from r], h.fin F rfl⟩
  · exact h.elim
/-- the greatest, the least of two, of a list -/
def maxL : List Int → Int
  | [] => 0
  | [x] => x
  | x :: r => if x < maxL r then maxL r else x
def minL : List Int → Int
  | [] => 0
  | [x] => x
  | x :: r => if minL r < x then minL r else x
theorem maxL_is : ∀ {ns : List Int}, 0 < ns.length → maxL ns ∈ ns ∧ ∀ y ∈ ns, y ≤ maxL ns
  | [x], _ => ⟨List.mem_cons_self, fun y hy => by rw [List.mem_singleton.mp hy]; exact Int.le_refl _⟩
  | x :: y :: r, _ => by
    have ih := maxL_is (ns := y :: r) (by simp)
    have e : maxL (x :: y :: r) = if x < maxL (y :: r) then maxL (y :: r) else x := rfl
    rw [e]
    by_cases hc : x < maxL (y :: r)
    · rw [if_pos hc]
      refine ⟨List.mem_cons_of_mem _ ih.1, fun z hz => ?_⟩
      rcases List.mem_cons.mp hz with rfl | hz
      · exact Int.le_of_lt hc
      · exact ih.2 z hz
    · rw [if_neg hc]
      refine ⟨List.mem_cons_self, fun z hz => ?_⟩
      rcases List.mem_cons.mp hz with rfl | hz
      · exact Int.le_refl _
      · have := ih.2 z hz; omega
theorem minL_is : ∀ {ns : List Int}, 0 < ns.length → minL ns ∈ ns ∧ ∀ y ∈ ns, minL ns ≤ y
  | [x], _ => ⟨List.mem_cons_self, fun y hy => by rw [List.mem_singleton.mp hy]; exact Int.le_refl _⟩
  | x :: y :: r, _ => by
    have ih := minL_is (ns := y :: r) (by simp)
    have e : minL (x :: y :: r) = if minL (y :: r) < x then minL (y :: r) else x := rfl
    rw [e]
    by_cases hc : minL (y :: r) < x
    · rw [if_pos hc]
      refine ⟨List.mem_cons_of_mem _ ih.1, fun z hz => ?_⟩
      rcases List.mem_cons.mp hz with rfl | hz
      · exact Int.le_of_lt hc
      · exact ih.2 z hz
    · rw [if_neg hc]
      refine ⟨List.mem_cons_self, fun z hz => ?_⟩
      rcases List.mem_cons.mp hz with rfl | hz
      · exact Int.le_refl _
      · have := ih.2 z hz; omega
def intsOf (x : Ev) : Option (List Int) := (lstOf x).bind toInts
theorem intsOf_at {K : PySem.W.Frag} {H0 H : Hp} {A m : List Addr} {x : Ev} {v : V} {ns : List Int} (h : intsOf x = some ns) (r : EvR K H0 A m H x v) : ∃ a, v = .ref a ∧ H a = some (.lst (ns.map V.int)) := by
  unfold intsOf at h
  cases e : lstOf x with
  | none => rw [e] at h; cases h
  | some l =>
    rw [e] at h
    obtain ⟨a, vs, ev, hs, q⟩ := lstOf_at e r
    have el := toInts_map (show toInts l = some ns from h)
    subst el
    exact ⟨a, ev, by rw [hs, Rps.ints q]⟩
def bMax (xs : List Ev) (M : Mem) : R Ev := match xs with
  | [.d (.int i), .d (.int j)] => .ok (iv (if j > i then j else i)) M
  | [x] => match intsOf x with
    | some (n :: ns) => .ok (iv (maxL (n :: ns))) M
    | _ => .stuck
  | _ => .stuck
theorem bi_max (hc : X.calm = true) : BIs X T W (.builtin "max") bMax := by
  refine ⟨_, (call_max2 hc).or (cr_max hc), ?_⟩
  intro H0 A m M H ρ σ P xs vs Q F ra h
  unfold bMax at h
  split at h
  · rename_i i j
    obtain ⟨v, w, rfl, r1, r2⟩ := Paired.two ra
    exact .inl ⟨i, j, by rw [show v = V.int i from r1, show w = V.int j from r2], h.fin F rfl⟩
  · rename_i x
    obtain ⟨v, rfl, r⟩ := Paired.one ra
    split at h
    · rename_i n ns hl
      obtain ⟨a, e, hs⟩ := intsOf_at hl r
      refine .inr ⟨a, n :: ns, by rw [e], SqL.of hs, by simp, fun k h1 h2 => ?_⟩
      have q := maxL_is (ns := n :: ns) (by simp)
      have e : k = maxL (n :: ns) := by have := h2 _ q.1; have := q.2 _ h1; omega
      rw [e]; exact h.fin F rfl
    · exact h.elim
  · exact h.elim
def bMin (xs : List Ev) (M : Mem) : R Ev := match xs with
  | [.d (.int i), .d (.int j)] => .ok (iv (if j < i then j else i)) M
  | [x] => match intsOf x with
    | some (n :: ns) => .ok (iv (minL (n :: ns))) M
    | _ => .stuck
  | _ => .stuck
theorem bi_min (hc : X.calm = true) : BIs X T W (.builtin "min") bMin := by
  refine ⟨_, (call_min2 hc).or (cr_min hc), ?_⟩
  intro H0 A m M H ρ σ P xs vs Q F ra h
  unfold bMin at h
  split at h
  · rename_i i j
    obtain ⟨v, w, rfl, r1, r2⟩ := Paired.two ra
    exact .inl ⟨i, j, by rw [show v = V.int i from r1, show w = V.int j from r2], h.fin F rfl⟩
  · rename_i x
    obtain ⟨v, rfl, r⟩ := Paired.one ra
    split at h
    · rename_i n ns hl
      obtain ⟨a, e, hs⟩ := intsOf_at hl r
      refine .inr ⟨a, n :: ns, by rw [e], SqL.of hs, by simp, fun k h1 h2 => ?_⟩
      have q := minL_is (ns := n :: ns) (by simp)
      have e : k = minL (n :: ns) := by have := h2 _ q.1; have := q.2 _ h1; omega
      rw [e]; exact h.fin F rfl
    · exact h.elim
  · exact h.elim
def bSum (xs : List Ev) (M : Mem) : R Ev := match xs with
  | [x] => match intsOf x with
    | some ns => .ok (iv ns.sum) M
    | _ => .stuck
  | _ => .stuck
theorem bi_sum (hc : X.calm = true) : BIs X T W (.builtin "sum") bSum := by
  refine ⟨_, cr_sum hc, ?_⟩
  intro H0 A m M H ρ σ P xs vs Q F ra h
  unfold bSum at h
  split at h
  · rename_i x
    obtain ⟨v, rfl, r⟩ := Paired.one ra
    split at h
    · rename_i ns hl
      obtain ⟨a, e, hs⟩ := intsOf_at hl r
      exact ⟨a, ns, by rw [e], SqL.of hs, h.fin F rfl⟩
    · exact h.elim
  · exact h.elim
/-- all, any of a list of truths -/
def toBls : List D → Option (List Bool)
  | [] => some []
  | .bl i :: l => (toBls l).map (i :: ·)
  | _ => none
theorem toBls_rps {K : PySem.W.Frag} {A m : List Addr} {H : Hp} : ∀ {l : List D} {bs : List Bool} {vs : List V}, toBls l = some bs → Rps K A m H l vs → vs = bs.map V.bl
  | [], _, _, h, r => by cases h; exact r
  | .bl i :: l, bs, _, h, ⟨v, r, e, h1, h2⟩ => by
    unfold toBls at h
    cases e2 : toBls l with
    | none => rw [e2] at h; cases h
    | some q => rw [e2] at h; cases h; rw [e, show v = V.bl i from h1, toBls_rps e2 h2]; rfl
  | .non :: _, _, _, h, _ => by cases h
  | .int _ :: _, _, _, h, _ => by cases h
  | .str _ :: _, _, _, h, _ => by cases h
  | .ty _ :: _, _, _, h, _ => by cases h
  | .at _ :: _, _, _, h, _ => by cases h
  | .ob _ :: _, _, _, h, _ => by cases h
  | .sc _ :: _, _, _, h, _ => by cases h
  | .tup _ :: _, _, _, h, _ => by cases h
  | .lst _ :: _, _, _, h, _ => by cases h
  | .dK _ _ :: _, _, _, h, _ => by cases h
  | .dT _ _ :: _, _, _, h, _ => by cases h
def blsOf (x : Ev) : Option (List Bool) := (lstOf x).bind toBls
theorem blsOf_at {K : PySem.W.Frag} {H0 H : Hp} {A m : List Addr} {x : Ev} {v : V} {ns : List Bool} (h : blsOf x = some ns) (r : EvR K H0 A m H x v) : ∃ a, v = .ref a ∧ H a = some (.lst (ns.map V.bl)) := by
  unfold blsOf at h
  cases e : lstOf x with
  | none => rw [e] at h; cases h
  | some l =>
    rw [e] at h
    obtain ⟨a, vs, ev, hs, q⟩ := lstOf_at e r
    exact ⟨a, ev, by rw [hs, toBls_rps (show toBls l = some ns from h) q]⟩
def bAll (xs : List Ev) (M : Mem) : R Ev := match xs with
  | [x] => match blsOf x with
    | some ns => .ok (bv (ns.all id)) M
    | _ => .stuck
  | _ => .stuck
def bAny (xs : List Ev) (M : Mem) : R Ev := match xs with
  | [x] => match blsOf x with
    | some ns => .ok (bv (ns.any id)) M
    | _ => .stuck
  | _ => .stuck
theorem bi_all (hc : X.calm = true) : BIs X T W (.builtin "all") bAll := by
  refine ⟨_, cr_all hc, ?_⟩
  intro H0 A m M H ρ σ P xs vs Q F ra h
  unfold bAll at h
  split at h
  · rename_i x
    obtain ⟨v, rfl, r⟩ := Paired.one ra
    split at h
    · rename_i ns hl
      obtain ⟨a, e, hs⟩ := blsOf_at hl r
      exact ⟨a, ns, by rw [e], SqL.of hs, h.fin F rfl⟩
    · exact h.elim
  · exact h.elim
theorem bi_any (hc : X.calm = true) : BIs X T W (.builtin "any") bAny := by
  refine ⟨_, cr_any hc, ?_⟩
  intro H0 A m M H ρ σ P xs vs Q F ra h
  unfold bAny at h
  split at h
  · rename_i x
    obtain ⟨v, rfl, r⟩ := Paired.one ra
    split at h
    · rename_i ns hl
      obtain ⟨a, e, hs⟩ := blsOf_at hl r
      exact ⟨a, ns, by rw [e], SqL.of hs, h.fin F rfl⟩
    · exact h.elim
  · exact h.elim
/-- tuple(x), list(x) of a list or a tuple -/
def bTup (xs : List Ev) (M : Mem) : R Ev := match xs with
  | [.d (.tup l)] => .ok (.d (.tup l)) M
  | [x] => match lstOf x with
    | some l => .ok (.d (.tup l)) M
    | none => .stuck
  | _ => .stuck
def bLst (xs : List Ev) (M : Mem) : R Ev := match xs with
  | [x] => match seqOf x with
    | some l => .ok (.d (.lst l)) M
    | none => .stuck
  | _ => .stuck
theorem bi_tup : BIs X T W (.type "tuple") bTup := by
  refine ⟨_, call_tuple_of, ?_⟩
  intro H0 A m M H ρ σ P xs vs Q F ra h
  unfold bTup at h
  split at h
  · obtain ⟨v, rfl, r⟩ := Paired.one ra
    obtain ⟨a, vs, e, hs, q⟩ := r
    exact ⟨a, vs, by rw [e], .inr ⟨SqT.of hs, h.fin F ⟨a, vs, rfl, hs, q⟩⟩⟩
  · rename_i x _
    obtain ⟨v, rfl, r⟩ := Paired.one ra
    split at h
    · rename_i l hl
      obtain ⟨a, vs, e, hs, q⟩ := lstOf_at hl r
      exact ⟨a, vs, by rw [e], .inl ⟨SqL.of hs, fun p hp => h.made F hp (newT (C := cf X T W) hp q)⟩⟩
    · exact h.elim
  · exact h.elim
theorem bi_lst : BIs X T W (.type "list") bLst := by
  refine ⟨_, call_list_of, ?_⟩
  intro H0 A m M H ρ σ P xs vs Q F ra h
  unfold bLst at h
  split at h
  · rename_i x
    obtain ⟨v, rfl, r⟩ := Paired.one ra
    split at h
    · rename_i l hl
      obtain ⟨a, vs, e, hs, q⟩ := seqOf_at hl r
      exact ⟨a, vs, by rw [e], hs, fun p hp => h.made F hp (newL F hp q)⟩
    · exact h.elim
  · exact h.elim
/-! ### isinstance -/
def tyN : Ev → Option String
  | .d .non => some "NoneType"
  | .d (.bl _) => some "bool"
  | .d (.int _) => some "int"
  | .d (.str _) => some "str"
  | .d (.tup _) => some "tuple"
  | .d (.lst _) => some "list"
  | .d (.dK _ _) => some "dict"
  | .d (.dT _ _) => some "dict"
  | .ls .vw _ => some "list"
  | .ls .pv _ => some "list"
  | .rw .vw _ => some "list"
  | .dk .vw _ _ => some "dict"
  | .dk .pv _ _ => some "dict"
  | .dt .vw _ _ => some "dict"
  | .dt .pv _ _ => some "dict"
  | _ => none
def tyNs : List String := ["NoneType", "bool", "int", "str", "tuple", "list", "dict"]
def clNs : List String := ["bool", "int", "str", "tuple", "list", "dict"]
def isOf (a b : String) : Bool := a == b || (a == "bool" && b == "int")
theorem kit_all : ∀ a ∈ tyNs, ∀ b ∈ clNs, kitB a b = some (isOf a b) := by
  have h : (tyNs.all fun a => clNs.all fun b => decide (kitB a b = some (isOf a b))) = true := by decide +kernel
  intro a ha b hb
  have h1 := List.all_eq_true.mp h a ha
  exact of_decide_eq_true (List.all_eq_true.mp h1 b hb)
theorem tyN_mem {x : Ev} {a : String} (h : tyN x = some a) : a ∈ tyNs := by
  unfold tyN at h
  split at h <;> cases h <;> simp [tyNs]
theorem tyN_at {K : PySem.W.Frag} {H0 H : Hp} {A m : List Addr} {x : Ev} {v : V} {a : String} (h : tyN x = some a) (r : EvR K H0 A m H x v) : TyX K H v (.type a) := by
  unfold tyN at h
  split at h
  · cases h; cases (show v = V.non from r); exact .base .non
  · cases h; rename_i b; have e : v = V.bl b := r; subst e; exact .base (.bl _)
  · cases h; rename_i b; have e : v = V.int b := r; subst e; exact .base (.int _)
  · cases h; rename_i b; have e : v = V.str b := r; subst e; exact .base (.str _)
  · cases h
    obtain ⟨p, vs, e, hs, q⟩ := r
    subst e
    exact .base (.tup hs)
  · cases h; obtain ⟨p, vs, e, hs, q⟩ := r; subst e; exact .base (.lst hs)
  · cases h; obtain ⟨p, vs, e, hs, q⟩ := r; subst e; exact .base (.dK hs)
  · cases h; obtain ⟨p, vs, e, hs, q⟩ := r; subst e; exact .base (.dT hs)
  · cases h; obtain ⟨p, vs, e, hs, q⟩ := r; subst e; exact .base (.lst hs)
  · cases h; obtain ⟨p, vs, e, hs, q⟩ := r; subst e; exact .base (.lst hs)
  · cases h; obtain ⟨p, vs, e, hs, q⟩ := r; subst e; exact .base (.lst hs)
  · cases h; obtain ⟨p, vs, e, hs, q⟩ := r; subst e; exact .base (.dK hs)
  · cases h; obtain ⟨p, vs, e, hs, q⟩ := r; subst e; exact .base (.dK hs)
  · cases h; obtain ⟨p, vs, e, hs, q⟩ := r; subst e; exact .base (.dT hs)
  · cases h; obtain ⟨p, vs, e, hs, q⟩ := r; subst e; exact .base (.dT hs)
  · cases h
def toTys : List D → Option (List String)
  | [] => some []
  | .ty n :: l => if n ∈ clNs then (toTys l).map (n :: ·) else none
  | _ => none
def bIsi (xs : List Ev) (M : Mem) : R Ev := match xs with
  | [x, .d (.ty b)] => match tyN x with
    | some a => if b ∈ clNs then .ok (bv (isOf a b)) M else .stuck
    | none => .stuck
  | [x, .d (.tup l)] => match tyN x, toTys l with
    | some a, some bs => .ok (bv (bs.any (isOf a))) M
    | _, _ => .stuck
  | _ => .stuck
theorem kitAny_of {K : PySem.W.Frag} {a : String} (ha : a ∈ tyNs) : ∀ {bs : List String}, (∀ b ∈ bs, b ∈ clNs) → PySem.W.kitAny K (.type a) (bs.map Value.type) = some (bs.any (isOf a))
  | [], _ => kitAny_nil
  | b :: bs, h => by
    have k := kit_ty (K := K) (kit_all a ha b (h b List.mem_cons_self))
    have ih := kitAny_of ha (K := K) (bs := bs) (fun c hc => h c (List.mem_cons_of_mem _ hc))
    refine kitAny_cons k (fun e => ?_) (fun e => ?_)
    · rw [ih, List.any_cons, e]; rfl
    · rw [List.any_cons, e]; rfl
theorem toTys_at {K : PySem.W.Frag} {A m : List Addr} {H : Hp} : ∀ {l : List D} {bs : List String} {vs : List V}, toTys l = some bs → Rps K A m H l vs → vs = bs.map V.ty ∧ ∀ b ∈ bs, b ∈ clNs
  | [], _, _, h, r => by cases h; exact ⟨r, by simp⟩
  | .ty n :: l, bs, _, h, ⟨v, r, e, h1, h2⟩ => by
    unfold toTys at h
    split at h
    · rename_i hn
      cases e2 : toTys l with
      | none => rw [e2] at h; cases h
      | some q =>
        rw [e2] at h; cases h
        have ih := toTys_at e2 h2
        refine ⟨by rw [e, show v = V.ty n from h1, ih.1]; rfl, fun b hb => ?_⟩
        rcases List.mem_cons.mp hb with rfl | hb
        · exact hn
        · exact ih.2 b hb
    · cases h
  | .non :: _, _, _, h, _ => by cases h
  | .int _ :: _, _, _, h, _ => by cases h
  | .str _ :: _, _, _, h, _ => by cases h
  | .bl _ :: _, _, _, h, _ => by cases h
  | .at _ :: _, _, _, h, _ => by cases h
  | .ob _ :: _, _, _, h, _ => by cases h
  | .sc _ :: _, _, _, h, _ => by cases h
  | .tup _ :: _, _, _, h, _ => by cases h
  | .lst _ :: _, _, _, h, _ => by cases h
  | .dK _ _ :: _, _, _, h, _ => by cases h
  | .dT _ _ :: _, _, _, h, _ => by cases h
theorem clsV_tys : ∀ (bs : List String), Paired ClsV (bs.map V.ty) (bs.map Value.type)
  | [] => .nil
  | b :: bs => .cons (.ty b) (clsV_tys bs)
/-- isinstance(x, (c1, c2)) -/
def rIsiTS (K : PySem.W.Frag) : List V → Hp → VK → Prop := fun xs H Q => ∃ (x : V) (tp : Addr) (cs : List String) (t : Value) (b : Bool), xs = [x, .ref tp] ∧ SqT K H tp (cs.map V.ty) ∧ TyX K H x t ∧ PySem.W.kitAny K t (cs.map Value.type) = some b ∧ Q (.bl b) H
theorem call_isiTS : CallR X (.builtin "isinstance") (rIsiTS X.K) := by
  intro pins s σ H xs us Q I r h
  obtain ⟨x, tp, cs, t, b, rfl, hT, ty, e, q⟩ := h
  obtain ⟨u1, u2, rfl, r1, r2⟩ := vals2 r
  cases (show u2 = Value.ref tp from r2)
  obtain ⟨P, Z, p, hx⟩ := kit_of I r1 ty
  obtain ⟨its, rv, ⟨o, h1, h2, n, h3⟩, _⟩ := I.tuple hT
  have e3 := ClsV.all (clsV_tys cs) rv
  subst e3
  obtain ⟨oc, od, dt, sl⟩ := o
  simp only at h2 h3
  subst h2 h3
  exact PySem.W.kia_tup Z I.kIn p h1 e hx fun tk => ⟨.bl b, H, I.tok tk, rfl, q⟩
theorem bi_isi : BIs X T W (.builtin "isinstance") bIsi := by
  refine ⟨_, call_isi.or call_isiTS, ?_⟩
  intro H0 A m M H ρ σ P xs vs Q F ra h
  unfold bIsi at h
  split at h
  · rename_i x b
    obtain ⟨v, w, rfl, r1, r2⟩ := Paired.two ra
    split at h
    · rename_i a ha
      split at h
      · rename_i hb
        exact .inl ⟨v, w, .type a, .type b, isOf a b, rfl, by rw [show w = V.ty b from r2]; exact .ty b, tyN_at ha r1, kit_ty (kit_all a (tyN_mem ha) b hb), h.fin F rfl⟩
      · exact h.elim
    · exact h.elim
  · rename_i x l
    obtain ⟨v, w, rfl, r1, r2⟩ := Paired.two ra
    split at h
    · rename_i a bs ha hb
      obtain ⟨p, vs, e, hs, q⟩ := r2
      have z := toTys_at hb q
      refine .inr ⟨v, p, bs, .type a, bs.any (isOf a), by rw [e], by rw [← z.1]; exact SqT.of hs, tyN_at ha r1, kitAny_of (tyN_mem ha) z.2, h.fin F rfl⟩
    · exact h.elim
  · exact h.elim
/-! ### subscripts -/
def ixOf (l : List D) (i : Int) : Option D := atI l i
theorem atI_rps {K : PySem.W.Frag} {A m : List Addr} {H : Hp} {l : List D} {vs : List V} {i : Int} {d : D} (r : Rps K A m H l vs) (h : atI l i = some d) : ∃ v, atI vs i = some v ∧ Rp K A m H d v := by
  unfold atI at h ⊢
  rw [Rps.len r]
  cases e : ixN l.length i with
  | none => rw [e] at h; cases h
  | some j =>
    rw [e] at h
    obtain ⟨v, e1, e2⟩ := Rps.get r (show l[j]? = some d from h)
    exact ⟨v, e1, e2⟩
theorem paired_at {α β : Type} {G : α → β → Prop} {l : List α} {vs : List β} {i : Int} {d : α} (r : Paired G l vs) (h : atI l i = some d) : ∃ v, atI vs i = some v ∧ G d v := by
  unfold atI at h ⊢
  rw [← Paired.length r]
  cases e : ixN l.length i with
  | none => rw [e] at h; cases h
  | some j =>
    rw [e] at h
    exact paired_get r (show l[j]? = some d from h)
/-- the place of a key, its value -/
def keyOf : D → Option Key
  | .int i => some (.inl i)
  | .str s => some (.inr s)
  | _ => none
def keysOf : List D → Option (List Key)
  | [] => some []
  | d :: l => match keyOf d, keysOf l with
    | some k, some r => some (k :: r)
    | _, _ => none
def vAt {κ : Type} [DecidableEq κ] : List κ → List D → κ → Option D
  | k :: ks, d :: l, j => if k = j then some d else vAt ks l j
  | _, _, _ => none
def opIx (a b : Ev) (M : Mem) : R Ev := match a, b with
  | .d (.ob n), .d (.int i) => match M[n]? with
    | some (.lst l) => match atI l i with
      | some d => .ok (.d d) M
      | none => .stuck
    | none => .stuck
  | .d (.str s), .d (.int i) => if s.length ≤ most then match atI s.cps.toList i with
    | some c => .ok (.d (.str ⟨#[c]⟩)) M
    | none => .stuck
    else .stuck
  | .rw .vw rows, .d (.int i) => match atI rows i with
    | some row => .ok (.ls .vw row) M
    | none => .stuck
  | a, .d (.int i) => match seqOf a with
    | some l => match atI l i with
      | some d => .ok (.d d) M
      | none => .stuck
    | none => .stuck
  | _, _ => .stuck
theorem ok_ix : OpOk (cf X T W) opIx (rIx X.K) := by
  intro H0 A m M H ρ σ P x y v w Q F rx ry h
  unfold opIx at h
  split at h
  · rename_i n i
    split at h
    · rename_i l hM
      split at h
      · rename_i d hi
        obtain ⟨a, vs, e, _, hs, q⟩ := F.obj hM rx
        obtain ⟨u, e1, e2⟩ := atI_rps q hi
        exact .inl ⟨a, vs, i, u, e, ry, SqL.of hs, e1, h.fin F e2⟩
      · exact h.elim
    · exact h.elim
  · rename_i s i
    split at h
    · rename_i hc
      split at h
      · rename_i c hi
        exact .inr (.inr ⟨s, i, c, rx, ry, most_line hc, hi, h.fin F rfl⟩)
      · exact h.elim
    · exact h.elim
  · rename_i rows i
    split at h
    · rename_i row hi
      obtain ⟨a, vs, e, hs, hm, h0, q⟩ := rx
      obtain ⟨u, e1, b, ws, e2, e3, e4, e5, e6⟩ := paired_at q hi
      exact .inl ⟨a, vs, i, u, e, ry, SqL.of hs, e1, h.fin F ⟨b, ws, e2, e3, e4, e5, e6⟩⟩
    · exact h.elim
  · rename_i i _ _ _
    split at h
    · rename_i l hl
      split at h
      · rename_i d hi
        obtain ⟨a, vs, e, hs, q⟩ := seqOf_at hl rx
        obtain ⟨u, e1, e2⟩ := atI_rps q hi
        rcases hs with hs | hs
        · exact .inl ⟨a, vs, i, u, e, ry, hs, e1, h.fin F e2⟩
        · exact .inr (.inl ⟨a, vs, i, u, e, ry, hs, e1, h.fin F e2⟩)
      · exact h.elim
    · exact h.elim
  · exact h.elim
theorem de_ix (ha : PE X a (tE (cf X T W) f)) (hb : PE X b (tE (cf X T W) g)) (hs : PlainIx b := by exact fun _ _ => rfl) : PE X (.Subscript a b pos) (tE (cf X T W) (eBin opIx f g)) :=
  ⟨fun pins s σ H Q I q => (pe_ix ix_seq ha hb hs).run pins s σ H Q I (tE_bin ok_ix q)⟩
/-! d[k] -/
def dval {κ : Type} [DecidableEq κ] (ks : List κ) (l : List D) (k : κ) (M : Mem) : R Ev := match vAt ks l k with
  | some d => .ok (.d d) M
  | none => .stuck
def opDix (a b : Ev) (M : Mem) : R Ev := match a, b with
  | .d (.dK ks l), .d x => match keyOf x with
    | some k => dval ks l k M
    | none => .stuck
  | .dk .vw ks l, .d x => match keyOf x with
    | some k => dval ks l k M
    | none => .stuck
  | .dk .pv ks l, .d x => match keyOf x with
    | some k => dval ks l k M
    | none => .stuck
  | .d (.dT ks l), .d (.tup x) => match keysOf x with
    | some k => dval ks l k M
    | none => .stuck
  | .dt .vw ks l, .d (.tup x) => match keysOf x with
    | some k => dval ks l k M
    | none => .stuck
  | .dt .pv ks l, .d (.tup x) => match keysOf x with
    | some k => dval ks l k M
    | none => .stuck
  | _, _ => .stuck
theorem keyOf_at {K : PySem.W.Frag} {A m : List Addr} {H : Hp} {d : D} {v : V} {k : Key} (h : keyOf d = some k) (r : Rp K A m H d v) : v = kV k := by
  unfold keyOf at h
  split at h
  · cases h; exact r
  · cases h; exact r
  · cases h
theorem keysOf_at {K : PySem.W.Frag} {A m : List Addr} {H : Hp} : ∀ {l : List D} {vs : List V} {ks : List Key}, keysOf l = some ks → Rps K A m H l vs → vs = ks.map kV
  | [], _, _, h, r => by cases h; exact r
  | d :: l, _, _, h, ⟨v, r, e, h1, h2⟩ => by
    unfold keysOf at h
    split at h
    · rename_i k q e1 e2
      cases h
      rw [e, keyOf_at e1 h1, keysOf_at e2 h2]; rfl
    · cases h
theorem vAt_val {κ : Type} [DecidableEq κ] {K : PySem.W.Frag} {A m : List Addr} {H : Hp} {k : κ} {d : D} : ∀ {kvs : List (κ × V)} {l : List D}, vAt (kvs.map (·.1)) l k = some d → Rps K A m H l (kvs.map (·.2)) → ∃ v, valV kvs k = some v ∧ Rp K A m H d v
  | [], l, h, _ => by cases l <;> cases h
  | p :: kvs, [], h, _ => by cases h
  | p :: kvs, x :: l, h, ⟨v, r, e, h1, h2⟩ => by
    rw [List.map_cons] at e
    cases e
    rw [List.map_cons] at h
    unfold vAt at h
    split at h
    · rename_i hk
      cases h
      exact ⟨p.2, valV_pos hk, h1⟩
    · rename_i hk
      rw [valV_neg hk]
      exact vAt_val h h2
theorem vAt_none {κ : Type} [DecidableEq κ] {K : PySem.W.Frag} {A m : List Addr} {H : Hp} {k : κ} : ∀ {kvs : List (κ × V)} {l : List D}, vAt (kvs.map (·.1)) l k = none → Rps K A m H l (kvs.map (·.2)) → valV kvs k = none
  | [], l, h, _ => valV_nil
  | p :: kvs, [], h, r => by cases (show _ = [] from r)
  | p :: kvs, x :: l, h, ⟨v, r, e, h1, h2⟩ => by
    rw [List.map_cons] at e
    cases e
    rw [List.map_cons] at h
    unfold vAt at h
    split at h
    · cases h
    · rename_i hk
      rw [valV_neg hk]
      exact vAt_none h h2
def OptR (K : PySem.W.Frag) (A m : List Addr) (H : Hp) (o : Option D) (u : Option V) : Prop := match o with
  | some d => ∃ v, u = some v ∧ Rp K A m H d v
  | none => u = none
/-- what a dict has at a key, in the heap -/
def dictIx (a b : Ev) : Option (Option D) := match a, b with
  | .d (.dK ks l), .d x => (keyOf x).map (vAt ks l)
  | .dk .vw ks l, .d x => (keyOf x).map (vAt ks l)
  | .dk .pv ks l, .d x => (keyOf x).map (vAt ks l)
  | .d (.dT ks l), .d (.tup x) => (keysOf x).map (vAt ks l)
  | .dt .vw ks l, .d (.tup x) => (keysOf x).map (vAt ks l)
  | .dt .pv ks l, .d (.tup x) => (keysOf x).map (vAt ks l)
  | _, _ => none
theorem dict_k {K : PySem.W.Frag} {A m : List Addr} {H : Hp} {a : Addr} {kvs : List (Key × V)} {l : List D} {x : D} {w : V} {o : Option D} (hs : H a = some (.dK kvs)) (q : Rps K A m H l (kvs.map (·.2))) (r : Rp K A m H x w)
    (h : (keyOf x).map (vAt (kvs.map (·.1)) l) = some o) : ∃ u, DGet H a w u ∧ OptR K A m H o u := by
  cases e : keyOf x with
  | none => rw [e] at h; cases h
  | some k =>
    rw [e] at h
    have ew := keyOf_at e r
    subst ew
    refine ⟨valV kvs k, .k hs, ?_⟩
    have eo : vAt (kvs.map (·.1)) l k = o := by simpa using h
    cases o with
    | some d => exact vAt_val eo q
    | none => exact vAt_none eo q
theorem dict_t {K : PySem.W.Frag} {A m : List Addr} {H : Hp} {a : Addr} {kvs : List (List Key × V)} {l : List D} {x : List D} {w : V} {o : Option D} (hs : H a = some (.dT kvs)) (q : Rps K A m H l (kvs.map (·.2))) (r : Rp K A m H (.tup x) w)
    (h : (keysOf x).map (vAt (kvs.map (·.1)) l) = some o) : ∃ u, DGet H a w u ∧ OptR K A m H o u := by
  cases e : keysOf x with
  | none => rw [e] at h; cases h
  | some k =>
    rw [e] at h
    obtain ⟨b, vs, ew, hb, rb⟩ := r
    have ev := keysOf_at e rb
    subst ev
    subst ew
    refine ⟨valV kvs k, .t hs hb, ?_⟩
    have eo : vAt (kvs.map (·.1)) l k = o := by simpa using h
    cases o with
    | some d => exact vAt_val eo q
    | none => exact vAt_none eo q
theorem dictIx_at {K : PySem.W.Frag} {H0 H : Hp} {A m : List Addr} {x y : Ev} {v w : V} {o : Option D} (h : dictIx x y = some o) (r1 : EvR K H0 A m H x v) (r2 : EvR K H0 A m H y w) :
    ∃ a u, v = .ref a ∧ DGet H a w u ∧ OptR K A m H o u := by
  unfold dictIx at h
  split at h
  · obtain ⟨a, kvs, e, hs, ek, _, q⟩ := r1; subst ek; obtain ⟨u, q1, q2⟩ := dict_k hs q r2 h; exact ⟨a, u, e, q1, q2⟩
  · obtain ⟨a, kvs, e, hs, ek, _, _, q⟩ := r1; subst ek; obtain ⟨u, q1, q2⟩ := dict_k hs q r2 h; exact ⟨a, u, e, q1, q2⟩
  · obtain ⟨a, kvs, e, hs, ek, _, _, q⟩ := r1; subst ek; obtain ⟨u, q1, q2⟩ := dict_k hs q r2 h; exact ⟨a, u, e, q1, q2⟩
  · obtain ⟨a, kvs, e, hs, ek, _, q⟩ := r1; subst ek; obtain ⟨u, q1, q2⟩ := dict_t hs q r2 h; exact ⟨a, u, e, q1, q2⟩
  · obtain ⟨a, kvs, e, hs, ek, _, _, q⟩ := r1; subst ek; obtain ⟨u, q1, q2⟩ := dict_t hs q r2 h; exact ⟨a, u, e, q1, q2⟩
  · obtain ⟨a, kvs, e, hs, ek, _, _, q⟩ := r1; subst ek; obtain ⟨u, q1, q2⟩ := dict_t hs q r2 h; exact ⟨a, u, e, q1, q2⟩
  · cases h
/-- o[i], o a dict -/
def opDget (a b : Ev) (M : Mem) : R Ev := match dictIx a b with
  | some (some d) => .ok (.d d) M
  | _ => .stuck
theorem de_dget (hu : X.A.units + 1 < cLine) (ha : PE X a (tE (cf X T W) f)) (hb : PE X b (tE (cf X T W) g)) (hs : NoSl b := by exact fun _ _ => rfl) : PE X (.Subscript a b pos) (tE (cf X T W) (eBin opDget f g)) := by
  refine ⟨fun pins s σ H Q I q => (pe_dget hu ha hb hs).run pins s σ H Q I ?_⟩
  obtain ⟨H0, A, m, M, ρ, P, F, q⟩ := q
  refine sub F q fun x M1 H1 v F1 _ r1 q1 => ?_
  refine sub F1 q1 fun y M2 H2 w F2 s2 r2 q2 => ?_
  unfold opDget at q2
  split at q2
  · rename_i d hd
    obtain ⟨a, u, e, g, z, e2, r⟩ := dictIx_at hd (EvR.step F1.wr.aok F1.ma s2 r1) r2
    subst e2
    exact ⟨a, z, e, g, q2.fin F2 r⟩
  · exact q2.elim
/-- k in d, k not in d -/
def opDin (neg : Bool) (a b : Ev) (M : Mem) : R Ev := match dictIx b a with
  | some o => .ok (bv (if neg then !o.isSome else o.isSome)) M
  | none => .stuck
theorem isSome_of {K : PySem.W.Frag} {A m : List Addr} {H : Hp} {o : Option D} {u : Option V} (h : OptR K A m H o u) : u.isSome = o.isSome := by
  cases o with
  | some d => obtain ⟨v, e, _⟩ := h; rw [e]; rfl
  | none => rw [show u = none from h]; rfl
theorem dc_din (hu : X.A.units + 1 < cLine) (ha : PE X a (tE (cf X T W) f)) (hb : PE X b (tE (cf X T W) g)) : PC X .In a b (tE (cf X T W) (eBin (opDin false) f g)) := by
  refine ⟨fun pins s σ H Q I q => (pc_din hu ha hb).run pins s σ H Q I ?_⟩
  obtain ⟨H0, A, m, M, ρ, P, F, q⟩ := q
  refine sub F q fun x M1 H1 v F1 _ r1 q1 => ?_
  refine sub F1 q1 fun y M2 H2 w F2 s2 r2 q2 => ?_
  unfold opDin at q2
  split at q2
  · rename_i o hd
    obtain ⟨a, u, e, g, z⟩ := dictIx_at hd r2 (EvR.step F1.wr.aok F1.ma s2 r1)
    refine ⟨a, u, e, g, ?_⟩
    rw [isSome_of z]; exact q2.fin F2 rfl
  · exact q2.elim
theorem dc_dnotin (hu : X.A.units + 1 < cLine) (ha : PE X a (tE (cf X T W) f)) (hb : PE X b (tE (cf X T W) g)) : PC X .NotIn a b (tE (cf X T W) (eBin (opDin true) f g)) := by
  refine ⟨fun pins s σ H Q I q => (pc_dnotin hu ha hb).run pins s σ H Q I ?_⟩
  obtain ⟨H0, A, m, M, ρ, P, F, q⟩ := q
  refine sub F q fun x M1 H1 v F1 _ r1 q1 => ?_
  refine sub F1 q1 fun y M2 H2 w F2 s2 r2 q2 => ?_
  unfold opDin at q2
  split at q2
  · rename_i o hd
    obtain ⟨a, u, e, g, z⟩ := dictIx_at hd r2 (EvR.step F1.wr.aok F1.ma s2 r1)
    refine ⟨a, u, e, g, ?_⟩
    rw [isSome_of z]; exact q2.fin F2 rfl
  · exact q2.elim
theorem de_pc {op : CmpOp} {o : Sm Ev} (h : PC X op a b (tE (cf X T W) o)) (h1 : behindInMarks op b = false := by first | exact nobehind _ (by decide) (by decide) | rfl) : PE X (.Compare a [op] [b] pos) (tE (cf X T W) o) := pe_cmp h h1
theorem dt_pc {op : CmpOp} {o : Sm Ev} (h : PC X op a b (tE (cf X T W) o)) (h1 : behindInMarks op b = false := by first | exact nobehind _ (by decide) (by decide) | rfl) : PT X (.Compare a [op] [b] pos) (tT (cf X T W) fun ρ M => asB (o ρ M)) := by
  refine ⟨fun pins s σ H Q I q => (pt_cmp h h1).run pins s σ H Q I ?_⟩
  obtain ⟨H0, A, m, M, ρ, P, F, q⟩ := q
  exact asB_run F q
/-! ### x in l, l a list or tuple of flat things -/
def flatD : D → Bool
  | .non => true
  | .bl _ => true
  | .int _ => true
  | .str _ => true
  | _ => false
def flatE : Ev → Bool
  | .d x => flatD x
  | _ => false
def eqD1 : D → D → Bool
  | .non, .non => true
  | .bl a, .bl b => a == b
  | .bl a, .int b => (if a then 1 else 0) == b
  | .int a, .bl b => a == (if b then 1 else 0)
  | .int a, .int b => a == b
  | .str a, .str b => a == b
  | _, _ => false
theorem flat_at {K : PySem.W.Frag} {A m : List Addr} {H : Hp} {x : D} {v : V} (h : flatD x = true) (r : Rp K A m H x v) : flatV v = true ∧ scV x = some v := by
  cases x <;> first | (cases (show v = _ from r); exact ⟨rfl, rfl⟩) | cases h
theorem eqD1_at {x y : D} {v w : V} (h1 : scV x = some v) (h2 : scV y = some w) : eqV v w = eqD1 x y := by
  cases x <;> cases h1 <;> cases y <;> cases h2 <;> rfl
def inD (x : D) (l : List D) : Bool := l.any fun y => eqD1 y x
theorem inD_at {K : PySem.W.Frag} {A m : List Addr} {H : Hp} {x : D} {v : V} (h1 : scV x = some v) : ∀ {l : List D} {vs : List V}, l.all flatD = true → Rps K A m H l vs → vs.all flatV = true ∧ inV v vs = inD x l
  | [], _, _, r => by cases (show _ = [] from r); exact ⟨rfl, rfl⟩
  | y :: l, _, h, ⟨w, r, e, q1, q2⟩ => by
    subst e
    rw [List.all_cons, Bool.and_eq_true] at h
    have a := flat_at h.1 q1
    have ih := inD_at h1 h.2 q2
    refine ⟨by rw [List.all_cons, a.1, ih.1]; rfl, ?_⟩
    show (eqV w v || inV v r) = (eqD1 y x || inD x l)
    rw [eqD1_at a.2 h1, ih.2]
def opIn (neg : Bool) (a b : Ev) (M : Mem) : R Ev := match a, seqOf b with
  | .d x, some l => if flatD x = true ∧ l.all flatD = true then .ok (bv (if neg then !inD x l else inD x l)) M else .stuck
  | _, _ => .stuck
theorem ok_in {neg : Bool} : OpOk (cf X T W) (opIn neg) (rIn X.K neg) := by
  intro H0 A m M H ρ σ P x y v w Q F rx ry h
  unfold opIn at h
  split at h
  · rename_i x' l hl
    split at h
    · rename_i hc
      obtain ⟨a, vs, e, hs, q⟩ := seqOf_at hl ry
      have f := flat_at hc.1 (show Rp _ _ _ _ x' v from rx)
      have z := inD_at f.2 hc.2 q
      refine ⟨a, vs, e, hs, f.1, z.1, ?_⟩
      rw [z.2]; exact h.fin F rfl
    · exact h.elim
  · exact h.elim
theorem ci_in : CmpIs X T W .In (opIn false) := ⟨_, op_in_seq, ok_in⟩
theorem ci_notin : CmpIs X T W .NotIn (opIn true) := ⟨_, op_notIn_seq, ok_in⟩
/-! ### slices -/
def SOk (C : Cf) (op : Ev → Option Int → Option Int → Mem → R Ev) (r : V → Option Int → Option Int → Hp → VK → Prop) : Prop := ∀ H0 A m M H ρ σ P x v lo hi Q, FR C H0 A m M H ρ σ P → EvR C.K H0 A m H x v → PX C m σ (EvR C.K H0 A m) H (op x lo hi M) Q → r v lo hi H Q
def cutD {α : Type} (xs : List α) (lo hi : Option Int) : List α := (xs.drop (HT.sIx xs.length 0 lo)).take (HT.sIx xs.length xs.length hi - HT.sIx xs.length 0 lo)
theorem cutD_rps {K : PySem.W.Frag} {A m : List Addr} {H : Hp} {l : List D} {vs : List V} (r : Rps K A m H l vs) (lo hi : Option Int) : Rps K A m H (cutD l lo hi) (cutV vs lo hi) := by
  unfold cutD cutV
  rw [Rps.len r]
  exact Rps.take _ (Rps.drop _ r)
def opSl (x : Ev) (lo hi : Option Int) (M : Mem) : R Ev := match x with
  | .d (.tup l) => .ok (.d (.tup (cutD l lo hi))) M
  | .d (.sc ns) => .ok (.d (.lst (cutD (ns.map D.int) lo hi))) M
  | x => match lstOf x with
    | some l => .ok (.d (.lst (cutD l lo hi))) M
    | none => .stuck
theorem cutD_all {α : Type} {xs : List α} {lo hi : Option Int} (h : HT.sIx xs.length 0 lo = 0 ∧ HT.sIx xs.length xs.length hi = xs.length) : cutD xs lo hi = xs := by
  unfold cutD
  rw [h.1, h.2]
  simp
theorem sl_A : L2.SlR X (fun x lo hi H Q => rSlL X.K x lo hi H Q ∨ rSlA X.K x lo hi H Q) := sl_list.or sl_tupA
theorem ok_sl : SOk (cf X T W) opSl (fun x lo hi H Q => rSlL X.K x lo hi H Q ∨ rSlA X.K x lo hi H Q) := by
  intro H0 A m M H ρ σ P x v lo hi Q F r h
  unfold opSl at h
  split at h
  · rename_i l
    obtain ⟨a, vs, e, hs, q⟩ := r
    refine .inr ⟨a, vs, e, SqT.of hs, fun z => ?_, fun _ p hp => h.made F hp (newT (C := cf X T W) hp (cutD_rps q lo hi))⟩
    rw [Rps.len q] at z
    rw [cutD_all z] at h
    exact h.fin F ⟨a, vs, rfl, hs, q⟩
  · rename_i ns
    obtain ⟨a, e, hs⟩ := r
    have hq : SqL X.K H a (ns.map V.int) := hs.elim (fun h => .inl (.inr h)) .inr
    exact .inl ⟨a, ns.map V.int, e, hq, fun p hp => h.made F hp (newL (C := cf X T W) F hp (cutD_rps (Rps.of_ints ns) lo hi))⟩
  · split at h
    · rename_i l hl
      obtain ⟨a, vs, e, hs, q⟩ := lstOf_at hl r
      exact .inl ⟨a, vs, e, SqL.of hs, fun p hp => h.made F hp (newL F hp (cutD_rps q lo hi))⟩
    · exact h.elim
/-- a part of a slice -/
def relO : Rel (Option Int) (Option Int) := fun _ _ _ _ a b => a = b
abbrev tOI (C : Cf) (f : Sm (Option Int)) : TO := tX C relO f
def oNone : Sm (Option Int) := fun _ M => .ok none M
def oSome (f : Sm Ev) : Sm (Option Int) := fun ρ M => bnd (f ρ M) fun x M1 => match x with
  | .d (.int i) => .ok (some i) M1
  | _ => .stuck
theorem do_none : PO X none (tOI (cf X T W) oNone) := by
  refine ⟨fun pins s σ H Q I q => po_none.run pins s σ H Q I ?_⟩
  obtain ⟨H0, A, m, M, ρ, P, F, q⟩ := q
  exact q.fin F rfl
theorem do_some (ha : PE X a (tE (cf X T W) f)) : PO X (some a) (tOI (cf X T W) (oSome f)) := by
  refine ⟨fun pins s σ H Q I q => (po_some ha).run pins s σ H Q I ?_⟩
  obtain ⟨H0, A, m, M, ρ, P, F, q⟩ := q
  refine sub F q fun x M1 H1 v F1 _ r1 q1 => ?_
  split at q1
  · rename_i i; exact ⟨i, r1, q1.fin F1 rfl⟩
  · exact q1.elim
def eSl (f : Sm Ev) (lo hi : Sm (Option Int)) : Sm Ev := fun ρ M => bnd (f ρ M) fun x M1 => bnd (lo ρ M1) fun i M2 => bnd (hi ρ M2) fun j M3 => opSl x i j M3
theorem de_sl {lo hi : Option Expr} {ol oh : Sm (Option Int)} {p2 : Pos} (ha : PE X a (tE (cf X T W) f)) (hl : PO X lo (tOI (cf X T W) ol)) (hh : PO X hi (tOI (cf X T W) oh)) : PE X (.Subscript a (.Slice lo hi none p2) pos) (tE (cf X T W) (eSl f ol oh)) := by
  refine ⟨fun pins s σ H Q I q => (pe_slice sl_A ha hl hh).run pins s σ H Q I ?_⟩
  obtain ⟨H0, A, m, M, ρ, P, F, q⟩ := q
  refine sub F q fun x M1 H1 v F1 _ r1 q1 => ?_
  refine sub F1 q1 fun i M2 H2 i' F2 s2 r2 q2 => ?_
  refine sub F2 q2 fun j M3 H3 j' F3 s3 r3 q3 => ?_
  cases (show i = i' from r2)
  cases (show j = j' from r3)
  exact ok_sl H0 A m M3 H3 ρ σ P x v i j Q F3 (EvR.step F2.wr.aok F2.ma s3 (EvR.step F1.wr.aok F1.ma s2 r1)) q3
end
end DL

set_option Elab.async false
set_option linter.all false
set_option maxRecDepth 100000
set_option maxHeartbeats 2000000
/-! The data layer: frames that grow, are written; statements. -/
namespace DL
open PySem PySem.Spec PyProof.Rows L2
theorem not_lv_of {H : Hp} {a : Addr} (h : H a = none) : ¬ Lv H a := fun ⟨o, e, _⟩ => by rw [h] at e; cases e
/-- what a statement may do: write within A, lay new things -/
structure Ext (A : List Addr) (H : Hp) (A' : List Addr) (H' : Hp) : Prop where
  sub : ∀ a ∈ A, a ∈ A'
  new : ∀ a ∈ A', a ∈ A ∨ ¬ Lv H a
  keep : Stp A H H'
theorem Ext.refl {A : List Addr} {H : Hp} : Ext A H A H := ⟨fun _ h => h, fun _ h => .inl h, Stp.refl _ _⟩
theorem Ext.trans {A A1 A2 : List Addr} {H H1 H2 : Hp} (a : Ext A H A1 H1) (b : Ext A1 H1 A2 H2) : Ext A H A2 H2 :=
  ⟨fun x h => b.sub x (a.sub x h), fun x h => by
    rcases b.new x h with h | h
    · exact a.new x h
    · by_cases hx : x ∈ A
      · exact .inl hx
      · exact .inr fun z => h (a.keep.lv z hx),
   fun x o e n t => b.keep x o (a.keep x o e n t) (fun z => (a.new x z).elim n fun q => q ⟨o, e, t⟩) t⟩
theorem Ext.step {A m : List Addr} {H H' : Hp} (s : Stp m H H') (hm : ∀ a ∈ m, a ∈ A) : Ext A H A H' := ⟨fun _ h => h, fun _ h => .inl h, s.mono hm⟩
theorem Rp.ext {K : PySem.W.Frag} {A A' m : List Addr} {H H' : Hp} (e : Ext A H A' H') (ok : AOk A H) {d : D} {v : V} (h : Rp K A m H d v) : Rp K A' m H' d v :=
  Rp.step (B := A) ok e.sub e.keep d v (Rp.avoid e.new d v h)
theorem Rps.ext {K : PySem.W.Frag} {A A' m : List Addr} {H H' : Hp} (e : Ext A H A' H') (ok : AOk A H) {l : List D} {vs : List V} (h : Rps K A m H l vs) : Rps K A' m H' l vs :=
  Rps.step (B := A) ok e.sub e.keep l vs (Rps.avoid e.new l vs h)
section
variable {C : Cf} {K : PySem.W.Frag} {H0 H H' : Hp} {A A' m B : List Addr} {M M' : Mem} {ρ : Env} {σ : L2.St} {P : List Addr}
/-- writes at addresses that are no caller's: the slots whose own addresses are others stay -/
theorem EvR.pvO (ok : AOk B H) (hA : ∀ a ∈ B, a ∈ A) (h0 : ∀ a ∈ B, ¬ Lv H0 a) (s : Stp B H H') : ∀ {x : Ev} {v : V}, (match x with | .ls .pv _ => True | .dk .pv _ _ => True | .dt .pv _ _ => True | _ => False) → EvR K H0 A m H x v → EvR K H0 A m H' x v
  | .ls .pv l, v, _, ⟨a, vs, e, h, n, z, r⟩ => ⟨a, vs, e, s a _ h (fun hb => h0 a hb z) lst_tbl, n, z, Rps.step ok hA s _ _ r⟩
  | .dk .pv ks l, v, _, ⟨a, vs, e, h, ek, n, z, r⟩ => ⟨a, vs, e, s a _ h (fun hb => h0 a hb z) dK_tbl, ek, n, z, Rps.step ok hA s _ _ r⟩
  | .dt .pv ks l, v, _, ⟨a, vs, e, h, ek, n, z, r⟩ => ⟨a, vs, e, s a _ h (fun hb => h0 a hb z) dT_tbl, ek, n, z, Rps.step ok hA s _ _ r⟩
theorem SlR.stepO (ok : AOk B H) (hA : ∀ a ∈ B, a ∈ A) (h0 : ∀ a ∈ B, ¬ Lv H0 a) (s : Stp B H H') : ∀ {x : Ev} {v : V} {P : List Addr}, (∀ a ∈ P, a ∉ B) → SlR K H0 A m H x v P → SlR K H0 A m H' x v P
  | .d x, v, P, hP, ⟨e, h⟩ => ⟨e, Rp.step ok hA s x v h⟩
  | .ls .pv l, v, P, hP, ⟨e, h⟩ => ⟨e, EvR.pvO ok hA h0 s trivial h⟩
  | .ls .own l, v, P, hP, ⟨a, vs, e, h, eP, r⟩ => ⟨a, vs, e, s a _ h (hP a (by rw [eP]; exact List.mem_cons_self)) lst_tbl, eP, Rps.step ok hA s _ _ r⟩
  | .rw .own rows, v, P, hP, ⟨a, vs, P', e, h, eP, r⟩ => ⟨a, vs, P', e, s a _ h (hP a (by rw [eP]; exact List.mem_cons_self)) lst_tbl, eP, RowsR.step ok hA s (fun b hb => hP b (by rw [eP]; exact List.mem_cons_of_mem _ hb)) r⟩
  | .dk .pv ks l, v, P, hP, ⟨e, h⟩ => ⟨e, EvR.pvO ok hA h0 s trivial h⟩
  | .dk .own ks l, v, P, hP, ⟨a, kvs, e, h, ek, eP, r⟩ => ⟨a, kvs, e, s a _ h (hP a (by rw [eP]; exact List.mem_cons_self)) dK_tbl, ek, eP, Rps.step ok hA s _ _ r⟩
  | .dt .pv ks l, v, P, hP, ⟨e, h⟩ => ⟨e, EvR.pvO ok hA h0 s trivial h⟩
  | .dt .own ks l, v, P, hP, ⟨a, kvs, e, h, ek, eP, r⟩ => ⟨a, kvs, e, s a _ h (hP a (by rw [eP]; exact List.mem_cons_self)) dT_tbl, ek, eP, Rps.step ok hA s _ _ r⟩
  | .ls .vw _, _, _, _, h => h.elim
  | .rw .vw _, _, _, _, h => h.elim
  | .rw .pv _, _, _, _, h => h.elim
  | .dk .vw _ _, _, _, _, h => h.elim
  | .dt .vw _ _, _, _, _, h => h.elim
theorem ER.stepO (ok : AOk B H) (hA : ∀ a ∈ B, a ∈ A) (h0 : ∀ a ∈ B, ¬ Lv H0 a) (s : Stp B H H') : ∀ {ρ : Env} {σ : L2.St} {P : List Addr}, (∀ a ∈ P, a ∉ B) → ER K H0 A m H ρ σ P → ER K H0 A m H' ρ σ P
  | [], _, _, _, h => h
  | none :: ρ, σ, P, hP, ⟨y, τ, e, h⟩ => ⟨y, τ, e, ER.stepO ok hA h0 s hP h⟩
  | some x :: ρ, σ, P, hP, ⟨v, τ, P1, P2, e, eP, h1, h2⟩ =>
    ⟨v, τ, P1, P2, e, eP, SlR.stepO ok hA h0 s (fun a ha => hP a (by rw [eP]; exact List.mem_append_left _ ha)) h1, ER.stepO ok hA h0 s (fun a ha => hP a (by rw [eP]; exact List.mem_append_right _ ha)) h2⟩
/-- more addresses are avoided: new ones -/
theorem RowsR.avoid (hA : ∀ a ∈ A', a ∈ A ∨ ¬ Lv H a) : ∀ {rows : List (List D)} {vs : List V} {P : List Addr}, RowsR K A m H rows vs P → RowsR K A' m H rows vs P
  | [], _, _, h => h
  | row :: rows, vs, P, ⟨b, ws, r, P', e, eP, hb, hr, ht⟩ => ⟨b, ws, r, P', e, eP, hb, Rps.avoid hA _ _ hr, RowsR.avoid hA ht⟩
theorem SlR.avoid (hA : ∀ a ∈ A', a ∈ A ∨ ¬ Lv H a) : ∀ {x : Ev} {v : V} {P : List Addr}, SlR K H0 A m H x v P → SlR K H0 A' m H x v P
  | .d x, v, P, ⟨e, h⟩ => ⟨e, Rp.avoid hA x v h⟩
  | .ls .pv l, v, P, ⟨e, a, vs, e1, h, n, z, r⟩ => ⟨e, a, vs, e1, h, n, z, Rps.avoid hA _ _ r⟩
  | .ls .own l, v, P, ⟨a, vs, e, h, eP, r⟩ => ⟨a, vs, e, h, eP, Rps.avoid hA _ _ r⟩
  | .rw .own rows, v, P, ⟨a, vs, P', e, h, eP, r⟩ => ⟨a, vs, P', e, h, eP, RowsR.avoid hA r⟩
  | .dk .pv ks l, v, P, ⟨e, a, vs, e1, h, ek, n, z, r⟩ => ⟨e, a, vs, e1, h, ek, n, z, Rps.avoid hA _ _ r⟩
  | .dk .own ks l, v, P, ⟨a, kvs, e, h, ek, eP, r⟩ => ⟨a, kvs, e, h, ek, eP, Rps.avoid hA _ _ r⟩
  | .dt .pv ks l, v, P, ⟨e, a, vs, e1, h, ek, n, z, r⟩ => ⟨e, a, vs, e1, h, ek, n, z, Rps.avoid hA _ _ r⟩
  | .dt .own ks l, v, P, ⟨a, kvs, e, h, ek, eP, r⟩ => ⟨a, kvs, e, h, ek, eP, Rps.avoid hA _ _ r⟩
  | .ls .vw _, _, _, h => h.elim
  | .rw .vw _, _, _, h => h.elim
  | .rw .pv _, _, _, h => h.elim
  | .dk .vw _ _, _, _, h => h.elim
  | .dt .vw _ _, _, _, h => h.elim
theorem ER.avoid (hA : ∀ a ∈ A', a ∈ A ∨ ¬ Lv H a) : ∀ {ρ : Env} {σ : L2.St} {P : List Addr}, ER K H0 A m H ρ σ P → ER K H0 A' m H ρ σ P
  | [], _, _, h => h
  | none :: ρ, σ, P, ⟨y, τ, e, h⟩ => ⟨y, τ, e, ER.avoid hA h⟩
  | some x :: ρ, σ, P, ⟨v, τ, P1, P2, e, eP, h1, h2⟩ => ⟨v, τ, P1, P2, e, eP, SlR.avoid hA h1, ER.avoid hA h2⟩
theorem Tabs.mut {T : List (Addr × Str)} (t : LamX.Tabs T H) {a : Addr} {o o' : HO} (h : H a = some o) (mu : muta o) : LamX.Tabs T (L2.upd H a o') := by
  intro p hp
  obtain ⟨ps, e, ok, hc⟩ := t p hp
  have ne : p.1 ≠ a := ne_of e h (fun z => by rw [← z] at mu; exact mu)
  refine ⟨ps, by rw [upd_ne ne]; exact e, ok, fun pos cv q => ?_⟩
  obtain ⟨c, e1, e2⟩ := hc pos cv q
  refine ⟨c, e1, ?_⟩
  rw [upd_ne (ne_of e2 h (fun z => by rw [← z] at mu; exact mu))]
  exact e2
theorem WR.mut (w : WR K m M H) {a : Addr} {o o' : HO} (hm : a ∉ m) (h : H a = some o) (mu : muta o) : WR K m M (L2.upd H a o') := by
  refine ⟨w.len, w.nd, fun n b ob e1 e2 => ?_⟩
  have q := w.ok n b ob e1 e2
  have nb : b ≠ a := fun z => hm (by rw [← z]; exact List.mem_of_getElem? e1)
  cases ob with
  | lst l =>
    obtain ⟨vs, e, bl, r⟩ := q
    refine ⟨vs, by rw [upd_ne nb]; exact e, bl, ?_⟩
    have r1 : Rps K [a] m H l vs := Rps.bare l vs bl r
    have r2 : Rps K [a] m (L2.upd H a o') l vs := Rps.step (B := [a]) (fun x hx => by rw [List.mem_singleton.mp hx]; exact ⟨o, h, mu⟩) (fun _ z => z) (fun x u e n _ => by rw [upd_ne (fun z => n (by rw [z]; exact List.mem_singleton_self _))]; exact e) l vs r1
    exact Rps.bare l vs bl r2
theorem stp_upd {a : Addr} {o' : HO} : Stp [a] H (upd H a o') := fun x u e n _ => by rw [upd_ne (fun z => n (by rw [z]; exact List.mem_singleton_self _))]; exact e
theorem aok_one {a : Addr} {o : HO} (h : H a = some o) (mu : muta o) : AOk [a] H := fun x hx => by rw [List.mem_singleton.mp hx]; exact ⟨o, h, mu⟩
/-- an own address that no slot holds is written -/
theorem FR.write (F : FR C H0 A m M H ρ σ P) {a : Addr} {o o' : HO} (ha : a ∈ A) (hm : a ∉ m) (hP : a ∉ P) (h0 : ¬ Lv H0 a) (h : H a = some o) (mu : muta o) (mu' : muta o') : FR C H0 A m M (upd H a o') ρ σ P :=
  ⟨F.wr.mut hm h mu, Tabs.mut F.tb h mu, ER.stepO (B := [a]) (aok_one h mu) (fun x hx => by rw [List.mem_singleton.mp hx]; exact ha) (fun x hx => by rw [List.mem_singleton.mp hx]; exact h0) stp_upd (fun x hx z => hP (by rw [← List.mem_singleton.mp z]; exact hx)) F.er,
    F.nd, F.own, F.ma, fun x hx => by
      by_cases e : x = a
      · subst e; exact ⟨o', upd_same, mu'⟩
      · obtain ⟨u, e1, e2⟩ := F.aok x hx; exact ⟨u, by rw [upd_ne e]; exact e1, e2⟩,
    fun x u e n t => by
      have q := F.base x u e n t
      by_cases ex : x = a
      · subst ex; exact absurd ⟨u, e, t⟩ h0
      · rw [upd_ne ex]; exact q⟩
/-- a new list or dict that is avoided from now on -/
theorem FR.more (F : FR C H0 A m M H ρ σ P) {p : Addr} {o : HO} (hp : H p = none) (mu : muta o) : FR C H0 (p :: A) m M (upd H p o) ρ σ P := by
  have G := F.grow (o := o) hp
  refine ⟨G.wr, G.tb, ?_, F.nd, fun a ha => ⟨List.mem_cons_of_mem _ (F.own a ha).1, (F.own a ha).2⟩, fun a ha => List.mem_cons_of_mem _ (F.ma a ha), fun x hx => ?_, G.base⟩
  · have e1 : ER C.K H0 (p :: A) m H ρ σ P := ER.avoid (fun a ha => (List.mem_cons.mp ha).elim (fun z => .inr (by rw [z]; exact not_lv_of hp)) .inl) F.er
    exact ER.step F.wr.aok (fun a ha => List.mem_cons_of_mem _ (F.ma a ha)) (Stp.upd hp) (fun a ha => (F.own a ha).2.1) e1
  · rcases List.mem_cons.mp hx with rfl | hx
    · exact ⟨o, upd_same, mu⟩
    · exact G.aok x hx
theorem Ext.more {p : Addr} {o : HO} (hp : H p = none) : Ext A H (p :: A) (upd H p o) :=
  ⟨fun a h => List.mem_cons_of_mem _ h, fun a h => (List.mem_cons.mp h).elim (fun z => .inr (by rw [z]; exact not_lv_of hp)) .inl, Stp.upd hp⟩
theorem Ext.write {a : Addr} {o' : HO} (ha : a ∈ A) : Ext A H A (upd H a o') := ⟨fun _ h => h, fun _ h => .inl h, stp_upd.mono fun x hx => by rw [List.mem_singleton.mp hx]; exact ha⟩
/-! ### slots -/
theorem ER.len : ∀ {ρ : Env} {σ : L2.St} {P : List Addr}, ER K H0 A m H ρ σ P → σ.length = ρ.length
  | [], _, _, h => by rw [h.1]; rfl
  | none :: ρ, _, _, ⟨y, τ, e, h⟩ => by rw [e, List.length_cons, List.length_cons, ER.len h]
  | some x :: ρ, _, _, ⟨v, τ, P1, P2, e, eP, h1, h2⟩ => by rw [e, List.length_cons, List.length_cons, ER.len h2]
/-- a slot takes another thing: its own addresses P1 among those of the others -/
theorem ER.set {x : Ev} {v : V} {P1 : List Addr} (hx : SlR K H0 A m H x v P1) : ∀ {ρ : Env} {σ : L2.St} {P : List Addr} (i : Nat), ER K H0 A m H ρ σ P → i < ρ.length →
    ∃ L R, ER K H0 A m H (ρ.set i (some x)) (σ.set i (some v)) (L ++ P1 ++ R) ∧ (L ++ R).Sublist P
  | [], _, _, _, _, hi => absurd hi (Nat.not_lt_zero _)
  | none :: ρ, σ, P, 0, ⟨y, τ, e, h⟩, _ => ⟨[], P, ⟨v, τ, P1, P, by rw [e]; rfl, rfl, hx, h⟩, List.Sublist.refl _⟩
  | some z :: ρ, σ, P, 0, ⟨w, τ, Q1, Q2, e, eP, h1, h2⟩, _ => ⟨[], Q2, ⟨v, τ, P1, Q2, by rw [e]; rfl, rfl, hx, h2⟩, by rw [eP]; exact List.sublist_append_right _ _⟩
  | none :: ρ, σ, P, i + 1, ⟨y, τ, e, h⟩, hi => by
    obtain ⟨L, R, q, s⟩ := ER.set hx i h (Nat.lt_of_succ_lt_succ hi)
    exact ⟨L, R, ⟨y, τ.set i (some v), by rw [e]; rfl, q⟩, s⟩
  | some z :: ρ, σ, P, i + 1, ⟨w, τ, Q1, Q2, e, eP, h1, h2⟩, hi => by
    obtain ⟨L, R, q, s⟩ := ER.set hx i h2 (Nat.lt_of_succ_lt_succ hi)
    refine ⟨Q1 ++ L, R, ⟨w, τ.set i (some v), Q1, L ++ P1 ++ R, by rw [e]; rfl, by simp, h1, q⟩, ?_⟩
    rw [eP, List.append_assoc]
    exact List.Sublist.append (List.Sublist.refl _) s
/-- a slot takes a thing without own addresses -/
theorem FR.set (F : FR C H0 A m M H ρ σ P) {x : Ev} {v : V} {i : Nat} (hx : SlR C.K H0 A m H x v []) (hi : i < ρ.length) : ∃ P', FR C H0 A m M H (ρ.set i (some x)) (σ.set i (some v)) P' := by
  obtain ⟨L, R, q, s⟩ := ER.set hx i F.er hi
  refine ⟨L ++ R, F.wr, F.tb, by simpa using q, s.nodup F.nd, fun a ha => F.own a (s.subset ha), F.ma, F.aok, F.base⟩
/-- a slot takes a new list or dict of its own -/
theorem FR.setNew (F : FR C H0 A m M H ρ σ P) {x : Ev} {p : Addr} {i : Nat} (hA : p ∈ A) (hP : p ∉ P) (hm : p ∉ m) (h0 : ¬ Lv H0 p) (hx : SlR C.K H0 A m H x (.ref p) [p]) (hi : i < ρ.length) : ∃ P', FR C H0 A m M H (ρ.set i (some x)) (σ.set i (some (.ref p))) P' := by
  obtain ⟨L, R, q, s⟩ := ER.set hx i F.er hi
  refine ⟨L ++ [p] ++ R, F.wr, F.tb, q, ?_, fun a ha => ?_, F.ma, F.aok, F.base⟩
  · have nd := s.nodup F.nd
    rw [List.append_assoc]
    rw [List.nodup_append] at nd ⊢
    refine ⟨nd.1, ?_, ?_⟩
    · rw [List.singleton_append, List.nodup_cons]
      exact ⟨fun z => hP (s.subset (List.mem_append_right _ z)), nd.2.1⟩
    · intro a ha b hb
      rcases List.mem_append.mp hb with hb | hb
      · rw [List.mem_singleton.mp hb]
        exact fun z => hP (s.subset (List.mem_append_left _ (by rw [← z]; exact ha)))
      · exact nd.2.2 a ha b hb
  · rcases List.mem_append.mp ha with ha | ha
    · rcases List.mem_append.mp ha with ha | ha
      · exact F.own a (s.subset (List.mem_append_left _ ha))
      · rw [List.mem_singleton.mp ha]; exact ⟨hA, hm, h0⟩
    · exact F.own a (s.subset (List.mem_append_right _ ha))
/-- an own thing of a slot is written -/
theorem ER.mut {x x' : Ev} {v : V} {a : Addr} (ok : AOk [a] H) (ha : a ∈ A) (h0 : ¬ Lv H0 a) (s : Stp [a] H H')
    (hx : ∀ P1, SlR K H0 A m H x v P1 → P1.Nodup → SlR K H0 A m H' x' v P1) (hy : ∀ P1, SlR K H0 A m H x v P1 → a ∈ P1) : ∀ {ρ : Env} {σ : L2.St} {P : List Addr} {i : Nat}, P.Nodup → ER K H0 A m H ρ σ P → ρ[i]? = some (some x) → σ[i]? = some (some v) → ER K H0 A m H' (ρ.set i (some x')) σ P
  | [], _, _, i, _, _, e, _ => by simp at e
  | none :: ρ, _, _, 0, _, _, e, _ => by simp at e
  | some z :: ρ, σ, P, 0, nd, ⟨w, τ, Q1, Q2, eσ, eP, h1, h2⟩, e, e2 => by
    simp at e
    subst e
    rw [eσ] at e2
    have ew : w = v := by simpa using e2
    rw [eP, List.nodup_append] at nd
    subst ew
    have q1 := hx Q1 h1 nd.1
    have q2 := hy Q1 h1
    refine ⟨w, τ, Q1, Q2, eσ, eP, q1, ER.stepO ok (fun x hx => by rw [List.mem_singleton.mp hx]; exact ha) (fun x hx => by rw [List.mem_singleton.mp hx]; exact h0) s (fun b hb z => ?_) h2⟩
    rw [List.mem_singleton.mp z] at hb
    exact nd.2.2 a q2 a hb rfl
  | none :: ρ, σ, P, i + 1, nd, ⟨y, τ, eσ, h⟩, e, e2 => ⟨y, τ, eσ, ER.mut ok ha h0 s hx hy nd h (by simpa using e) (by rw [eσ] at e2; simpa using e2)⟩
  | some z :: ρ, σ, P, i + 1, nd, ⟨w, τ, Q1, Q2, eσ, eP, h1, h2⟩, e, e2 => by
    rw [eσ] at e2
    rw [eP, List.nodup_append] at nd
    have e' : ρ[i]? = some (some x) := by simpa using e
    have e2' : τ[i]? = some (some v) := by simpa using e2
    obtain ⟨w', P1, q1, q2, q3⟩ := ER.get h2 e'
    have ew : w' = v := by rw [e2'] at q1; cases q1; rfl
    subst ew
    have ha2 : a ∈ Q2 := q3 a (hy P1 q2)
    refine ⟨w, τ, Q1, Q2, eσ, eP, SlR.stepO ok (fun x hx => by rw [List.mem_singleton.mp hx]; exact ha) (fun x hx => by rw [List.mem_singleton.mp hx]; exact h0) s (fun b hb z => ?_) h1, ER.mut ok ha h0 s hx hy nd.2.1 h2 e' e2'⟩
    rw [List.mem_singleton.mp z] at hb
    exact nd.2.2 a hb a ha2 rfl
end
end DL

set_option Elab.async false
set_option linter.all false
set_option maxRecDepth 100000
set_option maxHeartbeats 2000000
/-! The data layer: statements, loops, targets. -/
namespace DL
open PySem PySem.Spec PyProof.Rows L2
inductive SR where
  | nx (ρ : Env) (M : Mem)
  | rt (d : D) (M : Mem)
  | bk (ρ : Env) (M : Mem)
  | ct (ρ : Env) (M : Mem)
  | exc (c : Str) (f : Option (Str × D)) (ρ : Env) (M : Mem)
  | stuck
abbrev Ss := Env → Mem → SR
/-- what is wanted of a statement's end -/
def PZ (C : Cf) (H0 : Hp) (A m : List Addr) (H : Hp) (r : SR) (D : Ends) : Prop := match r with
  | .nx ρ' M' => ∀ A' H' σ' P', Ext A H A' H' → FR C H0 A' m M' H' ρ' σ' P' → D.nx σ' H'
  | .bk ρ' M' => ∀ A' H' σ' P', Ext A H A' H' → FR C H0 A' m M' H' ρ' σ' P' → D.bk σ' H'
  | .ct ρ' M' => ∀ A' H' σ' P', Ext A H A' H' → FR C H0 A' m M' H' ρ' σ' P' → D.ct σ' H'
  | .rt d M' => ∀ H' v, WR C.K m M' H' → LamX.Tabs C.T H' → Stp m H0 H' → (∀ B : List Addr, (∀ a ∈ B, a ∈ A ∧ Lv H0 a) → Rp C.K B m H' d v) → D.rt v H'
  | .exc c f ρ' M' => ∀ A' H' σ' P' cls d, Ext A H A' H' → FR C H0 A' m M' H' ρ' σ' P' → XR C.mg H' c f cls d → C.W cls d σ' H'
  | .stuck => False
def tS (C : Cf) (f : Ss) : TS := fun D σ H => ∃ H0 A m M ρ P, FR C H0 A m M H ρ σ P ∧ PZ C H0 A m H (f ρ M) D
/-- the ends but what follows are as before -/
theorem PZ.step {C : Cf} {H0 H H' : Hp} {A A' m : List Addr} {r : SR} {D : Ends} (e : Ext A H A' H') (h : PZ C H0 A m H r D) : PZ C H0 A' m H' r D := by
  cases r with
  | nx ρ M => exact fun A2 H2 σ2 P2 e2 F => h A2 H2 σ2 P2 (e.trans e2) F
  | bk ρ M => exact fun A2 H2 σ2 P2 e2 F => h A2 H2 σ2 P2 (e.trans e2) F
  | ct ρ M => exact fun A2 H2 σ2 P2 e2 F => h A2 H2 σ2 P2 (e.trans e2) F
  | rt d M => exact fun H2 v w t s q => h H2 v w t s fun B hB => q B fun a ha => ⟨e.sub a (hB a ha).1, (hB a ha).2⟩
  | exc c f ρ M => exact fun A2 H2 σ2 P2 cls d e2 F x => h A2 H2 σ2 P2 cls d (e.trans e2) F x
  | stuck => exact h
/-- an expression within a statement -/
def sE {α : Type} (r : R α) (ρ : Env) (k : α → Mem → SR) : SR := match r with
  | .ok a M => k a M
  | .exc c f M => .exc c f ρ M
  | .stuck => .stuck
theorem subS {α β : Type} {C : Cf} {H0 H : Hp} {A m : List Addr} {M : Mem} {ρ : Env} {σ : L2.St} {P : List Addr} {rel : Rel α β} {f : Sm α} {k : α → Mem → SR} {D : Ends} (F : FR C H0 A m M H ρ σ P) (h : PZ C H0 A m H (sE (f ρ M) ρ k) D) {G : β → Hp → Prop}
    (hk : ∀ d M1 H1 v, FR C H0 A m M1 H1 ρ σ P → Stp m H H1 → rel H0 A m H1 d v → PZ C H0 A m H1 (k d M1) D → G v H1) : tX C rel f σ H G := by
  refine ⟨H0, A, m, M, ρ, P, F, ?_⟩
  cases e : f ρ M with
  | ok d M1 =>
    rw [e] at h
    exact fun H1 v s w t q => hk d M1 H1 v (F.step s w t) s q (PZ.step (Ext.step s F.ma) h)
  | exc c g M1 =>
    rw [e] at h
    exact fun H1 cls d s w t x => h A H1 σ P cls d (Ext.step s F.ma) (F.step s w t) x
  | stuck => rw [e] at h; exact h.elim
section
variable {X : Cx} {T : List (Addr × Str)} {W : WX} {st : Stmt} {rest : List Stmt} {a b c e : Expr} {pos : Pos} {f g : Ss} {fe ge : Sm Ev} {tc : Sm Bool}
def sNext : Ss := fun ρ M => .nx ρ M
def sSeq (f g : Ss) : Ss := fun ρ M => match f ρ M with
  | .nx ρ' M' => g ρ' M'
  | r => r
theorem dss_nil : PSs X [] (tS (cf X T W) sNext) := by
  refine ⟨fun pins s σ H D I q => pss_nil.run pins s σ H D I ?_⟩
  obtain ⟨H0, A, m, M, ρ, P, F, q⟩ := q
  exact q A H σ P Ext.refl F
theorem dss_one (h : PS X st (tS (cf X T W) f)) : PSs X [st] (tS (cf X T W) f) := pss_one h
theorem seq_run {C : Cf} {H0 H : Hp} {A m : List Addr} {M : Mem} {ρ : Env} {D : Ends} (q : PZ C H0 A m H (sSeq f g ρ M) D) : PZ C H0 A m H (f ρ M) { D with nx := tS C g D } := by
  unfold sSeq at q
  cases e : f ρ M with
  | nx ρ' M' => rw [e] at q; exact fun A' H' σ' P' x F => ⟨H0, A', m, M', ρ', P', F, PZ.step x q⟩
  | bk ρ' M' => rw [e] at q; exact q
  | ct ρ' M' => rw [e] at q; exact q
  | rt d M' => rw [e] at q; exact q
  | exc c g ρ' M' => rw [e] at q; exact q
  | stuck => rw [e] at q; exact q
theorem dss_cons (h1 : PS X st (tS (cf X T W) f)) (h2 : PSs X rest (tS (cf X T W) g)) : PSs X (st :: rest) (tS (cf X T W) (sSeq f g)) := by
  refine ⟨fun pins s σ H D I q => (pss_cons h1 h2).run pins s σ H D I ?_⟩
  obtain ⟨H0, A, m, M, ρ, P, F, q⟩ := q
  exact ⟨H0, A, m, M, ρ, P, F, seq_run q⟩
theorem ds_pass : PS X (.Pass pos) (tS (cf X T W) sNext) := by
  refine ⟨fun pins s σ H D I q => ps_pass.run pins s σ H D I ?_⟩
  obtain ⟨H0, A, m, M, ρ, P, F, q⟩ := q
  exact q A H σ P Ext.refl F
def sBreak : Ss := fun ρ M => .bk ρ M
def sCont : Ss := fun ρ M => .ct ρ M
theorem ds_break : PS X (.Break pos) (tS (cf X T W) sBreak) := by
  refine ⟨fun pins s σ H D I q => ps_break.run pins s σ H D I ?_⟩
  obtain ⟨H0, A, m, M, ρ, P, F, q⟩ := q
  exact q A H σ P Ext.refl F
theorem ds_continue : PS X (.Continue pos) (tS (cf X T W) sCont) := by
  refine ⟨fun pins s σ H D I q => ps_continue.run pins s σ H D I ?_⟩
  obtain ⟨H0, A, m, M, ρ, P, F, q⟩ := q
  exact q A H σ P Ext.refl F
/-- an expression whose value is dropped -/
def sDrop (fe : Sm Ev) : Ss := fun ρ M => sE (fe ρ M) ρ fun _ M1 => .nx ρ M1
theorem ds_expr (he : PE X e (tE (cf X T W) fe)) (hs : swapsWith e none pos.line X.env = pure false := by rfl) : PS X (.Expr e pos) (tS (cf X T W) (sDrop fe)) := by
  refine ⟨fun pins s σ H D I q => (ps_expr he hs).run pins s σ H D I ?_⟩
  obtain ⟨H0, A, m, M, ρ, P, F, q⟩ := q
  refine subS F q fun x M1 H1 v F1 _ r1 q1 => ?_
  exact q1 A H1 σ P Ext.refl F1
/-- what is handed back -/
def retD : Ev → Option D
  | .d x => some x
  | .ls .vw l => some (.lst l)
  | .dk .vw ks l => some (.dK ks l)
  | .dt .vw ks l => some (.dT ks l)
  | .rw .vw rows => some (.lst (rows.map D.lst))
  | _ => none
def sRet (fe : Sm Ev) : Ss := fun ρ M => sE (fe ρ M) ρ fun x M1 => match retD x with
  | some d => .rt d M1
  | none => .stuck
theorem retD_at {K : PySem.W.Frag} {H0 H : Hp} {A B m : List Addr} {x : Ev} {d : D} {v : V} (h : retD x = some d) (r : EvR K H0 A m H x v) (hB : ∀ a ∈ B, a ∈ A ∧ Lv H0 a) : Rp K B m H d v := by
  have av : ∀ a ∈ B, a ∈ A ∨ ¬ Lv H a := fun a ha => .inl (hB a ha).1
  unfold retD at h
  split at h
  · cases h; exact Rp.avoid av _ _ r
  · cases h; obtain ⟨a, vs, e, hl, _, z, q⟩ := r; exact ⟨a, vs, e, hl, fun w => z (hB a w).2, Rps.avoid av _ _ q⟩
  · cases h; obtain ⟨a, vs, e, hl, ek, _, z, q⟩ := r; exact ⟨a, vs, e, hl, ek, fun w => z (hB a w).2, Rps.avoid av _ _ q⟩
  · cases h; obtain ⟨a, vs, e, hl, ek, _, z, q⟩ := r; exact ⟨a, vs, e, hl, ek, fun w => z (hB a w).2, Rps.avoid av _ _ q⟩
  · cases h
    rename_i rows
    obtain ⟨a, vs, e, hl, _, z, q⟩ := r
    refine ⟨a, vs, e, hl, fun w => z (hB a w).2, ?_⟩
    have all : ∀ {rows : List (List D)} {vs : List V}, Paired (fun row u => ∃ b ws, u = V.ref b ∧ H b = some (.lst ws) ∧ b ∉ m ∧ ¬ Lv H0 b ∧ Rps K A m H row ws) rows vs → Rps K B m H (rows.map D.lst) vs := by
      intro rows vs h
      induction h with
      | nil => exact rfl
      | cons h1 h2 ih =>
        obtain ⟨b, ws, e1, e2, e3, e4, e5⟩ := h1
        exact ⟨_, _, rfl, ⟨b, ws, e1, e2, fun w => e4 (hB b w).2, Rps.avoid av _ _ e5⟩, ih⟩
    exact all q
  · cases h
theorem ds_ret (he : PE X e (tE (cf X T W) fe)) : PS X (.Return (some e) pos) (tS (cf X T W) (sRet fe)) := by
  refine ⟨fun pins s σ H D I q => (ps_ret he).run pins s σ H D I ?_⟩
  obtain ⟨H0, A, m, M, ρ, P, F, q⟩ := q
  refine subS F q fun x M1 H1 v F1 _ r1 q1 => ?_
  split at q1
  · rename_i d hd
    exact q1 H1 v F1.wr F1.tb F1.base fun B hB => retD_at hd r1 hB
  · exact q1.elim
def sRetN : Ss := fun _ M => .rt .non M
theorem ds_retN : PS X (.Return none pos) (tS (cf X T W) sRetN) := by
  refine ⟨fun pins s σ H D I q => ps_retN.run pins s σ H D I ?_⟩
  obtain ⟨H0, A, m, M, ρ, P, F, q⟩ := q
  exact q H .non F.wr F.tb F.base fun B hB => rfl
/-- if -/
def sIf (tc : Sm Bool) (f g : Ss) : Ss := fun ρ M => sE (tc ρ M) ρ fun k M1 => if k = true then f ρ M1 else g ρ M1
theorem ds_if {p q : List Stmt} (hc : PT X c (tT (cf X T W) tc)) (ha : PSs X p (tS (cf X T W) f)) (hb : PSs X q (tS (cf X T W) g)) : PS X (.If c p q pos) (tS (cf X T W) (sIf tc f g)) := by
  refine ⟨fun pins s σ H D I w => (ps_if hc ha hb).run pins s σ H D I ?_⟩
  obtain ⟨H0, A, m, M, ρ, P, F, w⟩ := w
  refine subS F w fun x M1 H1 v F1 _ r1 q1 => ?_
  cases (show x = v from r1)
  cases x with
  | true => exact ⟨H0, A, m, M1, ρ, P, F1, q1⟩
  | false => exact ⟨H0, A, m, M1, ρ, P, F1, q1⟩
/-- name = e -/
def stor : Ev → Option Ev
  | .d x => some (.d x)
  | .ls .pv l => some (.ls .pv l)
  | .dk .pv ks l => some (.dk .pv ks l)
  | .dt .pv ks l => some (.dt .pv ks l)
  | _ => none
theorem stor_at {K : PySem.W.Frag} {H0 H : Hp} {A m : List Addr} {x y : Ev} {v : V} (h : stor x = some y) (r : EvR K H0 A m H x v) : SlR K H0 A m H y v [] := by
  unfold stor at h
  split at h <;> cases h
  · exact ⟨rfl, r⟩
  · exact ⟨rfl, r⟩
  · exact ⟨rfl, r⟩
  · exact ⟨rfl, r⟩
def sAsg (i : Nat) (fe : Sm Ev) : Ss := fun ρ M => sE (fe ρ M) ρ fun x M1 => match stor x with
  | some y => if i < ρ.length then .nx (ρ.set i (some y)) M1 else .stuck
  | none => .stuck
theorem asg_run {C : Cf} {H0 H : Hp} {A m : List Addr} {M : Mem} {ρ : Env} {σ : L2.St} {P : List Addr} {D : Ends} {x : Ev} {v : V} {i : Nat} (F : FR C H0 A m M H ρ σ P) (r : EvR C.K H0 A m H x v)
    (q : PZ C H0 A m H (match stor x with | some y => if i < ρ.length then .nx (ρ.set i (some y)) M else .stuck | none => .stuck) D) : D.nx (σ.set i (some v)) H := by
  split at q
  · rename_i y hy
    split at q
    · rename_i hi
      obtain ⟨P', F'⟩ := F.set (stor_at hy r) hi
      exact q A H _ P' Ext.refl F'
    · exact q.elim
  · exact q.elim
theorem ds_set {i : Nat} {x : Str} {pos' : Pos} (hN : X.N.Nodup) (he : PE X e (tE (cf X T W) fe)) (hi : X.N[i]? = some x := by rfl) (hx : Loc X.env.scope x := by first | exact Or.inl rfl | exact Or.inr rfl) (hs : swapsWith e (some (.Name x pos')) pos.line X.env = pure false := by rfl) (hf : X.fn x = true ∨ X.env.scope.names.lookup x = some .local := by first | exact .inl rfl | exact .inr rfl | assumption) :
    PS X (.Assign [.Name x pos'] e pos) (tS (cf X T W) (sAsg i fe)) := by
  refine ⟨fun pins s σ H D I q => (ps_set hN hi hx he hs hf).run pins s σ H D I ?_⟩
  obtain ⟨H0, A, m, M, ρ, P, F, q⟩ := q
  refine subS F q fun x M1 H1 v F1 _ r1 q1 => ?_
  exact asg_run F1 r1 q1
/-! ### targets -/
inductive Tgt where
  | one (i : Nat)
  | many (is : List Nat)
def gsN : List Nat → TGs
  | [] => gNil
  | i :: is => gCons (gName i) (gsN is)
def tgG (K : PySem.W.Frag) : Tgt → TG
  | .one i => gName i
  | .many is => gTup K is.length (gsN is)
/-- .. a list unpacked -/
def tgL (K : PySem.W.Frag) : Tgt → TG
  | .one i => gName i
  | .many is => gLst K is.length (gsN is)
def setAll (σ : L2.St) : List Nat → List V → L2.St
  | i :: is, v :: vs => setAll (σ.set i (some v)) is vs
  | _, _ => σ
def setAllE (ρ : Env) : List Nat → List D → Env
  | i :: is, d :: l => setAllE (ρ.set i (some (.d d))) is l
  | _, _ => ρ
theorem setAllE_len : ∀ {is : List Nat} {l : List D} {ρ : Env}, (setAllE ρ is l).length = ρ.length
  | [], _, _ => rfl
  | _ :: _, [], _ => rfl
  | i :: is, d :: l, ρ => by show (setAllE (ρ.set i (some (.d d))) is l).length = _; rw [setAllE_len, List.length_set]
theorem gsN_run {H : Hp} {Q : L2.St → Hp → Prop} : ∀ {is : List Nat} {vs : List V} {σ : L2.St}, vs.length = is.length → Q (setAll σ is vs) H → gsN is vs σ H Q
  | [], [], σ, _, q => ⟨rfl, q⟩
  | i :: is, v :: vs, σ, h, q => ⟨v, vs, rfl, gsN_run (by simpa using h) q⟩
theorem FR.setAll {C : Cf} {H0 H : Hp} {A m : List Addr} {M : Mem} : ∀ {is : List Nat} {l : List D} {vs : List V} {ρ : Env} {σ : L2.St} {P : List Addr}, FR C H0 A m M H ρ σ P → Rps C.K A m H l vs → (∀ i ∈ is, i < ρ.length) → ∃ P', FR C H0 A m M H (setAllE ρ is l) (DL.setAll σ is vs) P'
  | [], _, _, ρ, σ, P, F, _, _ => ⟨P, F⟩
  | i :: is, [], vs, ρ, σ, P, F, r, _ => by cases (show vs = [] from r); exact ⟨P, F⟩
  | i :: is, d :: l, _, ρ, σ, P, F, ⟨v, r, e, h1, h2⟩, hi => by
    subst e
    obtain ⟨P1, F1⟩ := F.set (x := .d d) (v := v) (i := i) ⟨rfl, h1⟩ (hi i List.mem_cons_self)
    have q := FR.setAll (is := is) F1 h2 (fun j hj => by rw [List.length_set]; exact hi j (List.mem_cons_of_mem _ hj))
    exact q
/-- what a target makes of the slots -/
def tgE (g : Tgt) (ρ : Env) (d : D) : Option Env := match g with
  | .one i => if i < ρ.length then some (ρ.set i (some (.d d))) else none
  | .many is => match d with
    | .tup l => if l.length = is.length ∧ ∀ i ∈ is, i < ρ.length then some (setAllE ρ is l) else none
    | _ => none
theorem tg_run {C : Cf} {H0 H : Hp} {A m : List Addr} {M : Mem} {ρ ρ' : Env} {σ : L2.St} {P : List Addr} {g : Tgt} {d : D} {v : V} {Q : L2.St → Hp → Prop} (F : FR C H0 A m M H ρ σ P) (r : Rp C.K A m H d v) (h : tgE g ρ d = some ρ')
    (q : ∀ σ' P', FR C H0 A m M H ρ' σ' P' → Q σ' H) : tgG C.K g v σ H Q := by
  cases g with
  | one i =>
    have h' : (if i < ρ.length then some (ρ.set i (some (.d d))) else none) = some ρ' := h
    split at h'
    · rename_i hi
      cases h'
      obtain ⟨P', F'⟩ := F.set (x := .d d) (v := v) ⟨rfl, r⟩ hi
      exact q _ P' F'
    · cases h'
  | many is =>
    cases d with
    | tup l =>
      have h' : (if l.length = is.length ∧ ∀ i ∈ is, i < ρ.length then some (setAllE ρ is l) else none) = some ρ' := h
      split at h'
      · rename_i hc
        cases h'
        obtain ⟨a, vs, e, hs, r⟩ := r
        obtain ⟨P', F'⟩ := FR.setAll (is := is) F r hc.2
        exact ⟨a, vs, e, SqT.of hs, by rw [Rps.len r]; exact hc.1, gsN_run (by rw [Rps.len r]; exact hc.1) (q _ P' F')⟩
      · cases h'
    | _ => cases h
/-- a, b = e (e a tuple) -/
def sAsgT (g : Tgt) (fe : Sm Ev) : Ss := fun ρ M => sE (fe ρ M) ρ fun x M1 => match x with
  | .d d => match tgE g ρ d with
    | some ρ' => .nx ρ' M1
    | none => .stuck
  | _ => .stuck
theorem ds_asg {tg : Expr} {g : Tgt} (he : PE X e (tE (cf X T W) fe)) (hg : PG X tg (tgG X.K g)) (hs : swapsWithSole [tg] e pos.line X.env = pure false := by rfl) (hw : swappedStores [tg] e X.env = pure none := by rfl)
    (h1 : (assignEach [tg] X.env).map (·.2) = [assign tg X.env] := by rfl) : PS X (.Assign [tg] e pos) (tS (cf X T W) (sAsgT g fe)) := by
  refine ⟨fun pins s σ H D I q => (ps_asg he hg hs hw h1).run pins s σ H D I ?_⟩
  obtain ⟨H0, A, m, M, ρ, P, F, q⟩ := q
  refine subS F q fun x M1 H1 v F1 _ r1 q1 => ?_
  split at q1
  · rename_i d
    split at q1
    · rename_i ρ' hρ
      exact tg_run F1 r1 hρ fun σ' P' F' => q1 A H1 σ' P' Ext.refl F'
    · exact q1.elim
  · exact q1.elim
/-- a, b = x, y with plain names -/
def stors : List Ev → Option (List Ev)
  | [] => some []
  | x :: l => match stor x, stors l with
    | some y, some r => some (y :: r)
    | _, _ => none
def setEvs (ρ : Env) : List Nat → List Ev → Env
  | i :: is, x :: l => setEvs (ρ.set i (some x)) is l
  | _, _ => ρ
def sPar (is : List Nat) (fs : Sm (List Ev)) : Ss := fun ρ M => sE (fs ρ M) ρ fun xs M1 => match stors xs with
  | some ys => if ys.length = is.length ∧ ∀ i ∈ is, i < ρ.length then .nx (setEvs ρ is ys) M1 else .stuck
  | none => .stuck
theorem FR.setEvs {C : Cf} {H0 H : Hp} {A m : List Addr} {M : Mem} : ∀ {is : List Nat} {xs ys : List Ev} {vs : List V} {ρ : Env} {σ : L2.St} {P : List Addr}, FR C H0 A m M H ρ σ P → EvL C.K H0 A m H xs vs → stors xs = some ys → (∀ i ∈ is, i < ρ.length) → ∃ P', FR C H0 A m M H (DL.setEvs ρ is ys) (DL.setAll σ is vs) P'
  | [], _, _, _, ρ, σ, P, F, _, _, _ => ⟨P, F⟩
  | i :: is, [], ys, vs, ρ, σ, P, F, r, h, _ => by cases r; cases h; exact ⟨P, F⟩
  | i :: is, x :: xs, ys, vs, ρ, σ, P, F, r, h, hi => by
    cases r with
    | cons r1 r2 =>
      unfold stors at h
      split at h
      · rename_i y r e1 e2
        cases h
        obtain ⟨P1, F1⟩ := F.set (i := i) (stor_at e1 r1) (hi i List.mem_cons_self)
        have q := FR.setEvs (is := is) F1 r2 e2 (fun j hj => by rw [List.length_set]; exact hi j (List.mem_cons_of_mem _ hj))
        exact q
      · cases h
theorem stors_len : ∀ {xs ys : List Ev}, stors xs = some ys → ys.length = xs.length
  | [], _, h => by cases h; rfl
  | x :: xs, _, h => by
    unfold stors at h
    split at h
    · rename_i y r e1 e2; cases h; rw [List.length_cons, List.length_cons, stors_len e2]
    · cases h
theorem ds_par {i j : Nat} {x y : Str} {fs : Sm (List Ev)} {px py pt : Pos} {kt k2 pt2} (hc : X.calm = true) (hN : X.N.Nodup) (ha : PA X [a, b] (tA (cf X T W) fs)) (hi : X.N[i]? = some x := by rfl) (hj : X.N[j]? = some y := by rfl) (hij : i ≠ j := by decide)
    (hx : X.env.scope.names.lookup x = some .local := by rfl) (hy : X.env.scope.names.lookup y = some .local := by rfl)
    (hw : swappedStores [.Tuple [.Name x px, .Name y py] kt pt] (.Tuple [a, b] k2 pt2) X.env = pure (some [x, y]) := by rfl)
    (hs : swapsWithSole [.Tuple [.Name x px, .Name y py] kt pt] (.Tuple [a, b] k2 pt2) pos.line X.env = pure false := by rfl) :
    PS X (.Assign [.Tuple [.Name x px, .Name y py] kt pt] (.Tuple [a, b] k2 pt2) pos) (tS (cf X T W) (sPar [i, j] fs)) := by
  refine ⟨fun pins s σ H D I q => (ps_par hc hN hi hj hij hx hy ha hw hs).run pins s σ H D I ?_⟩
  obtain ⟨H0, A, m, M, ρ, P, F, q⟩ := q
  refine subS F q fun xs M1 H1 vs F1 _ r1 q1 => ?_
  split at q1
  · rename_i ys hy
    split at q1
    · rename_i hc
      have e1 : xs.length = 2 := by rw [← stors_len hy]; exact hc.1
      obtain ⟨P', F'⟩ := FR.setEvs (is := [i, j]) F1 r1 hy hc.2
      have e2 : vs.length = 2 := by rw [← Paired.length r1]; exact e1
      match vs, e2 with
      | [v, w], _ => exact ⟨v, w, rfl, q1 A H1 _ P' Ext.refl F'⟩
    · exact q1.elim
  · exact q1.elim
theorem ds_par3 {i j l : Nat} {x y z : Str} {c : Expr} {fs : Sm (List Ev)} {px py pz pt : Pos} {kt k2 pt2} (hc : X.calm = true) (hN : X.N.Nodup) (ha : PA X [a, b, c] (tA (cf X T W) fs)) (hi : X.N[i]? = some x := by rfl) (hj : X.N[j]? = some y := by rfl) (hl : X.N[l]? = some z := by rfl) (hij : i ≠ j := by decide) (hil : i ≠ l := by decide) (hjl : j ≠ l := by decide)
    (hx : X.env.scope.names.lookup x = some .local := by rfl) (hy : X.env.scope.names.lookup y = some .local := by rfl) (hz : X.env.scope.names.lookup z = some .local := by rfl)
    (hw : swappedStores [.Tuple [.Name x px, .Name y py, .Name z pz] kt pt] (.Tuple [a, b, c] k2 pt2) X.env = pure (some [x, y, z]) := by rfl)
    (hs : swapsWithSole [.Tuple [.Name x px, .Name y py, .Name z pz] kt pt] (.Tuple [a, b, c] k2 pt2) pos.line X.env = pure false := by rfl) :
    PS X (.Assign [.Tuple [.Name x px, .Name y py, .Name z pz] kt pt] (.Tuple [a, b, c] k2 pt2) pos) (tS (cf X T W) (sPar [i, j, l] fs)) := by
  refine ⟨fun pins s σ H D I q => (ps_par3 hc hN hi hj hl hij hil hjl hx hy hz ha hw hs).run pins s σ H D I ?_⟩
  obtain ⟨H0, A, m, M, ρ, P, F, q⟩ := q
  refine subS F q fun xs M1 H1 vs F1 _ r1 q1 => ?_
  split at q1
  · rename_i ys hy
    split at q1
    · rename_i hc
      have e1 : xs.length = 3 := by rw [← stors_len hy]; exact hc.1
      obtain ⟨P', F'⟩ := FR.setEvs (is := [i, j, l]) F1 r1 hy hc.2
      have e2 : vs.length = 3 := by rw [← Paired.length r1]; exact e1
      match vs, e2 with
      | [v, w, u], _ => exact ⟨v, w, u, rfl, q1 A H1 _ P' Ext.refl F'⟩
    · exact q1.elim
  · exact q1.elim
/-! ### while -/
def sWhile (tc : Sm Bool) (f : Ss) : Nat → Ss
  | 0 => fun _ _ => .stuck
  | n + 1 => fun ρ M => sE (tc ρ M) ρ fun k M1 => if k = true then match f ρ M1 with
      | .nx ρ' M' => sWhile tc f n ρ' M'
      | .ct ρ' M' => sWhile tc f n ρ' M'
      | .bk ρ' M' => .nx ρ' M'
      | r => r
    else .nx ρ M1
/-- a turn's end: what the rest of the loop makes of it -/
theorem loop_run {C : Cf} {H0 H : Hp} {A m : List Addr} {r : SR} {k : Ss} {D : Ends} {N : L2.St → Hp → Prop}
    (q : PZ C H0 A m H (match r with | .nx ρ' M' => k ρ' M' | .ct ρ' M' => k ρ' M' | .bk ρ' M' => .nx ρ' M' | r => r) D)
    (hN : ∀ A' H' σ' P' ρ' M', Ext A H A' H' → FR C H0 A' m M' H' ρ' σ' P' → PZ C H0 A' m H' (k ρ' M') D → N σ' H') : PZ C H0 A m H r { D with nx := N, ct := N, bk := D.nx } := by
  cases r with
  | nx ρ' M' => exact fun A' H' σ' P' e F => hN A' H' σ' P' ρ' M' e F (PZ.step e q)
  | ct ρ' M' => exact fun A' H' σ' P' e F => hN A' H' σ' P' ρ' M' e F (PZ.step e q)
  | bk ρ' M' => exact q
  | rt d M' => exact q
  | exc c g ρ' M' => exact q
  | stuck => exact q
theorem ds_while {n : Nat} {body : List Stmt} (hp : PassesOwn (model X.prog X.w) X.A X.env X.xe) (hc : PT X c (tT (cf X T W) tc)) (hb : PSs X body (tS (cf X T W) f)) : PS X (.While c body [] pos) (tS (cf X T W) (sWhile tc f n)) := by
  refine ⟨fun pins s σ H D I q => (ps_while hp hc hb).run pins s σ H D I ?_⟩
  refine ⟨fun k σ H => tS (cf X T W) (sWhile tc f k) D σ H, ⟨n, q⟩, fun k σ H q => ?_⟩
  obtain ⟨H0, A, m, M, ρ, P, F, q⟩ := q
  cases k with
  | zero => exact q.elim
  | succ k =>
    refine subS F q fun x M1 H1 v F1 _ r1 q1 => ?_
    cases (show x = v from r1)
    cases x with
    | false => exact q1 A H1 σ P Ext.refl F1
    | true =>
      refine ⟨fun σ' H' => tS (cf X T W) (sWhile tc f k) D σ' H', fun σ' H' h => ⟨k, Nat.lt_succ_self k, h⟩, H0, A, m, M1, ρ, P, F1, ?_⟩
      exact loop_run (k := sWhile tc f k) q1 fun A' H' σ' P' ρ' M' e F' q' => ⟨H0, A', m, M', ρ', P', F', q'⟩
/-- turns over items -/
def forL (g : Tgt) (f : Ss) : List D → Ss
  | [] => fun ρ M => .nx ρ M
  | d :: r => fun ρ M => match tgE g ρ d with
    | some ρ1 => match f ρ1 M with
      | .nx ρ' M' => forL g f r ρ' M'
      | .ct ρ' M' => forL g f r ρ' M'
      | .bk ρ' M' => .nx ρ' M'
      | r => r
    | none => .stuck
def sFor (it : Sm (List D)) (g : Tgt) (f : Ss) : Ss := fun ρ M => sE (it ρ M) ρ fun items M1 => forL g f items ρ M1
end
end DL

set_option Elab.async false
set_option linter.all false
set_option maxRecDepth 100000
set_option maxHeartbeats 2000000
/-! The data layer: walked things, comprehensions. -/
namespace DL
open PySem PySem.Spec PyProof.Rows L2
/-- how far the heap may have gone while something is walked: by statements, within a comprehension -/
def RchS (A m : List Addr) (H0 H1 : Hp) (A' : List Addr) (H2 : Hp) : Prop := Ext A H1 A' H2 ∧ Stp m H0 H2
def RchC (A m : List Addr) (H1 : Hp) (A' : List Addr) (H2 : Hp) : Prop := (∀ a ∈ A', a ∈ A ∨ ¬ Lv H1 a) ∧ (∀ a ∈ A, a ∈ A') ∧ Stp m H1 H2
/-- the walk J gives items -/
structure Wk (C : Cf) (m : List Addr) (Rch : List Addr → Hp → Prop) (items : List D) (J : It) : Prop where
  go : ∀ A' H2, Rch A' H2 → ∀ (i : Nat) (d : D), items[i]? = some d → J.go i H2 ∧ ∀ x H3, J.yld i H2 x H3 → (H3 = H2 ∨ ∃ p o, H2 p = none ∧ H3 = upd H2 p o) ∧ Rp C.K A' m H3 d x
  stop : ∀ A' H2, Rch A' H2 → J.stop items.length H2
/-- k: within a comprehension -/
def tI (C : Cf) (k : Bool) (f : Sm (List D)) : TI := fun σ H G => ∃ H0 A m M ρ P, FR C H0 A m M H ρ σ P ∧ match f ρ M with
  | .ok items M1 => ∀ J H1, Stp m H H1 → WR C.K m M1 H1 → LamX.Tabs C.T H1 → Wk C m (if k = true then RchC A m H1 else RchS A m H0 H1) items J → G J H1
  | .exc c g M1 => ∀ H1 cls d, Stp m H H1 → WR C.K m M1 H1 → LamX.Tabs C.T H1 → XR C.mg H1 c g cls d → C.W cls d σ H1
  | .stuck => False
theorem subI {C : Cf} {k : Bool} {H0 H : Hp} {A m : List Addr} {M : Mem} {ρ : Env} {σ : L2.St} {P : List Addr} {α β : Type} {rel : Rel α β} {f : Sm α} {q : α → Mem → R (List D)} {G : It → Hp → Prop} (F : FR C H0 A m M H ρ σ P)
    (h : match bnd (f ρ M) q with
      | .ok items M1 => ∀ J H1, Stp m H H1 → WR C.K m M1 H1 → LamX.Tabs C.T H1 → Wk C m (if k = true then RchC A m H1 else RchS A m H0 H1) items J → G J H1
      | .exc c g M1 => ∀ H1 cls d, Stp m H H1 → WR C.K m M1 H1 → LamX.Tabs C.T H1 → XR C.mg H1 c g cls d → C.W cls d σ H1
      | .stuck => False) {G' : β → Hp → Prop}
    (hk : ∀ d M1 H1 v, FR C H0 A m M1 H1 ρ σ P → rel H0 A m H1 d v → (match q d M1 with
      | .ok items M2 => ∀ J H2, Stp m H1 H2 → WR C.K m M2 H2 → LamX.Tabs C.T H2 → Wk C m (if k = true then RchC A m H2 else RchS A m H0 H2) items J → G J H2
      | .exc c g M2 => ∀ H2 cls d, Stp m H1 H2 → WR C.K m M2 H2 → LamX.Tabs C.T H2 → XR C.mg H2 c g cls d → C.W cls d σ H2
      | .stuck => False) → G' v H1) : tX C rel f σ H G' := by
  refine ⟨H0, A, m, M, ρ, P, F, ?_⟩
  cases e : f ρ M with
  | stuck => rw [e] at h; exact h.elim
  | exc c g M1 => rw [e] at h; exact h
  | ok d M1 =>
    rw [e] at h
    intro H1 v s w t r
    refine hk d M1 H1 v (F.step s w t) r ?_
    have h' : (match q d M1 with
      | .ok items M1 => ∀ J H1, Stp m H H1 → WR C.K m M1 H1 → LamX.Tabs C.T H1 → Wk C m (if k = true then RchC A m H1 else RchS A m H0 H1) items J → G J H1
      | .exc c g M1 => ∀ H1 cls d, Stp m H H1 → WR C.K m M1 H1 → LamX.Tabs C.T H1 → XR C.mg H1 c g cls d → C.W cls d σ H1
      | .stuck => False) := h
    cases e2 : q d M1 with
    | stuck => rw [e2] at h'; exact h'.elim
    | exc c g M2 => rw [e2] at h'; exact fun H2 cls d s2 w t x => h' H2 cls d (s.trans s2) w t x
    | ok items M2 => rw [e2] at h'; exact fun J H2 s2 w t K => h' J H2 (s.trans s2) w t K
/-- a thing that is walked -/
def itemsOf (k : Bool) : Ev → Option (List D)
  | .d (.tup l) => some l
  | .d (.lst l) => some l
  | .ls .pv l => some l
  | .ls .vw l => if k = true then some l else none
  | _ => none
theorem list_stays {C : Cf} {k : Bool} {H0 H1 : Hp} {A m : List Addr} {M : Mem} {ρ : Env} {σ : L2.St} {P : List Addr} (F : FR C H0 A m M H1 ρ σ P) {x : Ev} {v : V} {l : List D} (hx : (∃ l, x = .d (.tup l)) → False) (h : itemsOf k x = some l) (r : EvR C.K H0 A m H1 x v) :
    ∃ a vs, v = .ref a ∧ H1 a = some (.lst vs) ∧ vs.length = l.length ∧ ∀ A' H2, (if k = true then RchC A m H1 else RchS A m H0 H1) A' H2 → H2 a = some (.lst vs) ∧ Rps C.K A' m H2 l vs := by
  have key : ∀ {a : Addr} {vs : List V}, H1 a = some (.lst vs) → a ∉ m → (a ∉ A ∨ (Lv H0 a ∨ k = true)) → Rps C.K A m H1 l vs → ∀ A' H2, (if k = true then RchC A m H1 else RchS A m H0 H1) A' H2 → H2 a = some (.lst vs) ∧ Rps C.K A' m H2 l vs := by
    intro a vs hl hm ha q A' H2 hr
    cases k with
    | true =>
      obtain ⟨h1, h2, h3⟩ := hr
      exact ⟨h3 a _ hl hm lst_tbl, Rps.step (B := m) F.wr.aok (fun b hb => h2 b (F.ma b hb)) h3 _ _ (Rps.avoid h1 _ _ q)⟩
    | false =>
      obtain ⟨h1, h2⟩ := hr
      refine ⟨?_, Rps.ext h1 F.aok q⟩
      rcases ha with ha | ha | ha
      · exact h1.keep a _ hl ha lst_tbl
      · obtain ⟨o, e, t⟩ := ha
        have e1 := F.base a o e hm t
        rw [hl] at e1; cases e1
        exact h2 a _ e hm t
      · cases ha
  unfold itemsOf at h
  split at h
  · exact (hx ⟨_, rfl⟩).elim
  · cases h
    obtain ⟨a, vs, e, hl, hn, q⟩ := r
    exact ⟨a, vs, e, hl, Rps.len q, key hl (fun z => hn (F.ma a z)) (.inl hn) q⟩
  · cases h
    obtain ⟨a, vs, e, hl, hm, hv, q⟩ := r
    exact ⟨a, vs, e, hl, Rps.len q, key hl hm (.inr (.inl hv)) q⟩
  · split at h
    · rename_i hk
      cases h
      obtain ⟨a, vs, e, hl, hm, hv, q⟩ := r
      exact ⟨a, vs, e, hl, Rps.len q, key hl hm (.inr (.inr hk)) q⟩
    · cases h
  · cases h
theorem tup_stays {C : Cf} {k : Bool} {H0 H1 : Hp} {A m : List Addr} {M : Mem} {ρ : Env} {σ : L2.St} {P : List Addr} (F : FR C H0 A m M H1 ρ σ P) {v : V} {l : List D} (r : Rp C.K A m H1 (.tup l) v) :
    ∃ a vs, v = .ref a ∧ H1 a = some (.tup vs) ∧ vs.length = l.length ∧ ∀ A' H2, (if k = true then RchC A m H1 else RchS A m H0 H1) A' H2 → H2 a = some (.tup vs) ∧ Rps C.K A' m H2 l vs := by
  obtain ⟨a, vs, e, hl, q⟩ := r
  refine ⟨a, vs, e, hl, Rps.len q, fun A' H2 hr => ?_⟩
  cases k with
  | true =>
    obtain ⟨h1, h2, h3⟩ := hr
    exact ⟨tup_step F.wr.aok h3 hl, Rps.step (B := m) F.wr.aok (fun b hb => h2 b (F.ma b hb)) h3 _ _ (Rps.avoid h1 _ _ q)⟩
  | false =>
    obtain ⟨h1, h2⟩ := hr
    exact ⟨tup_step F.aok h1.keep hl, Rps.ext h1 F.aok q⟩
section
variable {X : Cx} {T : List (Addr × Str)} {W : WX} {a b c e : Expr} {es : List Expr} {tg : Expr} {pos p : Pos} {f g : Sm Ev} {fs : Sm (List Ev)} {k : Bool}
theorem PI.or {w1 w2 : TI} (h1 : PI X tg e w1) (h2 : PI X tg e w2) : PI X tg e (fun σ H G => w1 σ H G ∨ w2 σ H G) := ⟨fun pins s σ H G I h => h.elim (fun q => h1.run pins s σ H G I q) (fun q => h2.run pins s σ H G I q)⟩
def iSeq (k : Bool) (f : Sm Ev) : Sm (List D) := fun ρ M => bnd (f ρ M) fun x M1 => match itemsOf k x with
  | some l => .ok l M1
  | none => .stuck
theorem walkT {C : Cf} {k : Bool} {H0 H1 : Hp} {A m : List Addr} {M : Mem} {ρ : Env} {σ : L2.St} {P : List Addr} (F : FR C H0 A m M H1 ρ σ P) {v : V} {l : List D} (r : Rp C.K A m H1 (.tup l) v) :
    ∃ a, v = .ref a ∧ (∃ xs, SqT C.K H1 a xs) ∧ Wk C m (if k = true then RchC A m H1 else RchS A m H0 H1) l (Itt C.K a) := by
  obtain ⟨a, vs, e, hl, len, st⟩ := tup_stays (k := k) F r
  refine ⟨a, e, ⟨vs, SqT.of hl⟩, ⟨fun A' H2 hr i d hd => ?_, fun A' H2 hr => ?_⟩⟩
  · obtain ⟨h2, q⟩ := st A' H2 hr
    obtain ⟨u, e1, e2⟩ := Rps.get q hd
    refine ⟨⟨vs, u, SqT.of h2, e1⟩, fun y H3 hy => ?_⟩
    obtain ⟨rfl, hy⟩ := hy
    have e3 := hy vs (SqT.of h2)
    rw [e1] at e3; cases e3
    exact ⟨.inl rfl, e2⟩
  · obtain ⟨h2, q⟩ := st A' H2 hr
    exact ⟨vs, SqT.of h2, by rw [len]; exact Nat.le_refl _⟩
theorem walkL {C : Cf} {k : Bool} {H0 H1 : Hp} {A m : List Addr} {M : Mem} {ρ : Env} {σ : L2.St} {P : List Addr} (F : FR C H0 A m M H1 ρ σ P) {x : Ev} {v : V} {l : List D} (hx : (∃ l, x = .d (.tup l)) → False) (h : itemsOf k x = some l) (r : EvR C.K H0 A m H1 x v) :
    ∃ a, v = .ref a ∧ (∃ xs, SqL C.K H1 a xs) ∧ Wk C m (if k = true then RchC A m H1 else RchS A m H0 H1) l (Itl C.K a) := by
  obtain ⟨a, vs, e, hl, len, st⟩ := list_stays F hx h r
  refine ⟨a, e, ⟨vs, SqL.of hl⟩, ⟨fun A' H2 hr i d hd => ?_, fun A' H2 hr => ?_⟩⟩
  · obtain ⟨h2, q⟩ := st A' H2 hr
    obtain ⟨u, e1, e2⟩ := Rps.get q hd
    refine ⟨⟨vs, u, SqL.of h2, e1⟩, fun y H3 hy => ?_⟩
    obtain ⟨rfl, hy⟩ := hy
    have e3 := hy vs (SqL.of h2)
    rw [e1] at e3; cases e3
    exact ⟨.inl rfl, e2⟩
  · obtain ⟨h2, q⟩ := st A' H2 hr
    exact ⟨vs, SqL.of h2, by rw [len]; exact Nat.le_refl _⟩
theorem di_seq (ha : PE X e (tE (cf X T W) f)) : PI X tg e (tI (cf X T W) k (iSeq k f)) := by
  refine ⟨fun pins s σ H G I q => (PI.or (pi_list ha) (pi_tup ha)).run pins s σ H G I ?_⟩
  obtain ⟨H0, A, m, M, ρ, P, F, q⟩ := q
  unfold iSeq at q
  cases e1 : f ρ M with
  | stuck => rw [e1] at q; exact q.elim
  | exc c g M1 =>
    rw [e1] at q
    exact .inl ⟨H0, A, m, M, ρ, P, F, by rw [e1]; exact q⟩
  | ok x M1 =>
    rw [e1, bnd_ok] at q
    cases e2 : itemsOf k x with
    | none => rw [e2] at q; exact q.elim
    | some l =>
      rw [e2] at q
      by_cases hx : ∃ l, x = .d (.tup l)
      · obtain ⟨l', rfl⟩ := hx
        cases e2
        refine .inr ⟨H0, A, m, M, ρ, P, F, by
          rw [e1]
          intro H1 v s w t r
          obtain ⟨a, ev, hs, K⟩ := walkT (k := k) (F.step s w t) r
          exact ⟨a, ev, hs, q _ H1 s w t K⟩⟩
      · refine .inl ⟨H0, A, m, M, ρ, P, F, by
          rw [e1]
          intro H1 v s w t r
          obtain ⟨a, ev, hs, K⟩ := walkL (F.step s w t) hx e2 r
          exact ⟨a, ev, hs, q _ H1 s w t K⟩⟩
/-! range -/
def rangeL (lo : Int) (n : Nat) (c : Int) : List D := (List.range n).map fun (i : Nat) => .int (lo + (i : Int) * c)
def rngOk (i : Int) : Prop := -1000000000000 ≤ i ∧ i ≤ 1000000000000
instance (i : Int) : Decidable (rngOk i) := by unfold rngOk; infer_instance
def optR {α : Type} (o : Option α) (M : Mem) : R α := match o with
  | some a => .ok a M
  | none => .stuck
def rng1 (xs : List Ev) : Option (List D) := match xs with
  | [.d (.int j)] => if rngOk j then some (rangeL 0 j.toNat 1) else none
  | _ => none
def rng2 (xs : List Ev) : Option (List D) := match xs with
  | [.d (.int i), .d (.int j)] => if rngOk i ∧ rngOk j then some (rangeL i (j - i).toNat 1) else none
  | _ => none
def rng3 (xs : List Ev) : Option (List D) := match xs with
  | [.d (.int i), .d (.int j), .d (.int c)] => if c ≠ 0 ∧ c.natAbs < 1073741824 ∧ Builtin.Range.small i j c = true ∧ 0 ≤ Builtin.Range.rangeSize i j c then some (rangeL i (Builtin.Range.rangeSize i j c).toNat c) else none
  | _ => none
def iO (o : List Ev → Option (List D)) (fs : Sm (List Ev)) : Sm (List D) := fun ρ M => bnd (fs ρ M) fun xs M1 => optR (o xs) M1
theorem wk_range {C : Cf} {m : List Addr} {Rch : List Addr → Hp → Prop} (lo : Int) (n : Nat) : Wk C m Rch (rangeL lo n 1) (Itr lo n) := by
  refine ⟨fun A' H2 _ i d hd => ?_, fun A' H2 _ => ?_⟩
  · unfold rangeL at hd
    rw [List.getElem?_map] at hd
    cases e : (List.range n)[i]? with
    | none => rw [e] at hd; cases hd
    | some j =>
      rw [e] at hd
      have hi : i < n := by have := (List.getElem?_eq_some_iff.mp e).1; simpa using this
      have ej : i = j := by have := (List.getElem?_eq_some_iff.mp e).2; simpa using this
      subst ej
      cases hd
      refine ⟨hi, fun x H3 hy => ?_⟩
      obtain ⟨rfl, rfl⟩ := hy
      refine ⟨.inl rfl, ?_⟩
      show V.int (lo + (i : Int)) = V.int (lo + (i : Int) * 1)
      rw [Int.mul_one]
  · show n ≤ (rangeL lo n 1).length
    unfold rangeL; simp
theorem wk_rangeC {C : Cf} {m : List Addr} {Rch : List Addr → Hp → Prop} (lo c : Int) (n : Nat) : Wk C m Rch (rangeL lo n c) (Itc lo c n) := by
  refine ⟨fun A' H2 _ i d hd => ?_, fun A' H2 _ => ?_⟩
  · unfold rangeL at hd
    rw [List.getElem?_map] at hd
    cases e : (List.range n)[i]? with
    | none => rw [e] at hd; cases hd
    | some j =>
      rw [e] at hd
      have hi : i < n := by have := (List.getElem?_eq_some_iff.mp e).1; simpa using this
      have ej : i = j := by have := (List.getElem?_eq_some_iff.mp e).2; simpa using this
      subst ej
      cases hd
      refine ⟨hi, fun x H3 hy => ?_⟩
      obtain ⟨rfl, rfl⟩ := hy
      exact ⟨.inl rfl, rfl⟩
  · show n ≤ (rangeL lo n c).length
    unfold rangeL; simp
theorem Paired.three {α β : Type} {G : α → β → Prop} {x y z : α} {vs : List β} (h : Paired G [x, y, z] vs) : ∃ v w u, vs = [v, w, u] ∧ G x v ∧ G y w ∧ G z u := by
  cases h with
  | cons a b => cases b with
    | cons c d => cases d with
      | cons e f => cases f; exact ⟨_, _, _, rfl, a, c, e⟩
theorem di_O {o : List Ev → Option (List D)} {H0 H : Hp} {A m : List Addr} {M : Mem} {ρ : Env} {σ : L2.St} {P : List Addr} {G : It → Hp → Prop} {C : Cf} (F : FR C H0 A m M H ρ σ P)
    (q : match iO o fs ρ M with
      | .ok items M1 => ∀ J H1, Stp m H H1 → WR C.K m M1 H1 → LamX.Tabs C.T H1 → Wk C m (if k = true then RchC A m H1 else RchS A m H0 H1) items J → G J H1
      | .exc c g M1 => ∀ H1 cls d, Stp m H H1 → WR C.K m M1 H1 → LamX.Tabs C.T H1 → XR C.mg H1 c g cls d → C.W cls d σ H1
      | .stuck => False) {G' : List V → Hp → Prop}
    (hk : ∀ xs items M1 H1 vs, FR C H0 A m M1 H1 ρ σ P → EvL C.K H0 A m H1 xs vs → o xs = some items → (∀ J, Wk C m (if k = true then RchC A m H1 else RchS A m H0 H1) items J → G J H1) → G' vs H1) : tA C fs σ H G' := by
  refine subI F q fun xs M1 H1 vs F1 r1 q1 => ?_
  cases e : o xs with
  | none => rw [e] at q1; exact q1.elim
  | some items =>
    rw [e] at q1
    exact hk xs items M1 H1 vs F1 r1 e fun J K => q1 J H1 (Stp.refl _ _) F1.wr F1.tb K
theorem di_rng1 (hg : Gl X "range") (hm : X.mg "range" = none) (ha : PA X [a] (tA (cf X T W) fs)) (hs : starEach [a] X.env = [(false, eval a X.env)] := by rfl) : PI X tg (.Call (.Name "range" p) [a] [] pos) (tI (cf X T W) k (iO rng1 fs)) := by
  refine ⟨fun pins s σ H G I q => (pi_range1 hg hm ha hs).run pins s σ H G I ?_⟩
  obtain ⟨H0, A, m, M, ρ, P, F, q⟩ := q
  refine di_O F q fun xs items M1 H1 vs F1 r1 e q1 => ?_
  unfold rng1 at e
  split at e
  · rename_i j
    split at e
    · rename_i hc
      cases e
      obtain ⟨v, rfl, r⟩ := Paired.one r1
      unfold rngOk at hc
      exact ⟨j, by rw [show v = V.int j from r], by omega, by omega, q1 _ (wk_range 0 j.toNat)⟩
    · cases e
  · cases e
theorem di_rng2 (hg : Gl X "range") (hm : X.mg "range" = none) (ha : PA X [a, b] (tA (cf X T W) fs)) (hs : starEach [a, b] X.env = [(false, eval a X.env), (false, eval b X.env)] := by rfl) (hs2 : starEach [b] X.env = [(false, eval b X.env)] := by rfl) : PI X tg (.Call (.Name "range" p) [a, b] [] pos) (tI (cf X T W) k (iO rng2 fs)) := by
  refine ⟨fun pins s σ H G I q => (pi_range2 hg hm ha hs hs2).run pins s σ H G I ?_⟩
  obtain ⟨H0, A, m, M, ρ, P, F, q⟩ := q
  refine di_O F q fun xs items M1 H1 vs F1 r1 e q1 => ?_
  unfold rng2 at e
  split at e
  · rename_i i j
    split at e
    · rename_i hc
      cases e
      obtain ⟨v, w, rfl, r, r'⟩ := Paired.two r1
      unfold rngOk at hc
      exact ⟨i, j, by rw [show v = V.int i from r, show w = V.int j from r'], ⟨by omega, by omega, by omega, by omega⟩, q1 _ (wk_range i (j - i).toNat)⟩
    · cases e
  · cases e
theorem di_rng3 (hg : Gl X "range") (hm : X.mg "range" = none) (ha : PA X [a, b, c] (tA (cf X T W) fs)) (hs : starEach [a, b, c] X.env = (false, eval a X.env) :: starEach [b, c] X.env := by rfl) (hpl : (backTo pos (starEach [b, c] X.env)).any (·.1) = false := by rfl) : PI X tg (.Call (.Name "range" p) [a, b, c] [] pos) (tI (cf X T W) k (iO rng3 fs)) := by
  refine ⟨fun pins s σ H G I q => (pi_range3 hg hm ha hs hpl).run pins s σ H G I ?_⟩
  obtain ⟨H0, A, m, M, ρ, P, F, q⟩ := q
  refine di_O F q fun xs items M1 H1 vs F1 r1 e q1 => ?_
  unfold rng3 at e
  split at e
  · rename_i i j c'
    split at e
    · rename_i hc
      cases e
      obtain ⟨v, w, u, rfl, r, r', r''⟩ := Paired.three r1
      refine ⟨i, j, c', (Builtin.Range.rangeSize i j c').toNat, by rw [show v = V.int i from r, show w = V.int j from r', show u = V.int c' from r''], ⟨hc.1, hc.2.1, hc.2.2.1, ?_⟩, q1 _ (wk_rangeC i c' _)⟩
      rw [Int.toNat_of_nonneg hc.2.2.2]
    · cases e
  · cases e
/-! enumerate(list), zip -/
def pairL (l : List D) : List D := l.zipIdx.map fun p => .tup [.int (p.2 : Int), p.1]
def zipL (l l' : List D) : List D := (l.zip l').map fun p => .tup [p.1, p.2]
theorem pairL_get {l : List D} {i : Nat} {d : D} (h : (pairL l)[i]? = some d) : ∃ x, l[i]? = some x ∧ d = .tup [.int (i : Int), x] := by
  unfold pairL at h
  rw [List.getElem?_map, List.getElem?_zipIdx] at h
  cases e : l[i]? with
  | none => rw [e] at h; cases h
  | some x => rw [e] at h; simp at h; exact ⟨x, rfl, h.symm⟩
theorem pairL_len (l : List D) : (pairL l).length = l.length := by unfold pairL; simp
theorem zipL_get {l l' : List D} {i : Nat} {d : D} (h : (zipL l l')[i]? = some d) : ∃ x y, l[i]? = some x ∧ l'[i]? = some y ∧ d = .tup [x, y] := by
  unfold zipL at h
  rw [List.getElem?_map] at h
  cases e : (l.zip l')[i]? with
  | none => rw [e] at h; cases h
  | some p =>
    rw [e] at h
    have q := List.getElem?_zip_eq_some.mp e
    simp at h
    exact ⟨p.1, p.2, q.1, q.2, h.symm⟩
theorem pair_new {K : PySem.W.Frag} {A m : List Addr} {H : Hp} {x y : D} {v w : V} {p : Addr} (hp : H p = none) (h1 : Rp K A m H x v) (h2 : Rp K A m H y w) : Rp K A m (upd H p (.tup [v, w])) (.tup [x, y]) (.ref p) :=
  ⟨p, [v, w], rfl, upd_same, Rps.grow ⟨v, [w], rfl, h1, w, [], rfl, h2, rfl⟩ hp⟩
/-- what enumerate's argument may be -/
def enum1 (k : Bool) (xs : List Ev) : Option (List D) := match xs with
  | [.d (.tup _)] => none
  | [x] => (itemsOf k x).map pairL
  | _ => none
theorem wk_enum {C : Cf} {m : List Addr} {Rch : List Addr → Hp → Prop} {a : Addr} {l : List D} {vs : List V} (hl : vs.length = l.length) (st : ∀ A' H2, Rch A' H2 → H2 a = some (.lst vs) ∧ Rps C.K A' m H2 l vs) : Wk C m Rch (pairL l) (Ite C.K a) := by
  refine ⟨fun A' H2 hr i d hd => ?_, fun A' H2 hr => ?_⟩
  · obtain ⟨x, hx, rfl⟩ := pairL_get hd
    obtain ⟨h2, q⟩ := st A' H2 hr
    obtain ⟨u, e1, e2⟩ := Rps.get q hx
    refine ⟨⟨vs, u, SqL.of h2, e1⟩, fun y H3 hy => ?_⟩
    obtain ⟨p, z, rfl, hp, rfl, hz⟩ := hy
    have e3 := hz vs (SqL.of h2)
    rw [e1] at e3; cases e3
    exact ⟨.inr ⟨p, _, hp, rfl⟩, pair_new hp rfl e2⟩
  · obtain ⟨h2, q⟩ := st A' H2 hr
    exact ⟨vs, SqL.of h2, by rw [pairL_len, hl]; exact Nat.le_refl _⟩
theorem di_enum {elts : List Expr} {kk : Nat} {tpos : Pos} (hg : Gl X "enumerate") (hm : X.mg "enumerate" = none) (ha : PA X [e] (tA (cf X T W) fs)) (hs : starEach [e] X.env = [(false, eval e X.env)] := by rfl) : PI X (.Tuple elts kk tpos) (.Call (.Name "enumerate" p) [e] [] pos) (tI (cf X T W) k (iO (enum1 k) fs)) := by
  refine ⟨fun pins s σ H G I q => (pi_enum hg hm ha hs).run pins s σ H G I ?_⟩
  obtain ⟨H0, A, m, M, ρ, P, F, q⟩ := q
  refine di_O F q fun xs items M1 H1 vs F1 r1 e q1 => ?_
  unfold enum1 at e
  split at e
  · cases e
  · rename_i x hx
    obtain ⟨v, rfl, r⟩ := Paired.one r1
    cases e2 : itemsOf k x with
    | none => rw [e2] at e; cases e
    | some l =>
      rw [e2] at e
      cases e
      obtain ⟨a, vs, ev, hl, len, st⟩ := list_stays F1 (fun ⟨l, z⟩ => hx l (by rw [z])) e2 r
      exact ⟨a, vs, by rw [ev], SqL.of hl, q1 _ (wk_enum len st)⟩
  · cases e
/-- zip of two lists, of two tuples -/
def zip2 (k : Bool) (xs : List Ev) : Option (List D) := match xs with
  | [.d (.tup l), .d (.tup l')] => some (zipL l l')
  | [.d (.tup _), _] => none
  | [_, .d (.tup _)] => none
  | [x, y] => match itemsOf k x, itemsOf k y with
    | some l, some l' => some (zipL l l')
    | _, _ => none
  | _ => none
theorem zipL_len (l l' : List D) : (zipL l l').length = min l.length l'.length := by unfold zipL; simp
theorem wk_zip {C : Cf} {m : List Addr} {Rch : List Addr → Hp → Prop} {a b : Addr} {l l' : List D} {vs ws : List V} (hl : vs.length = l.length) (hl' : ws.length = l'.length) (st : ∀ A' H2, Rch A' H2 → H2 a = some (.lst vs) ∧ Rps C.K A' m H2 l vs) (st' : ∀ A' H2, Rch A' H2 → H2 b = some (.lst ws) ∧ Rps C.K A' m H2 l' ws) :
    Wk C m Rch (zipL l l') (Itz C.K a b) := by
  refine ⟨fun A' H2 hr i d hd => ?_, fun A' H2 hr => ?_⟩
  · obtain ⟨x, y, hx, hy, rfl⟩ := zipL_get hd
    obtain ⟨h2, q⟩ := st A' H2 hr
    obtain ⟨h2', q'⟩ := st' A' H2 hr
    obtain ⟨u, e1, e2⟩ := Rps.get q hx
    obtain ⟨u', e1', e2'⟩ := Rps.get q' hy
    refine ⟨⟨vs, ws, u, u', SqL.of h2, SqL.of h2', e1, e1'⟩, fun y H3 hy => ?_⟩
    obtain ⟨p, z, z', rfl, hp, rfl, hz, hz'⟩ := hy
    have e3 := hz vs (SqL.of h2)
    have e3' := hz' ws (SqL.of h2')
    rw [e1] at e3; cases e3
    rw [e1'] at e3'; cases e3'
    exact ⟨.inr ⟨p, _, hp, rfl⟩, pair_new hp e2 e2'⟩
  · obtain ⟨h2, q⟩ := st A' H2 hr
    obtain ⟨h2', q'⟩ := st' A' H2 hr
    refine ⟨vs, ws, SqL.of h2, SqL.of h2', ?_⟩
    rw [zipL_len, hl, hl']; omega
theorem wk_zipT {C : Cf} {m : List Addr} {Rch : List Addr → Hp → Prop} {a b : Addr} {l l' : List D} {vs ws : List V} (hl : vs.length = l.length) (hl' : ws.length = l'.length) (st : ∀ A' H2, Rch A' H2 → H2 a = some (.tup vs) ∧ Rps C.K A' m H2 l vs) (st' : ∀ A' H2, Rch A' H2 → H2 b = some (.tup ws) ∧ Rps C.K A' m H2 l' ws) :
    Wk C m Rch (zipL l l') (RZ.ItzT C.K a b) := by
  refine ⟨fun A' H2 hr i d hd => ?_, fun A' H2 hr => ?_⟩
  · obtain ⟨x, y, hx, hy, rfl⟩ := zipL_get hd
    obtain ⟨h2, q⟩ := st A' H2 hr
    obtain ⟨h2', q'⟩ := st' A' H2 hr
    obtain ⟨u, e1, e2⟩ := Rps.get q hx
    obtain ⟨u', e1', e2'⟩ := Rps.get q' hy
    refine ⟨⟨vs, ws, u, u', SqT.of h2, SqT.of h2', e1, e1'⟩, fun y H3 hy => ?_⟩
    obtain ⟨p, z, z', rfl, hp, rfl, hz, hz'⟩ := hy
    have e3 := hz vs (SqT.of h2)
    have e3' := hz' ws (SqT.of h2')
    rw [e1] at e3; cases e3
    rw [e1'] at e3'; cases e3'
    exact ⟨.inr ⟨p, _, hp, rfl⟩, pair_new hp e2 e2'⟩
  · obtain ⟨h2, q⟩ := st A' H2 hr
    obtain ⟨h2', q'⟩ := st' A' H2 hr
    refine ⟨vs, ws, SqT.of h2, SqT.of h2', ?_⟩
    rw [zipL_len, hl, hl']; omega
theorem di_zip {elts : List Expr} {kk : Nat} {tpos : Pos} {e2 : Expr} (hg : Gl X "zip") (hm : X.mg "zip" = none) (ha : PA X [e, e2] (tA (cf X T W) fs)) (hs : starEach [e, e2] X.env = (false, eval e X.env) :: starEach [e2] X.env := by rfl) (hpl : (backTo pos (starEach [e2] X.env)).any (·.1) = false := by rfl) :
    PI X (.Tuple elts kk tpos) (.Call (.Name "zip" p) [e, e2] [] pos) (tI (cf X T W) k (iO (zip2 k) fs)) := by
  refine ⟨fun pins s σ H G I q => (RZ.pi_zipA hg hm ha hs hpl).run pins s σ H G I ?_⟩
  obtain ⟨H0, A, m, M, ρ, P, F, q⟩ := q
  refine di_O F q fun xs items M1 H1 vs F1 r1 e q1 => ?_
  unfold zip2 at e
  split at e
  · rename_i l l'
    cases e
    obtain ⟨v, w, rfl, r, r'⟩ := Paired.two r1
    obtain ⟨a, vs, ev, hl, len, st⟩ := tup_stays (k := k) F1 r
    obtain ⟨b, ws, ew, hl', len', st'⟩ := tup_stays (k := k) F1 r'
    exact ⟨a, b, vs, ws, by rw [ev, ew], .inr ⟨SqT.of hl, SqT.of hl', q1 _ (wk_zipT len len' st st')⟩⟩
  · cases e
  · cases e
  · rename_i x y hx hy _
    obtain ⟨v, w, rfl, r, r'⟩ := Paired.two r1
    cases ex : itemsOf k x with
    | none => rw [ex] at e; cases e
    | some l =>
      cases ey : itemsOf k y with
      | none => rw [ex, ey] at e; cases e
      | some l' =>
        rw [ex, ey] at e
        cases e
        obtain ⟨a, vs, ev, hl, len, st⟩ := list_stays F1 (by
          rintro ⟨z, rfl⟩
          first | exact hx z _ rfl | exact hx z rfl | (exact hx _ _ rfl rfl) | simp_all) ex r
        obtain ⟨b, ws, ew, hl', len', st'⟩ := list_stays F1 (by
          rintro ⟨z, rfl⟩
          first | exact hy z rfl | exact hy _ z rfl | simp_all) ey r'
        exact ⟨a, b, vs, ws, by rw [ev, ew], .inl ⟨SqL.of hl, SqL.of hl', q1 _ (wk_zip len len' st st')⟩⟩
  · cases e
/-! ### for -/
variable {st : Stmt} {sf : Ss}
theorem ds_for {iter tg : Expr} {body : List Stmt} {it : Sm (List D)} {g : Tgt} (hp : PassesOwn (model X.prog X.w) X.A X.env X.xe) (hc : X.calm = true) (hi : PI X tg iter (tI (cf X T W) false it)) (hg : PG X tg (tgG X.K g)) (hb : PSs X body (tS (cf X T W) sf))
    (hs : ∀ x, foldedSetIterable iter X.env x = pure x := by intro _; rfl) : PS X (.For tg iter body [] pos) (tS (cf X T W) (sFor it g sf)) := by
  refine ⟨fun pins s σ H D I q => (ps_for hp hc hi hg hb hs).run pins s σ H D I ?_⟩
  obtain ⟨H0, A, m, M, ρ, P, F, q⟩ := q
  refine ⟨H0, A, m, M, ρ, P, F, ?_⟩
  unfold sFor at q
  cases e : it ρ M with
  | stuck => rw [e] at q; exact q.elim
  | exc c g M1 =>
    rw [e] at q
    exact fun H1 cls d s w t x => q A H1 σ P cls d (Ext.step s F.ma) (F.step s w t) x
  | ok items M1 =>
    rw [e] at q
    intro J H1 s w t K
    have F1 := F.step s w t
    have q1 : PZ (cf X T W) H0 A m H1 (forL g sf items ρ M1) D := PZ.step (Ext.step s F.ma) q
    refine ⟨fun i k σ2 H2 => k + i = items.length ∧ ∃ A' M2 ρ2 P2, Ext A H1 A' H2 ∧ FR (cf X T W) H0 A' m M2 H2 ρ2 σ2 P2 ∧ PZ (cf X T W) H0 A' m H2 (forL g sf (items.drop i) ρ2 M2) D,
      ⟨items.length, by simp, A, M1, ρ, P, Ext.refl, F1, by simpa using q1⟩, fun i k σ2 H2 h => ?_⟩
    obtain ⟨hk, A', M2, ρ2, P2, x2, F2, q2⟩ := h
    have hr : RchS A m H0 H1 A' H2 := ⟨x2, F2.base⟩
    cases k with
    | zero =>
      have hi : i = items.length := by omega
      subst hi
      rw [List.drop_length] at q2
      exact .inl ⟨K.stop A' H2 hr, q2 A' H2 σ2 P2 Ext.refl F2⟩
    | succ k =>
      have hi : i < items.length := by omega
      have ed : items.drop i = items[i] :: items.drop (i + 1) := List.drop_eq_getElem_cons hi
      rw [ed] at q2
      obtain ⟨hgo, hy⟩ := K.go A' H2 hr i items[i] (List.getElem?_eq_getElem hi)
      refine .inr ⟨hgo, fun σ' H' => ∃ A3 M3 ρ3 P3, Ext A H1 A3 H' ∧ FR (cf X T W) H0 A3 m M3 H' ρ3 σ' P3 ∧ PZ (cf X T W) H0 A3 m H' (forL g sf (items.drop (i + 1)) ρ3 M3) D, fun σ' H' h => ⟨k, Nat.lt_succ_self k, by omega, h⟩, fun v H3 hv => ?_⟩
      obtain ⟨h3, r3⟩ := hy v H3 hv
      have F3 : FR (cf X T W) H0 A' m M2 H3 ρ2 σ2 P2 ∧ Ext A' H2 A' H3 := by
        rcases h3 with rfl | ⟨p, o, hp, rfl⟩
        · exact ⟨F2, Ext.refl⟩
        · exact ⟨F2.grow hp, ⟨fun _ h => h, fun _ h => .inl h, Stp.upd hp⟩⟩
      have q3 := PZ.step F3.2 q2
      unfold forL at q3
      split at q3
      · rename_i ρ3 h3
        refine tg_run F3.1 r3 h3 fun σ' P' F' => ?_
        refine ⟨H0, A', m, M2, ρ3, P', F', loop_run (k := forL g sf (items.drop (i + 1))) q3 fun A4 H4 σ4 P4 ρ4 M4 e4 F4 q4 => ?_⟩
        exact ⟨A4, M4, ρ4, P4, x2.trans (F3.2.trans e4), F4, q4⟩
      · exact q3.elim
end
end DL

set_option Elab.async false
set_option linter.all false
set_option maxRecDepth 100000
set_option maxHeartbeats 2000000
/-! The data layer: comprehensions, new lists. -/
namespace DL
open PySem PySem.Spec PyProof.Rows L2
def wipeE (ρ : Env) : List Nat → Env
  | [] => ρ
  | v :: vs => (wipeE ρ vs).set v none
section
variable {C : Cf} {K : PySem.W.Frag} {H0 H : Hp} {A m : List Addr} {M : Mem} {ρ : Env} {σ : L2.St} {P : List Addr}
theorem ER.clear : ∀ {ρ : Env} {σ : L2.St} {P : List Addr} (i : Nat), ER K H0 A m H ρ σ P → ∃ P', ER K H0 A m H (ρ.set i none) (σ.set i none) P' ∧ P'.Sublist P
  | [], _, P, _, h => ⟨P, by rw [h.1]; exact ⟨rfl, h.2⟩, List.Sublist.refl _⟩
  | none :: ρ, _, P, 0, ⟨y, τ, e, h⟩ => ⟨P, ⟨none, τ, by rw [e]; rfl, h⟩, List.Sublist.refl _⟩
  | some z :: ρ, _, P, 0, ⟨w, τ, Q1, Q2, e, eP, h1, h2⟩ => ⟨Q2, ⟨none, τ, by rw [e]; rfl, h2⟩, by rw [eP]; exact List.sublist_append_right _ _⟩
  | none :: ρ, _, P, i + 1, ⟨y, τ, e, h⟩ => by
    obtain ⟨P', q, s⟩ := ER.clear i h
    exact ⟨P', ⟨y, τ.set i none, by rw [e]; rfl, q⟩, s⟩
  | some z :: ρ, _, P, i + 1, ⟨w, τ, Q1, Q2, e, eP, h1, h2⟩ => by
    obtain ⟨P', q, s⟩ := ER.clear i h2
    exact ⟨Q1 ++ P', ⟨w, τ.set i none, Q1, P', by rw [e]; rfl, rfl, h1, q⟩, by rw [eP]; exact List.Sublist.append (List.Sublist.refl _) s⟩
theorem FR.wipe (F : FR C H0 A m M H ρ σ P) : ∀ vs : List Nat, ∃ P', FR C H0 A m M H (wipeE ρ vs) (L2.wipe σ vs) P'
  | [] => ⟨P, F⟩
  | v :: vs => by
    obtain ⟨P1, F1⟩ := FR.wipe F vs
    obtain ⟨P', q, s⟩ := ER.clear v F1.er
    exact ⟨P', F1.wr, F1.tb, q, s.nodup F1.nd, fun a ha => F1.own a (s.subset ha), F1.ma, F1.aok, F1.base⟩
theorem FR.wish {C' : Cf} (F : FR C H0 A m M H ρ σ P) (h1 : C'.K = C.K) (h2 : C'.T = C.T) : FR C' H0 A m M H ρ σ P := by
  refine ⟨by rw [h1]; exact F.wr, by rw [h2]; exact F.tb, by rw [h1]; exact F.er, F.nd, F.own, F.ma, F.aok, F.base⟩
/-- the slots of a target -/
def Tgt.slots : Tgt → List Nat
  | .one i => [i]
  | .many is => is
theorem wipe_set {i : Nat} {x : Option V} : ∀ {vs : List Nat} {σ : L2.St}, i ∈ vs → L2.wipe (σ.set i x) vs = L2.wipe σ vs
  | v :: vs, σ, h => by
    show (L2.wipe (σ.set i x) vs).set v none = (L2.wipe σ vs).set v none
    by_cases hv : i ∈ vs
    · rw [wipe_set hv]
    · have e : i = v := (List.mem_cons.mp h).resolve_right hv
      subst e
      have q : ∀ {vs : List Nat} {σ : L2.St}, i ∉ vs → L2.wipe (σ.set i x) vs = (L2.wipe σ vs).set i x := by
        intro vs
        induction vs with
        | nil => intro σ _; rfl
        | cons u vs ih =>
          intro σ hu
          show (L2.wipe (σ.set i x) vs).set u none = ((L2.wipe σ vs).set u none).set i x
          rw [ih (fun z => hu (List.mem_cons_of_mem _ z)), List.set_comm]
          exact fun z => hu (by rw [z]; exact List.mem_cons_self)
      rw [q hv, List.set_set]
theorem wipe_wipe : ∀ (vs us : List Nat) (σ : L2.St), (∀ v ∈ vs, v ∈ us) → L2.wipe (L2.wipe σ vs) us = L2.wipe σ us
  | [], us, σ, _ => rfl
  | v :: vs, us, σ, h => by
    show L2.wipe ((L2.wipe σ vs).set v none) us = _
    rw [wipe_set (h v List.mem_cons_self), wipe_wipe vs us σ fun u hu => h u (List.mem_cons_of_mem _ hu)]
theorem wipe_setAll {us : List Nat} : ∀ {is : List Nat} {vs : List V} {σ : L2.St}, (∀ i ∈ is, i ∈ us) → L2.wipe (setAll σ is vs) us = L2.wipe σ us
  | [], _, _, _ => rfl
  | _ :: _, [], _, _ => rfl
  | i :: is, v :: vs, σ, h => by
    show L2.wipe (setAll (σ.set i (some v)) is vs) us = _
    rw [wipe_setAll fun j hj => h j (List.mem_cons_of_mem _ hj), wipe_set (h i List.mem_cons_self)]
/-- a target within a comprehension's block -/
theorem tg_blk {ρ' : Env} {g : Tgt} {d : D} {v : V} {vs : List Nat} {Q : L2.St → Hp → Prop} (F : FR C H0 A m M H ρ σ P) (hv : ∀ i ∈ g.slots, i ∈ vs) (r : Rp C.K A m H d v) (h : tgE g (wipeE ρ vs) d = some ρ')
    (q : ∀ σ' P', FR C H0 A m M H ρ' σ' P' → L2.wipe σ' vs = L2.wipe σ vs → Q σ' H) : tgG C.K g v (L2.wipe σ vs) H Q := by
  obtain ⟨P1, F1⟩ := F.wipe vs
  have ww : L2.wipe (L2.wipe σ vs) vs = L2.wipe σ vs := wipe_wipe vs vs σ fun _ z => z
  cases g with
  | one i =>
    have h' : (if i < (wipeE ρ vs).length then some ((wipeE ρ vs).set i (some (.d d))) else none) = some ρ' := h
    split at h'
    · rename_i hi
      cases h'
      obtain ⟨P', F'⟩ := F1.set (x := .d d) (v := v) ⟨rfl, r⟩ hi
      exact q _ P' F' (by rw [wipe_set (hv i List.mem_cons_self), ww])
    · cases h'
  | many is =>
    cases d with
    | tup l =>
      have h' : (if l.length = is.length ∧ ∀ i ∈ is, i < (wipeE ρ vs).length then some (setAllE (wipeE ρ vs) is l) else none) = some ρ' := h
      split at h'
      · rename_i hc
        cases h'
        obtain ⟨a, ws, e, hs, r⟩ := r
        obtain ⟨P', F'⟩ := FR.setAll (is := is) F1 r hc.2
        exact ⟨a, ws, e, SqT.of hs, by rw [Rps.len r]; exact hc.1, gsN_run (by rw [Rps.len r]; exact hc.1) (q _ P' F' (by rw [wipe_setAll (is := is) hv, ww]))⟩
      · cases h'
    | _ => cases h
end
/-! ### new lists -/
/-- a list that was just laid: nothing else knows it -/
def tF (C : Cf) (f : Sm (List D)) : TE := fun σ H Q => ∃ H0 A m M ρ P, FR C H0 A m M H ρ σ P ∧ match f ρ M with
  | .ok l M' => ∀ H' p vs, Stp m H H' → WR C.K m M' H' → LamX.Tabs C.T H' → ¬ Lv H p → H' p = some (.lst vs) → Rps C.K (p :: A) m H' l vs → Q (.ref p) H'
  | .exc c g M' => ∀ H' cls d, Stp m H H' → WR C.K m M' H' → LamX.Tabs C.T H' → XR C.mg H' c g cls d → C.W cls d σ H'
  | .stuck => False
/-- .. as a value -/
def eF (f : Sm (List D)) : Sm Ev := fun ρ M => bnd (f ρ M) fun l M1 => .ok (.d (.lst l)) M1
theorem not_in_A {A : List Addr} {H : Hp} {p : Addr} (ok : AOk A H) (h : ¬ Lv H p) : p ∉ A := fun hp => by
  obtain ⟨o, e, mu⟩ := ok p hp
  exact h ⟨o, e, muta_tbl mu⟩
theorem de_F {X : Cx} {T : List (Addr × Str)} {W : WX} {e : Expr} {f : Sm (List D)} (h : PE X e (tF (cf X T W) f)) : PE X e (tE (cf X T W) (eF f)) := by
  refine ⟨fun pins s σ H Q I q => h.run pins s σ H Q I ?_⟩
  obtain ⟨H0, A, m, M, ρ, P, F, q⟩ := q
  refine ⟨H0, A, m, M, ρ, P, F, ?_⟩
  unfold eF at q
  cases e : f ρ M with
  | stuck => rw [e] at q; exact q.elim
  | exc c g M1 => rw [e] at q; exact q
  | ok l M1 =>
    rw [e] at q
    exact fun H' p vs s w t n hp r => q H' (.ref p) s w t ⟨p, vs, rfl, hp, not_in_A F.aok n, Rps.avoid (fun a ha => .inl (List.mem_cons_of_mem _ ha)) _ _ r⟩
section
variable {X : Cx} {T : List (Addr × Str)} {W : WX} {a b c e : Expr} {es : List Expr} {tg : Expr} {pos p : Pos} {f g : Sm Ev} {fs : Sm (List Ev)} {k : Bool}
/-- from a rule that lays a list at a free place -/
theorem mk_new {C : Cf} {H0 H H1 : Hp} {A m : List Addr} {M M1 : Mem} {ρ : Env} {σ : L2.St} {P : List Addr} {l : List D} {vs : List V} {Q : VK} {p : Addr} (F : FR C H0 A m M H ρ σ P) (F1 : FR C H0 A m M1 H1 ρ σ P) (s : Stp m H H1) (r : Rps C.K A m H1 l vs) (hp : H1 p = none)
    (q : ∀ H' p vs, Stp m H H' → WR C.K m M1 H' → LamX.Tabs C.T H' → ¬ Lv H p → H' p = some (.lst vs) → Rps C.K (p :: A) m H' l vs → Q (.ref p) H') : Q (.ref p) (upd H1 p (.lst vs)) := by
  refine q _ p vs (s.trans (Stp.upd hp)) (F1.wr.upd hp) (Tabs.upd F1.tb hp) (fun z => ?_) upd_same ?_
  · have hm : p ∉ m := fun h => by
      obtain ⟨o, e, _⟩ := F1.wr.aok p h; rw [hp] at e; cases e
    obtain ⟨o, e, _⟩ := s.lv z hm
    rw [hp] at e; cases e
  · exact Rps.grow (Rps.avoid (fun a ha => (List.mem_cons.mp ha).elim (fun z => .inr (by rw [z]; exact not_lv_of hp)) .inl) _ _ r) hp
theorem subF {C : Cf} {H0 H : Hp} {A m : List Addr} {M : Mem} {ρ : Env} {σ : L2.St} {P : List Addr} {α β : Type} {rel : Rel α β} {f : Sm α} {kk : α → Mem → R (List D)} {Q : VK} (F : FR C H0 A m M H ρ σ P)
    (h : match bnd (f ρ M) kk with
      | .ok l M' => ∀ H' p vs, Stp m H H' → WR C.K m M' H' → LamX.Tabs C.T H' → ¬ Lv H p → H' p = some (.lst vs) → Rps C.K (p :: A) m H' l vs → Q (.ref p) H'
      | .exc c g M' => ∀ H' cls d, Stp m H H' → WR C.K m M' H' → LamX.Tabs C.T H' → XR C.mg H' c g cls d → C.W cls d σ H'
      | .stuck => False) {G : β → Hp → Prop}
    (hk : ∀ d M1 H1 v, FR C H0 A m M1 H1 ρ σ P → Stp m H H1 → rel H0 A m H1 d v → (match kk d M1 with
      | .ok l M' => ∀ H' p vs, Stp m H H' → WR C.K m M' H' → LamX.Tabs C.T H' → ¬ Lv H p → H' p = some (.lst vs) → Rps C.K (p :: A) m H' l vs → Q (.ref p) H'
      | .exc c g M' => ∀ H' cls d, Stp m H H' → WR C.K m M' H' → LamX.Tabs C.T H' → XR C.mg H' c g cls d → C.W cls d σ H'
      | .stuck => False) → G v H1) : tX C rel f σ H G := by
  refine ⟨H0, A, m, M, ρ, P, F, ?_⟩
  cases e : f ρ M with
  | stuck => rw [e] at h; exact h.elim
  | exc c g M1 => rw [e] at h; exact h
  | ok d M1 =>
    rw [e] at h
    exact fun H1 v s w t r => hk d M1 H1 v (F.step s w t) s r h
/-- [a, b, ..] -/
def fLst (fs : Sm (List Ev)) : Sm (List D) := fun ρ M => bnd (fs ρ M) fun xs M1 => optR ((datas xs).bind fun l => if l.length ≤ most then some l else none) M1
theorem df_lst (ha : PA X es (tA (cf X T W) fs)) : PE X (.List es pos) (tF (cf X T W) (fLst fs)) := by
  refine ⟨fun pins s σ H Q I q => (pe_lst ha).run pins s σ H Q I ?_⟩
  obtain ⟨H0, A, m, M, ρ, P, F, q⟩ := q
  refine subF F q fun xs M1 H1 vs F1 s1 r1 q1 => ?_
  cases e : datas xs with
  | none => rw [e] at q1; exact q1.elim
  | some l =>
    rw [e] at q1
    have r := datas_at e r1
    by_cases hc : l.length ≤ most
    · have e2 : ((some l : Option (List D)).bind fun l => if l.length ≤ most then some l else none) = some l := by simp [hc]
      rw [e2] at q1
      exact ⟨by rw [Rps.len r]; exact most_line hc, fun p hp => mk_new F F1 s1 r hp q1⟩
    · have e2 : ((some l : Option (List D)).bind fun l => if l.length ≤ most then some l else none) = none := by simp [hc]
      rw [e2] at q1
      exact q1.elim
/-- [a] * n -/
def mulL (a b : Ev) : Option (List D) := match lstOf a, b with
  | some l, .d (.int k) => if -1000000 ≤ k ∧ k ≤ 1000000 ∧ l.length * k.toNat ≤ most then some (List.replicate k.toNat l).flatten else none
  | _, _ => none
def fMul (f g : Sm Ev) : Sm (List D) := fun ρ M => bnd (f ρ M) fun a M1 => bnd (g ρ M1) fun b M2 => optR (mulL a b) M2
theorem df_mul (ha : PE X a (tE (cf X T W) f)) (hb : PE X b (tE (cf X T W) g)) : PE X (.BinOp a .Mult b pos) (tF (cf X T W) (fMul f g)) := by
  refine ⟨fun pins s σ H Q I q => (pe_op op_rep ha hb).run pins s σ H Q I ?_⟩
  obtain ⟨H0, A, m, M, ρ, P, F, q⟩ := q
  refine subF F q fun x M1 H1 v F1 s1 r1 q1 => ?_
  have q1' : match bnd (g ρ M1) (fun b M2 => optR (mulL x b) M2) with
      | .ok l M' => ∀ H' p vs, Stp m H1 H' → WR X.K m M' H' → LamX.Tabs T H' → ¬ Lv H1 p → H' p = some (.lst vs) → Rps X.K (p :: A) m H' l vs → Q (.ref p) H'
      | .exc c g M' => ∀ H' cls d, Stp m H1 H' → WR X.K m M' H' → LamX.Tabs T H' → XR X.mg H' c g cls d → W cls d σ H'
      | .stuck => False := by
    cases e : bnd (g ρ M1) (fun b M2 => optR (mulL x b) M2) with
    | stuck => rw [e] at q1; exact q1
    | exc c g M' => rw [e] at q1; exact fun H' cls d s w t x => q1 H' cls d (s1.trans s) w t x
    | ok l M' =>
      rw [e] at q1
      exact fun H' p vs s w t n hp r => q1 H' p vs (s1.trans s) w t (fun z => by
        by_cases hm : p ∈ m
        · obtain ⟨o, e, mu⟩ := F1.wr.aok p hm; exact n ⟨o, e, muta_tbl mu⟩
        · exact n (s1.lv z hm)) hp r
  refine subF F1 q1' fun y M2 H2 w F2 s2 r2 q2 => ?_
  cases e : mulL x y with
  | none => rw [e] at q2; exact q2.elim
  | some l =>
    rw [e] at q2
    unfold mulL at e
    split at e
    · rename_i l' k' e1
      obtain ⟨p0, vs, ev, hs, q⟩ := lstOf_at e1 (EvR.step F1.wr.aok F1.ma s2 r1)
      split at e
      · rename_i hc
        cases e
        exact ⟨p0, k', vs, ev, r2, hs, by omega, by omega, by rw [Rps.len q]; exact most_line hc.2.2, fun p hp => mk_new F1 F2 s2 (Rps.rep q _) hp q2⟩
      · cases e
    · cases e
/-- list(x) -/
def fLstOf (f : Sm Ev) : Sm (List D) := fun ρ M => bnd (f ρ M) fun x M1 => optR (seqOf x) M1
/-! ### comprehensions -/
def noX {α : Type} (r : R α) : R α := match r with
  | .ok a M => .ok a M
  | _ => .stuck
def lcL (g : Tgt) (vs : List Nat) (t : Sm Bool) (f : Sm Ev) (ρ : Env) : List D → List D → Mem → R (List D)
  | acc, [], M => .ok acc M
  | acc, d :: r, M => match tgE g (wipeE ρ vs) d with
    | some ρ1 => bnd (noX (t ρ1 M)) fun k M1 => if k = true then bnd (noX (f ρ1 M1)) fun y M2 => match y with
        | .d y => lcL g vs t f ρ (acc ++ [y]) r M2
        | _ => .stuck
      else lcL g vs t f ρ acc r M1
    | none => .stuck
def fLc (it : Sm (List D)) (g : Tgt) (vs : List Nat) (t : Sm Bool) (f : Sm Ev) : Sm (List D) := fun ρ M => bnd (it ρ M) fun items M1 => if items.length ≤ most then lcL g vs t f ρ [] items M1 else .stuck
def W0 : WX := fun _ _ _ _ => False
/-- what the block's run is to reach -/
def Gd (Z : List D → Mem → Prop) (r : R (List D)) : Prop := match r with
  | .ok l M => Z l M
  | _ => False
theorem subB {C : Cf} {H0 H : Hp} {A m : List Addr} {M : Mem} {ρ : Env} {σ : L2.St} {P : List Addr} {α β : Type} {rel : Rel α β} {f : Sm α} {kk : α → Mem → R (List D)} {Z : List D → Mem → Prop} (F : FR C H0 A m M H ρ σ P) (h : Gd Z (bnd (noX (f ρ M)) kk)) {G : β → Hp → Prop}
    (hk : ∀ d M1 H1 v, FR C H0 A m M1 H1 ρ σ P → Stp m H H1 → rel H0 A m H1 d v → Gd Z (kk d M1) → G v H1) : tX C rel f σ H G := by
  refine ⟨H0, A, m, M, ρ, P, F, ?_⟩
  cases e : f ρ M with
  | stuck => rw [e] at h; exact h.elim
  | exc c g M1 => rw [e] at h; exact h.elim
  | ok d M1 =>
    rw [e] at h
    exact fun H1 v s w t r => hk d M1 H1 v (F.step s w t) s r h
def NoE {α : Type} : R α → Prop
  | .exc _ _ _ => False
  | _ => True
theorem NoE.bnd {α β : Type} {r : R α} {k : α → Mem → R β} (h : ∀ a M, NoE (k a M)) : NoE (bnd (noX r) k) := by
  cases r with
  | ok a M => exact h a M
  | _ => trivial
theorem lcL_noX {g : Tgt} {vs : List Nat} {t : Sm Bool} {f : Sm Ev} {ρ : Env} : ∀ (its acc : List D) (M : Mem), NoE (lcL g vs t f ρ acc its M)
  | [], acc, M => trivial
  | d :: r, acc, M => by
    unfold lcL
    cases tgE g (wipeE ρ vs) d with
    | none => trivial
    | some ρ1 =>
      refine NoE.bnd fun b M1 => ?_
      cases b with
      | false => exact lcL_noX r acc M1
      | true =>
        refine NoE.bnd fun y M2 => ?_
        cases y with
        | d y => exact lcL_noX r _ M2
        | _ => trivial
theorem lc_run {it : Sm (List D)} {tgt : Tgt} {vs : List Nat} {t : Sm Bool} (hv : ∀ i ∈ tgt.slots, i ∈ vs) {σ : L2.St} {H : Hp} {Q : VK} (q : tF (cf X T W) (fLc it tgt vs t f) σ H Q) : tLc (tI (cf X T W) true it) (tgG X.K tgt) (tT (cf X T W0) t) (tE (cf X T W0) f) vs σ H Q := by
  obtain ⟨H0, A, m, M, ρ, P, F, q⟩ := q
  refine ⟨H0, A, m, M, ρ, P, F, ?_⟩
  unfold fLc at q
  cases e : it ρ M with
  | stuck => rw [e] at q; exact q.elim
  | exc c g M1 => rw [e] at q; exact q
  | ok items M1 =>
    rw [e, bnd_ok] at q
    intro J H1 s w tb Wl Da nD
    have F1 := F.step s w tb
    have hDm : Da ∉ m := fun z => by obtain ⟨o, e, _⟩ := F1.wr.aok Da z; rw [nD] at e; cases e
    have nH : ¬ Lv H Da := fun z => by obtain ⟨o, e, _⟩ := s.lv z hDm; rw [nD] at e; cases e
    by_cases hc : items.length ≤ most
    · rw [if_pos hc] at q
      have q' : Gd (fun l M' => ∀ H' p ws, Stp m H H' → WR X.K m M' H' → LamX.Tabs T H' → ¬ Lv H p → H' p = some (.lst ws) → Rps X.K (p :: A) m H' l ws → Q (.ref p) H') (lcL tgt vs t f ρ [] items M1) := by
        cases e2 : lcL tgt vs t f ρ [] items M1 with
        | stuck => rw [e2] at q; exact q
        | exc c g M2 => have z := lcL_noX (g := tgt) (vs := vs) (t := t) (f := f) (ρ := ρ) items [] M1; rw [e2] at z; exact z.elim
        | ok l M2 => rw [e2] at q; exact q
      have G0 : FR (cf X T W0) H0 (Da :: A) m M1 (upd H1 Da (.lst [])) ρ σ P := (F1.more nD (o := .lst []) trivial).wish rfl rfl
      refine ⟨fun i k H2 => k + i = items.length ∧ Stp m H1 H2 ∧ ∃ M2 acc accV, FR (cf X T W0) H0 (Da :: A) m M2 H2 ρ σ P ∧ H2 Da = some (.lst accV) ∧ Rps X.K (Da :: A) m H2 acc accV ∧ acc.length ≤ i ∧
        Gd (fun l M' => ∀ H' p ws, Stp m H H' → WR X.K m M' H' → LamX.Tabs T H' → ¬ Lv H p → H' p = some (.lst ws) → Rps X.K (p :: A) m H' l ws → Q (.ref p) H') (lcL tgt vs t f ρ acc (items.drop i) M2),
        ⟨items.length, by simp, Stp.upd nD, M1, [], [], G0, upd_same, rfl, Nat.le_refl _, by simpa using q'⟩, fun i k H2 h => ?_⟩
      obtain ⟨hk, st, M2, acc, accV, F2, hD, rD, la, q2⟩ := h
      have hr : RchC A m H1 (Da :: A) H2 := ⟨fun a ha => (List.mem_cons.mp ha).elim (fun z => .inr (by rw [z]; exact not_lv_of nD)) .inl, fun a ha => List.mem_cons_of_mem _ ha, st⟩
      cases k with
      | zero =>
        have hi : i = items.length := by omega
        subst hi
        rw [List.drop_length] at q2
        exact .inl ⟨Wl.stop _ H2 hr, q2 H2 Da accV (s.trans st) F2.wr F2.tb nH hD rD⟩
      | succ k =>
        have hi : i < items.length := by omega
        have ed : items.drop i = items[i] :: items.drop (i + 1) := List.drop_eq_getElem_cons hi
        rw [ed] at q2
        obtain ⟨hgo, hy⟩ := Wl.go _ H2 hr i items[i] (List.getElem?_eq_getElem hi)
        refine .inr ⟨hgo, fun H' => Stp m H1 H' ∧ ∃ M2 acc accV, FR (cf X T W0) H0 (Da :: A) m M2 H' ρ σ P ∧ H' Da = some (.lst accV) ∧ Rps X.K (Da :: A) m H' acc accV ∧ acc.length ≤ i + 1 ∧
          Gd (fun l M' => ∀ H' p ws, Stp m H H' → WR X.K m M' H' → LamX.Tabs T H' → ¬ Lv H p → H' p = some (.lst ws) → Rps X.K (p :: A) m H' l ws → Q (.ref p) H') (lcL tgt vs t f ρ acc (items.drop (i + 1)) M2),
          fun H' h => ⟨k, Nat.lt_succ_self k, by omega, h⟩, fun v H3 hv3 => ?_⟩
        obtain ⟨h3, r3⟩ := hy v H3 hv3
        have F3 : FR (cf X T W0) H0 (Da :: A) m M2 H3 ρ σ P ∧ Stp m H2 H3 := by
          rcases h3 with rfl | ⟨p, o, hp, rfl⟩
          · exact ⟨F2, Stp.refl _ _⟩
          · exact ⟨F2.grow hp, Stp.upd hp⟩
        unfold lcL at q2
        split at q2
        · rename_i ρ1 h1
          refine tg_blk F3.1 hv r3 h1 fun σ' P' F4 hw => ⟨hw, ?_⟩
          refine subB F4 q2 fun b M5 H5 b' F5 s5 r5 q5 => ?_
          cases (show b = b' from r5)
          have back : ∀ {M6 : Mem} {H6 : Hp}, WR X.K m M6 H6 → LamX.Tabs T H6 → Stp m H3 H6 → FR (cf X T W0) H0 (Da :: A) m M6 H6 ρ σ P ∧ Stp m H1 H6 ∧ H6 Da = some (.lst accV) ∧ Rps X.K (Da :: A) m H6 acc accV := by
            intro M6 H6 w6 t6 s6
            have s26 : Stp m H2 H6 := F3.2.trans s6
            exact ⟨F2.step s26 w6 t6, st.trans s26, s26 Da _ hD hDm lst_tbl, Rps.step F2.wr.aok F2.ma s26 _ _ rD⟩
          cases b with
          | false =>
            rw [if_neg (by decide)] at q5
            obtain ⟨b1, b2, b3, b4⟩ := back F5.wr F5.tb s5
            rw [if_neg (by decide)]
            exact ⟨b2, M5, acc, accV, b1, b3, b4, Nat.le_succ_of_le la, q5⟩
          | true =>
            rw [if_pos rfl] at q5
            rw [if_pos rfl]
            refine subB F5 q5 fun y M6 H6 u F6 s6 r6 q6 => ?_
            obtain ⟨b1, b2, b3, b4⟩ := back F6.wr F6.tb (s5.trans s6)
            split at q6
            · rename_i y
              have hP : Da ∉ P := fun z => by
                have := F1.own Da z
                exact (not_in_A F1.aok (not_lv_of nD)) this.1
              have h0 : ¬ Lv H0 Da := F1.h0 nD
              have F7 := b1.write (a := Da) (o' := .lst (accV ++ [u])) List.mem_cons_self hDm hP h0 b3 trivial trivial
              have up : Stp [Da] H6 (upd H6 Da (.lst (accV ++ [u]))) := stp_upd
              have r7 : Rps X.K (Da :: A) m (upd H6 Da (.lst (accV ++ [u]))) (acc ++ [y]) (accV ++ [u]) :=
                Rps.step (B := [Da]) (aok_one b3 trivial) (fun x hx => by rw [List.mem_singleton.mp hx]; exact List.mem_cons_self) up _ _ (Rps.app b4 (Rps.one r6))
              refine ⟨accV, b3, ?_, fun a o e n tt => ?_, M6, acc ++ [y], accV ++ [u], F7, upd_same, r7, by simp; omega, q6⟩
              · rw [Rps.len b4]; have := most_line hc; omega
              · by_cases ea : a = Da
                · subst ea; rw [nD] at e; cases e
                · rw [upd_ne ea]; exact b2 a o e n tt
            · exact q6.elim
        · exact q2.elim
    · rw [if_neg hc] at q; exact q.elim
theorem df_lc {elt tge iter : Expr} {ifs : List Expr} {scope : Scope} {own : List (Str × Nat)} {it : Sm (List D)} {tgt : Tgt} {t : Sm Bool} (hc : X.calm = true) (hN : X.N.Nodup) (hi : PI X tge iter (tI (cf X T W) true it)) (ok : BlkOk X.N X.env.scope scope own)
    (hg : ∀ (s : Shared) (H : Hp) (C : Addr) (cl : List (Str × Addr)) (fp : List Addr), PG (X.blk s H scope (compEnvC scope cl C X.env) fp) tge (tgG X.K tgt)) (ht : ∀ (s : Shared) (H : Hp) (C : Addr) (cl : List (Str × Addr)) (fp : List Addr), PTs (X.blk s H scope (compEnvC scope cl C X.env) fp) ifs (tT (cf X T W0) t))
    (he : ∀ (s : Shared) (H : Hp) (C : Addr) (cl : List (Str × Addr)) (fp : List Addr), PE (X.blk s H scope (compEnvC scope cl C X.env) fp) elt (tE (cf X T W0) f)) (hv : ∀ i ∈ tgt.slots, i ∈ own.map (·.2) := by decide) (hs : ∀ x, foldedSetIterable iter X.env x = pure x := by intro _; rfl) :
    PE X (.ListComp elt [⟨tge, iter, ifs, 0⟩] scope pos) (tF (cf X T W) (fLc it tgt (own.map (·.2)) t f)) :=
  ⟨fun pins s σ H Q I q => (pe_lc hc hN hi ok hg ht he hs).run pins s σ H Q I (lc_run hv q)⟩
/-- no if -/
def tYesE : Sm Bool := fun _ M => .ok true M
theorem dts_nil : PTs X [] (tT (cf X T W) tYesE) := by
  refine ⟨fun pins s σ H Q I q => pts_nil.run pins s σ H Q I ?_⟩
  obtain ⟨H0, A, m, M, ρ, P, F, q⟩ := q
  exact q.fin F rfl
theorem dts_one {t : Sm Bool} (h : PT X c (tT (cf X T W) t)) : PTs X [c] (tT (cf X T W) t) := pts_one h
end
end DL

set_option Elab.async false
set_option linter.all false
set_option maxRecDepth 100000
set_option maxHeartbeats 2000000
/-! The data layer: names that take lists and dicts of their own. -/
namespace DL
open PySem PySem.Spec PyProof.Rows L2
section
variable {C : Cf} {K : PySem.W.Frag} {H0 H H' : Hp} {A A' m : List Addr} {M M' : Mem} {ρ : Env} {σ : L2.St} {P : List Addr}
theorem FR.gro (F : FR C H0 A m M H ρ σ P) (r : RchC A m H A' H') (w : WR C.K m M' H') (t : LamX.Tabs C.T H') (k : AOk A' H') : FR C H0 A' m M' H' ρ σ P :=
  ⟨w, t, ER.step F.wr.aok (fun a ha => r.2.1 a (F.ma a ha)) r.2.2 (fun a ha => (F.own a ha).2.1) (ER.avoid r.1 F.er), F.nd, fun a ha => ⟨r.2.1 a (F.own a ha).1, (F.own a ha).2⟩, fun a ha => r.2.1 a (F.ma a ha), k, F.base.trans r.2.2⟩
theorem FR.not_live (F : FR C H0 A m M H ρ σ P) {p : Addr} (h : ¬ Lv H p) : p ∉ A ∧ p ∉ m ∧ p ∉ P ∧ ¬ Lv H0 p := by
  have hA : p ∉ A := fun z => by obtain ⟨o, e, mu⟩ := F.aok p z; exact h ⟨o, e, muta_tbl mu⟩
  exact ⟨hA, fun z => hA (F.ma p z), fun z => hA (F.own p z).1, fun z => h (F.base.lv z fun y => hA (F.ma p y))⟩
/-- a slot takes a thing with own addresses, new ones -/
theorem FR.setO (F : FR C H0 A m M H ρ σ P) {x : Ev} {v : V} {P1 : List Addr} {i : Nat} (hx : SlR C.K H0 A m H x v P1) (n1 : P1.Nodup) (h1 : ∀ p ∈ P1, p ∈ A ∧ p ∉ m ∧ ¬ Lv H0 p ∧ p ∉ P) (hi : i < ρ.length) : ∃ P', FR C H0 A m M H (ρ.set i (some x)) (σ.set i (some v)) P' ∧ ∀ p ∈ P', p ∈ P ∨ p ∈ P1 := by
  obtain ⟨L, R, e, sl⟩ := ER.set hx i F.er hi
  have nd := sl.nodup F.nd
  rw [List.nodup_append] at nd
  have mem : ∀ a, a ∈ L ∨ a ∈ R → a ∈ P := fun a h => sl.subset (List.mem_append.mpr h)
  refine ⟨L ++ P1 ++ R, ⟨F.wr, F.tb, e, ?_, fun a ha => ?_, F.ma, F.aok, F.base⟩, fun p hp => ?_⟩
  · rw [List.nodup_append, List.nodup_append]
    refine ⟨⟨nd.1, n1, fun a ha b hb e => ?_⟩, nd.2.1, fun a ha b hb e => ?_⟩
    · subst e; exact (h1 a hb).2.2.2 (mem a (.inl ha))
    · subst e
      rcases List.mem_append.mp ha with z | z
      · exact nd.2.2 a z a hb rfl
      · exact (h1 a z).2.2.2 (mem a (.inr hb))
  · rcases List.mem_append.mp ha with z | z
    · rcases List.mem_append.mp z with z | z
      · exact F.own a (mem a (.inl z))
      · exact ⟨(h1 a z).1, (h1 a z).2.1, (h1 a z).2.2.1⟩
    · exact F.own a (mem a (.inr z))
  · rcases List.mem_append.mp hp with z | z
    · rcases List.mem_append.mp z with z | z
      · exact .inl (mem p (.inl z))
      · exact .inr z
    · exact .inl (mem p (.inr z))
end
/-- a value that a slot may take -/
def PN (C : Cf) (m : List Addr) (H0 : Hp) (A : List Addr) (H : Hp) (σ : L2.St) (r : R Ev) (Q : VK) : Prop := match r with
  | .ok x M' => ∀ A' P1 H' v, RchC A m H A' H' → WR C.K m M' H' → LamX.Tabs C.T H' → AOk A' H' → SlR C.K H0 A' m H' x v P1 → P1.Nodup → (∀ p ∈ P1, p ∈ A' ∧ ¬ Lv H p) → Q v H'
  | .exc c g M' => ∀ H' cls d, Stp m H H' → WR C.K m M' H' → LamX.Tabs C.T H' → XR C.mg H' c g cls d → C.W cls d σ H'
  | .stuck => False
def tN (C : Cf) (f : Sm Ev) : TE := fun σ H Q => ∃ H0 A m M ρ P, FR C H0 A m M H ρ σ P ∧ PN C m H0 A H σ (f ρ M) Q
def nE (f : Sm Ev) : Sm Ev := fun ρ M => bnd (f ρ M) fun x M1 => optR (stor x) M1
def nF (f : Sm (List D)) : Sm Ev := fun ρ M => bnd (f ρ M) fun l M1 => .ok (.ls .own l) M1
theorem tN_E {C : Cf} {f : Sm Ev} {σ : L2.St} {H : Hp} {Q : VK} (h : tN C (nE f) σ H Q) : tE C f σ H Q := by
  obtain ⟨H0, A, m, M, ρ, P, F, q⟩ := h
  refine ⟨H0, A, m, M, ρ, P, F, ?_⟩
  unfold nE at q
  cases e : f ρ M with
  | stuck => rw [e] at q; exact q.elim
  | exc c g M1 => rw [e] at q; exact q
  | ok x M1 =>
    rw [e, bnd_ok] at q
    cases e2 : stor x with
    | none => rw [e2] at q; exact q.elim
    | some y =>
      rw [e2] at q
      intro H' v s w t r
      have F' := F.step s w t
      exact q A [] H' v ⟨fun a h => .inl h, fun a h => h, s⟩ w t F'.aok (stor_at e2 r) List.nodup_nil fun p h => nomatch h
theorem tN_F {C : Cf} {f : Sm (List D)} {σ : L2.St} {H : Hp} {Q : VK} (h : tN C (nF f) σ H Q) : tF C f σ H Q := by
  obtain ⟨H0, A, m, M, ρ, P, F, q⟩ := h
  refine ⟨H0, A, m, M, ρ, P, F, ?_⟩
  unfold nF at q
  cases e : f ρ M with
  | stuck => rw [e] at q; exact q.elim
  | exc c g M1 => rw [e] at q; exact q
  | ok l M1 =>
    rw [e, bnd_ok] at q
    intro H' p vs s w t n hp r
    have ok' : AOk (p :: A) H' := fun a ha => by
      rcases List.mem_cons.mp ha with z | z
      · exact ⟨.lst vs, by rw [z]; exact hp, trivial⟩
      · exact (F.step s w t).aok a z
    exact q (p :: A) [p] H' (.ref p) ⟨fun a h => (List.mem_cons.mp h).elim (fun z => .inr (by rw [z]; exact n)) .inl, fun a h => List.mem_cons_of_mem _ h, s⟩ w t ok' ⟨p, vs, rfl, hp, rfl, r⟩ (by simp) fun a h => by
      rw [List.mem_singleton.mp h]; exact ⟨List.mem_cons_self, n⟩
theorem tE_F {C : Cf} {f : Sm (List D)} {σ : L2.St} {H : Hp} {Q : VK} (h : tE C (eF f) σ H Q) : tF C f σ H Q := by
  obtain ⟨H0, A, m, M, ρ, P, F, q⟩ := h
  refine ⟨H0, A, m, M, ρ, P, F, ?_⟩
  unfold eF at q
  cases e : f ρ M with
  | stuck => rw [e] at q; exact q.elim
  | exc c g M1 => rw [e] at q; exact q
  | ok l M1 =>
    rw [e] at q
    exact fun H' p vs s w t n hp r => q H' (.ref p) s w t ⟨p, vs, rfl, hp, not_in_A F.aok n, Rps.avoid (fun a ha => .inl (List.mem_cons_of_mem _ ha)) _ _ r⟩
section
variable {X : Cx} {T : List (Addr × Str)} {W : WX} {a b c e : Expr} {es : List Expr} {pos p : Pos} {f g : Sm Ev} {fs : Sm (List Ev)}
theorem dn_E (h : PE X e (tE (cf X T W) f)) : PE X e (tN (cf X T W) (nE f)) := ⟨fun pins s σ H Q I q => h.run pins s σ H Q I (tN_E q)⟩
theorem dn_F {f : Sm (List D)} (h : PE X e (tF (cf X T W) f)) : PE X e (tN (cf X T W) (nF f)) := ⟨fun pins s σ H Q I q => h.run pins s σ H Q I (tN_F q)⟩
/-- {}: with keys, with tuples as keys -/
def nDk : Sm Ev := fun _ M => .ok (.dk .own [] []) M
def nDt : Sm Ev := fun _ M => .ok (.dt .own [] []) M
theorem new_own {C : Cf} {H0 H : Hp} {A m : List Addr} {M : Mem} {ρ : Env} {σ : L2.St} {P : List Addr} {x : Ev} {Q : VK} {p : Addr} {o : HO} (F : FR C H0 A m M H ρ σ P) (mu : muta o) (q : PN C m H0 A H σ (.ok x M) Q) (hp : H p = none) (hx : SlR C.K H0 (p :: A) m (upd H p o) x (.ref p) [p]) : Q (.ref p) (upd H p o) := by
  have F' := F.more hp mu
  exact q (p :: A) [p] _ _ ⟨fun a h => (List.mem_cons.mp h).elim (fun z => .inr (by rw [z]; exact not_lv_of hp)) .inl, fun a h => List.mem_cons_of_mem _ h, Stp.upd hp⟩ F'.wr F'.tb F'.aok hx (by simp) fun a h => by
    rw [List.mem_singleton.mp h]; exact ⟨List.mem_cons_self, not_lv_of hp⟩
theorem dn_dk : PE X (.Dict [] [] pos) (tN (cf X T W) nDk) := by
  refine ⟨fun pins s σ H Q I q => pe_dnewK.run pins s σ H Q I ?_⟩
  obtain ⟨H0, A, m, M, ρ, P, F, q⟩ := q
  exact fun p hp => new_own F trivial q hp ⟨p, [], rfl, upd_same, rfl, rfl, rfl⟩
theorem dn_dt : PE X (.Dict [] [] pos) (tN (cf X T W) nDt) := by
  refine ⟨fun pins s σ H Q I q => pe_dnewT.run pins s σ H Q I ?_⟩
  obtain ⟨H0, A, m, M, ρ, P, F, q⟩ := q
  exact fun p hp => new_own F trivial q hp ⟨p, [], rfl, upd_same, rfl, rfl, rfl⟩
/-! several -/
def SlRs (K : PySem.W.Frag) (H0 : Hp) (A m : List Addr) (H : Hp) : List Ev → List V → List Addr → Prop
  | [], vs, P => vs = [] ∧ P = []
  | x :: xs, vs, P => ∃ v r P1 P2, vs = v :: r ∧ P = P1 ++ P2 ∧ SlR K H0 A m H x v P1 ∧ SlRs K H0 A m H xs r P2
theorem SlRs.len {K : PySem.W.Frag} {H0 : Hp} {A m : List Addr} {H : Hp} : ∀ {xs : List Ev} {vs : List V} {P : List Addr}, SlRs K H0 A m H xs vs P → vs.length = xs.length
  | [], _, _, ⟨e, _⟩ => by rw [e]; rfl
  | x :: xs, _, _, ⟨v, r, P1, P2, e, eP, h1, h2⟩ => by rw [e, List.length_cons, List.length_cons, SlRs.len h2]
def tNs (C : Cf) (fs : Sm (List Ev)) : TA := fun σ H Q => ∃ H0 A m M ρ P, FR C H0 A m M H ρ σ P ∧ match fs ρ M with
  | .ok xs M' => ∀ A' P1 H' vs, RchC A m H A' H' → WR C.K m M' H' → LamX.Tabs C.T H' → AOk A' H' → SlRs C.K H0 A' m H' xs vs P1 → P1.Nodup → (∀ p ∈ P1, p ∈ A' ∧ ¬ Lv H p) → Q vs H'
  | .exc c g M' => ∀ H' cls d, Stp m H H' → WR C.K m M' H' → LamX.Tabs C.T H' → XR C.mg H' c g cls d → C.W cls d σ H'
  | .stuck => False
def nNil : Sm (List Ev) := fun _ M => .ok [] M
def nCons (f : Sm Ev) (fs : Sm (List Ev)) : Sm (List Ev) := fun ρ M => bnd (f ρ M) fun x M1 => bnd (fs ρ M1) fun xs M2 => .ok (x :: xs) M2
theorem dns_nil : PA X [] (tNs (cf X T W) nNil) := by
  refine ⟨fun pos pins s σ H Q I q => pa_nil.run pos pins s σ H Q I ?_⟩
  obtain ⟨H0, A, m, M, ρ, P, F, q⟩ := q
  exact q A [] H [] ⟨fun a h => .inl h, fun a h => h, Stp.refl _ _⟩ F.wr F.tb F.aok ⟨rfl, rfl⟩ List.nodup_nil fun p h => nomatch h
theorem dns_cons (he : PE X e (tN (cf X T W) f)) (ha : PA X es (tNs (cf X T W) fs)) (hs : starEach (e :: es) X.env = (false, eval e X.env) :: starEach es X.env := by rfl) : PA X (e :: es) (tNs (cf X T W) (nCons f fs)) := by
  refine ⟨fun pos pins s σ H Q I q => (pa_cons he ha hs).run pos pins s σ H Q I ?_⟩
  obtain ⟨H0, A, m, M, ρ, P, F, q⟩ := q
  refine ⟨H0, A, m, M, ρ, P, F, ?_⟩
  unfold nCons at q
  cases e1 : f ρ M with
  | stuck => rw [e1] at q; exact q.elim
  | exc c g M1 => rw [e1] at q; exact q
  | ok x M1 =>
    rw [e1, bnd_ok] at q
    intro A1 P1 H1 v r1 w1 t1 k1 x1 n1 h1
    have F1 := F.gro r1 w1 t1 k1
    refine ⟨H0, A1, m, M1, ρ, P, F1, ?_⟩
    cases e2 : fs ρ M1 with
    | stuck => rw [e2] at q; exact q.elim
    | exc c g M2 => rw [e2] at q; exact fun H' cls d s w t x => q H' cls d (r1.2.2.trans s) w t x
    | ok xs M2 =>
      rw [e2] at q
      intro A2 P2 H2 vs r2 w2 t2 k2 x2 n2 h2
      have hl : ∀ p ∈ P1, Lv H1 p := fun p hp => by obtain ⟨o, e, mu⟩ := k1 p (h1 p hp).1; exact ⟨o, e, muta_tbl mu⟩
      have n12 : ∀ p, ¬ Lv H1 p → ¬ Lv H p := fun p z y => z (by
        by_cases hm : p ∈ m
        · obtain ⟨o, e, mu⟩ := w1.aok p hm; exact ⟨o, e, muta_tbl mu⟩
        · exact r1.2.2.lv y hm)
      refine q A2 (P1 ++ P2) H2 (v :: vs) ⟨fun a ha => ?_, fun a ha => r2.2.1 a (r1.2.1 a ha), r1.2.2.trans r2.2.2⟩ w2 t2 k2 ⟨v, vs, P1, P2, rfl, rfl, ?_, x2⟩ ?_ fun p hp => ?_
      · rcases r2.1 a ha with z | z
        · exact r1.1 a z
        · exact .inr (n12 a z)
      · exact SlR.step w1.aok (fun a ha => r2.2.1 a (F1.ma a ha)) r2.2.2 (fun a ha => (F.not_live (h1 a ha).2).2.1) (SlR.avoid r2.1 x1)
      · rw [List.nodup_append]
        exact ⟨n1, n2, fun a ha b hb e => (h2 b hb).2 (by rw [← e]; exact hl a ha)⟩
      · rcases List.mem_append.mp hp with z | z
        · exact ⟨r2.2.1 p (h1 p z).1, (h1 p z).2⟩
        · exact ⟨(h2 p z).1, n12 p (h2 p z).2⟩
/-- slots take things, some with own addresses -/
theorem FR.setNs {C : Cf} {H0 H : Hp} {A m : List Addr} {M : Mem} : ∀ {is : List Nat} {xs : List Ev} {vs : List V} {ρ : Env} {σ : L2.St} {P P1 : List Addr}, FR C H0 A m M H ρ σ P → SlRs C.K H0 A m H xs vs P1 → P1.Nodup → (∀ p ∈ P1, p ∈ A ∧ p ∉ m ∧ ¬ Lv H0 p ∧ p ∉ P) → (∀ i ∈ is, i < ρ.length) →
    ∃ P', FR C H0 A m M H (DL.setEvs ρ is xs) (DL.setAll σ is vs) P'
  | [], xs, vs, _, _, P, P1, F, _, _, _, _ => ⟨P, by cases xs <;> cases vs <;> exact F⟩
  | i :: is, [], vs, _, _, P, P1, F, ⟨e, _⟩, _, _, _ => ⟨P, by rw [e]; exact F⟩
  | i :: is, x :: xs, vs, ρ, σ, P, P1, F, ⟨v, r, Q1, Q2, e, eP, h1, h2⟩, n, hp, hi => by
    subst e; subst eP
    rw [List.nodup_append] at n
    obtain ⟨P', F', hP'⟩ := F.setO h1 n.1 (fun p h => hp p (List.mem_append_left _ h)) (hi i List.mem_cons_self)
    exact FR.setNs (is := is) (xs := xs) (vs := r) F' h2 n.2.1 (fun p h => ⟨(hp p (List.mem_append_right _ h)).1, (hp p (List.mem_append_right _ h)).2.1, (hp p (List.mem_append_right _ h)).2.2.1, fun z => (hP' p z).elim (hp p (List.mem_append_right _ h)).2.2.2 fun y => n.2.2 p y p h rfl⟩) fun j hj => by
      rw [List.length_set]; exact hi j (List.mem_cons_of_mem _ hj)
/-! ### the statements -/
def sSetN (i : Nat) (f : Sm Ev) : Ss := fun ρ M => sE (f ρ M) ρ fun x M1 => if i < ρ.length then .nx (ρ.set i (some x)) M1 else .stuck
theorem setN_run {C : Cf} {f : Sm Ev} {i : Nat} {σ : L2.St} {H : Hp} {Dn : Ends} (q : tS C (sSetN i f) Dn σ H) : tN C f σ H fun v H1 => Dn.nx (σ.set i (some v)) H1 := by
  obtain ⟨H0, A, m, M, ρ, P, F, q⟩ := q
  refine ⟨H0, A, m, M, ρ, P, F, ?_⟩
  unfold sSetN at q
  cases e1 : f ρ M with
  | stuck => rw [e1] at q; exact q.elim
  | exc c g M1 =>
    rw [e1] at q
    exact fun H' cls d s w t x => q A H' σ P cls d (Ext.step s F.ma) (F.step s w t) x
  | ok x M1 =>
    rw [e1] at q
    intro A1 P1 H1 v r1 w1 t1 k1 x1 n1 h1
    have F1 := F.gro r1 w1 t1 k1
    have q' : PZ C H0 A m H (if i < ρ.length then .nx (ρ.set i (some x)) M1 else .stuck) Dn := q
    by_cases hi : i < ρ.length
    · rw [if_pos hi] at q'
      obtain ⟨P', F', _⟩ := F1.setO x1 n1 (fun p hp => ⟨(h1 p hp).1, (F.not_live (h1 p hp).2).2.1, (F.not_live (h1 p hp).2).2.2.2, (F.not_live (h1 p hp).2).2.2.1⟩) hi
      exact q' A1 H1 _ P' ⟨r1.2.1, r1.1, r1.2.2.mono F.ma⟩ F'
    · rw [if_neg hi] at q'; exact q'.elim
theorem ds_setN {i : Nat} {x : Str} {pos' : Pos} (hN : X.N.Nodup) (he : PE X e (tN (cf X T W) f)) (hi : X.N[i]? = some x := by rfl) (hx : Loc X.env.scope x := by first | exact Or.inl rfl | exact Or.inr rfl) (hs : swapsWith e (some (.Name x pos')) pos.line X.env = pure false := by rfl) (hf : X.fn x = true ∨ X.env.scope.names.lookup x = some .local := by first | exact .inl rfl | exact .inr rfl | assumption) :
    PS X (.Assign [.Name x pos'] e pos) (tS (cf X T W) (sSetN i f)) :=
  ⟨fun pins s σ H Dn I q => (ps_set hN hi hx he hs hf).run pins s σ H Dn I (setN_run q)⟩
/-- name = [.. for ..] on one line -/
theorem ds_setLc {i : Nat} {y : Str} {py : Pos} {elt tg iter : Expr} {ifs : List Expr} {scope : Scope} {own : List (Str × Nat)} {spos : Pos} {it : Sm (List D)} {tgt : Tgt} {t : Sm Bool} {n : Sm Ev} (hc : X.calm = true) (hN : X.N.Nodup) (hi : PI X tg iter (tI (cf X T W) true it)) (ok : BlkOk X.N X.env.scope scope own)
    (hg : ∀ (s : Shared) (H : Hp) (C : Addr) (cl : List (Str × Addr)) (fp : List Addr), PG (X.blk s H scope (compEnvC scope cl C X.env) fp) tg (tgG X.K tgt)) (ht : ∀ (s : Shared) (H : Hp) (C : Addr) (cl : List (Str × Addr)) (fp : List Addr), PTs (X.blk s H scope (compEnvC scope cl C X.env) fp) ifs (tT (cf X T W0) t))
    (he : ∀ (s : Shared) (H : Hp) (C : Addr) (cl : List (Str × Addr)) (fp : List Addr), PE (X.blk s H scope (compEnvC scope cl C X.env) fp) elt (tE (cf X T W0) f)) (hn : ∀ σ H Q, tN (cf X T W) n σ H Q → tF (cf X T W) (fLc it tgt (own.map (·.2)) t f) σ H Q)
    (hsw : swapsWith (.ListComp elt [⟨tg, iter, ifs, 0⟩] scope pos) (some (.Name y py)) spos.line X.env = pure true) (hy : X.N[i]? = some y := by rfl) (hyl : X.env.scope.names.lookup y = some .local := by rfl) (hv : ∀ i ∈ tgt.slots, i ∈ own.map (·.2) := by decide) (hs : ∀ x, foldedSetIterable iter X.env x = pure x := by intro _; rfl) :
    PS X (.Assign [.Name y py] (.ListComp elt [⟨tg, iter, ifs, 0⟩] scope pos) spos) (tS (cf X T W) (sSetN i n)) :=
  ⟨fun pins s σ H Dn I q => (ps_setLc hc hN hy hyl hsw hi ok hg ht he hs).run pins s σ H Dn I (lc_run hv (hn _ _ _ (setN_run q)))⟩
theorem hn_own {C : Cf} {f : Sm (List D)} : ∀ σ H Q, tN C (nF f) σ H Q → tF C f σ H Q := fun _ _ _ => tN_F
theorem hn_dat {C : Cf} {f : Sm (List D)} : ∀ σ H Q, tN C (nE (eF f)) σ H Q → tF C f σ H Q := fun _ _ _ q => tE_F (tN_E q)
/-- a, b = .. with plain names, some lists and dicts of their own -/
def sParN (is : List Nat) (fs : Sm (List Ev)) : Ss := fun ρ M => sE (fs ρ M) ρ fun xs M1 => if xs.length = is.length ∧ ∀ i ∈ is, i < ρ.length then .nx (setEvs ρ is xs) M1 else .stuck
theorem parN_run {C : Cf} {fs : Sm (List Ev)} {is : List Nat} {σ : L2.St} {H : Hp} {Dn : Ends} (q : tS C (sParN is fs) Dn σ H) : tNs C fs σ H fun vs H1 => vs.length = is.length ∧ Dn.nx (setAll σ is vs) H1 := by
  obtain ⟨H0, A, m, M, ρ, P, F, q⟩ := q
  refine ⟨H0, A, m, M, ρ, P, F, ?_⟩
  unfold sParN at q
  cases e1 : fs ρ M with
  | stuck => rw [e1] at q; exact q.elim
  | exc c g M1 =>
    rw [e1] at q
    exact fun H' cls d s w t x => q A H' σ P cls d (Ext.step s F.ma) (F.step s w t) x
  | ok xs M1 =>
    rw [e1] at q
    intro A1 P1 H1 vs r1 w1 t1 k1 x1 n1 h1
    have F1 := F.gro r1 w1 t1 k1
    have q' : PZ C H0 A m H (if xs.length = is.length ∧ ∀ i ∈ is, i < ρ.length then .nx (setEvs ρ is xs) M1 else .stuck) Dn := q
    by_cases hi : xs.length = is.length ∧ ∀ i ∈ is, i < ρ.length
    · rw [if_pos hi] at q'
      obtain ⟨P', F'⟩ := FR.setNs F1 x1 n1 (fun p hp => ⟨(h1 p hp).1, (F.not_live (h1 p hp).2).2.1, (F.not_live (h1 p hp).2).2.2.2, (F.not_live (h1 p hp).2).2.2.1⟩) hi.2
      exact ⟨by rw [SlRs.len x1]; exact hi.1, q' A1 H1 _ P' ⟨r1.2.1, r1.1, r1.2.2.mono F.ma⟩ F'⟩
    · rw [if_neg hi] at q'; exact q'.elim
theorem ds_parN {i j : Nat} {x y : Str} {px py pt : Pos} {kt k2 pt2} (hc : X.calm = true) (hN : X.N.Nodup) (ha : PA X [a, b] (tNs (cf X T W) fs)) (hi : X.N[i]? = some x := by rfl) (hj : X.N[j]? = some y := by rfl) (hij : i ≠ j := by decide)
    (hx : X.env.scope.names.lookup x = some .local := by rfl) (hy : X.env.scope.names.lookup y = some .local := by rfl)
    (hw : swappedStores [.Tuple [.Name x px, .Name y py] kt pt] (.Tuple [a, b] k2 pt2) X.env = pure (some [x, y]) := by rfl)
    (hs : swapsWithSole [.Tuple [.Name x px, .Name y py] kt pt] (.Tuple [a, b] k2 pt2) pos.line X.env = pure false := by rfl) :
    PS X (.Assign [.Tuple [.Name x px, .Name y py] kt pt] (.Tuple [a, b] k2 pt2) pos) (tS (cf X T W) (sParN [i, j] fs)) := by
  refine ⟨fun pins s σ H Dn I q => (ps_par hc hN hi hj hij hx hy ha hw hs).run pins s σ H Dn I ?_⟩
  obtain ⟨H0, A, m, M, ρ, P, F, h⟩ := parN_run q
  refine ⟨H0, A, m, M, ρ, P, F, ?_⟩
  have two : ∀ vs H1, vs.length = [i, j].length ∧ Dn.nx (setAll σ [i, j] vs) H1 → ∃ v w, vs = [v, w] ∧ Dn.nx ((σ.set i (some v)).set j (some w)) H1 := by
    intro vs H1 h
    match vs, h with
    | [v, w], h => exact ⟨v, w, rfl, h.2⟩
  cases e1 : fs ρ M with
  | stuck => rw [e1] at h; exact h
  | exc c g M1 => rw [e1] at h; exact h
  | ok xs M1 =>
    rw [e1] at h
    exact fun A1 P1 H1 vs r1 w1 t1 k1 x1 n1 h1 => two _ _ (h A1 P1 H1 vs r1 w1 t1 k1 x1 n1 h1)
theorem ds_parN3 {i j l : Nat} {x y z : Str} {c : Expr} {px py pz pt : Pos} {kt k2 pt2} (hc : X.calm = true) (hN : X.N.Nodup) (ha : PA X [a, b, c] (tNs (cf X T W) fs)) (hi : X.N[i]? = some x := by rfl) (hj : X.N[j]? = some y := by rfl) (hl : X.N[l]? = some z := by rfl) (hij : i ≠ j := by decide) (hil : i ≠ l := by decide) (hjl : j ≠ l := by decide)
    (hx : X.env.scope.names.lookup x = some .local := by rfl) (hy : X.env.scope.names.lookup y = some .local := by rfl) (hz : X.env.scope.names.lookup z = some .local := by rfl)
    (hw : swappedStores [.Tuple [.Name x px, .Name y py, .Name z pz] kt pt] (.Tuple [a, b, c] k2 pt2) X.env = pure (some [x, y, z]) := by rfl)
    (hs : swapsWithSole [.Tuple [.Name x px, .Name y py, .Name z pz] kt pt] (.Tuple [a, b, c] k2 pt2) pos.line X.env = pure false := by rfl) :
    PS X (.Assign [.Tuple [.Name x px, .Name y py, .Name z pz] kt pt] (.Tuple [a, b, c] k2 pt2) pos) (tS (cf X T W) (sParN [i, j, l] fs)) := by
  refine ⟨fun pins s σ H Dn I q => (ps_par3 hc hN hi hj hl hij hil hjl hx hy hz ha hw hs).run pins s σ H Dn I ?_⟩
  obtain ⟨H0, A, m, M, ρ, P, F, h⟩ := parN_run q
  refine ⟨H0, A, m, M, ρ, P, F, ?_⟩
  have three : ∀ vs H1, vs.length = [i, j, l].length ∧ Dn.nx (setAll σ [i, j, l] vs) H1 → ∃ v w u, vs = [v, w, u] ∧ Dn.nx (((σ.set i (some v)).set j (some w)).set l (some u)) H1 := by
    intro vs H1 h
    match vs, h with
    | [v, w, u], h => exact ⟨v, w, u, rfl, h.2⟩
  cases e1 : fs ρ M with
  | stuck => rw [e1] at h; exact h
  | exc c g M1 => rw [e1] at h; exact h
  | ok xs M1 =>
    rw [e1] at h
    exact fun A1 P1 H1 vs r1 w1 t1 k1 x1 n1 h1 => three _ _ (h A1 P1 H1 vs r1 w1 t1 k1 x1 n1 h1)
end
end DL

set_option Elab.async false
set_option linter.all false
set_option maxRecDepth 100000
set_option maxHeartbeats 2000000
/-! The data layer: lists that are written. -/
namespace DL
open PySem PySem.Spec PyProof.Rows L2
section
variable {C : Cf} {K : PySem.W.Frag} {H0 H H' : Hp} {A A' m : List Addr} {M M' : Mem} {ρ : Env} {σ : L2.St} {P : List Addr}
/-- an own thing of a slot is written -/
theorem FR.mutE (F : FR C H0 A m M H ρ σ P) {j : Nat} {x x' : Ev} {v : V} {a : Addr} {o o' : HO} (h : ρ[j]? = some (some x)) (e : σ[j]? = some (some v)) (ha : a ∈ P) (hp : H a = some o) (mu : muta o) (mu' : muta o')
    (hx : ∀ P1, SlR C.K H0 A m H x v P1 → P1.Nodup → SlR C.K H0 A m (upd H a o') x' v P1) (hy : ∀ P1, SlR C.K H0 A m H x v P1 → a ∈ P1) : FR C H0 A m M (upd H a o') (ρ.set j (some x')) σ P := by
  have ho := F.own a ha
  refine ⟨F.wr.mut ho.2.1 hp mu, Tabs.mut F.tb hp mu, ER.mut (aok_one hp mu) ho.1 ho.2.2 stp_upd hx hy F.nd F.er h e, F.nd, F.own, F.ma, fun b hb => ?_, fun b u e n t => ?_⟩
  · by_cases e : b = a
    · exact ⟨o', by rw [e]; exact upd_same, mu'⟩
    · obtain ⟨o, e1, mu⟩ := F.aok b hb
      exact ⟨o, by rw [upd_ne e]; exact e1, mu⟩
  · have q := F.base b u e n t
    by_cases ex : b = a
    · subst ex; exact absurd ⟨u, e, t⟩ ho.2.2
    · rw [upd_ne ex]; exact q
/-- the own list of a slot -/
theorem FR.ownL (F : FR C H0 A m M H ρ σ P) {j : Nat} {l : List D} (h : ρ[j]? = some (some (.ls .own l))) :
    ∃ p vs, σ[j]? = some (some (.ref p)) ∧ H p = some (.lst vs) ∧ p ∈ A ∧ p ∉ m ∧ Rps C.K A m H l vs ∧ ∀ l' vs', Rps C.K A m (upd H p (.lst vs')) l' vs' → FR C H0 A m M (upd H p (.lst vs')) (ρ.set j (some (.ls .own l'))) σ P := by
  obtain ⟨v, P1, q1, q2, q3⟩ := ER.get F.er h
  obtain ⟨p, vs, rfl, hp, eP, r⟩ := q2
  have hP := q3 p (by rw [eP]; exact List.mem_cons_self)
  have ho := F.own p hP
  refine ⟨p, vs, q1, hp, ho.1, ho.2.1, r, fun l' vs' r' => ?_⟩
  refine F.mutE h q1 hP hp trivial trivial (fun Q1 hq _ => ?_) (fun Q1 hq => ?_)
  · obtain ⟨p', vs'', e, hp', eQ, _⟩ := hq
    cases e
    exact ⟨p, vs', rfl, upd_same, eQ, r'⟩
  · obtain ⟨p', vs'', e, hp', eQ, _⟩ := hq
    cases e
    rw [eQ]; exact List.mem_cons_self
theorem Rps.self {p : Addr} {o o' : HO} (hp : H p = some o) (mu : muta o) (hA : p ∈ A) {l : List D} {vs : List V} (r : Rps K A m H l vs) : Rps K A m (upd H p o') l vs :=
  Rps.step (B := [p]) (aok_one hp mu) (fun x hx => by rw [List.mem_singleton.mp hx]; exact hA) stp_upd l vs r
theorem Rp.self {p : Addr} {o o' : HO} (hp : H p = some o) (mu : muta o) (hA : p ∈ A) {d : D} {v : V} (r : Rp K A m H d v) : Rp K A m (upd H p o') d v :=
  Rp.step (B := [p]) (aok_one hp mu) (fun x hx => by rw [List.mem_singleton.mp hx]; exact hA) stp_upd d v r
/-- an object of the common memory -/
theorem FR.memL (F : FR C H0 A m M H ρ σ P) {n : Nat} {l : List D} (hM : M[n]? = some (.lst l)) {a : Addr} (hm : m[n]? = some a) :
    ∃ vs, H a = some (.lst vs) ∧ a ∈ m ∧ Rps C.K A m H l vs ∧ ∀ l' vs', D.bareL l' = true → Rps C.K A m (upd H a (.lst vs')) l' vs' → FR C H0 A m (M.set n (.lst l')) (upd H a (.lst vs')) ρ σ P ∧ Stp m H (upd H a (.lst vs')) := by
  obtain ⟨vs, h1, h2, h3⟩ := F.wr.ok n a _ hm hM
  have ha : a ∈ m := List.mem_of_getElem? hm
  refine ⟨vs, h1, ha, Rps.bare _ _ h2 h3, fun l' vs' b r' => ?_⟩
  have s : Stp m H (upd H a (.lst vs')) := stp_upd.mono fun x hx => by rw [List.mem_singleton.mp hx]; exact ha
  refine ⟨F.step s ⟨by rw [List.length_set]; exact F.wr.len, F.wr.nd, fun k c o hk ho => ?_⟩ (Tabs.mut F.tb h1 trivial), s⟩
  by_cases ek : k = n
  · subst ek
    rw [hm] at hk
    cases hk
    have hl : k < M.length := (List.getElem?_eq_some_iff.mp hM).1
    rw [List.getElem?_set_self hl] at ho
    cases ho
    exact ⟨vs', upd_same, b, Rps.bare _ _ b r'⟩
  · rw [List.getElem?_set_ne (fun z => ek z.symm)] at ho
    have q := F.wr.ok k c o hk ho
    have hca : c ≠ a := fun z => by
      subst z
      have h1 := List.getElem?_eq_some_iff.mp hk
      have h2 := List.getElem?_eq_some_iff.mp hm
      exact ek ((List.getElem_inj F.wr.nd).mp (h1.2.trans h2.2.symm))
    cases o with
    | lst lo =>
      obtain ⟨us, e1, e2, e3⟩ := q
      exact ⟨us, by rw [upd_ne hca]; exact e1, e2, Rps.self h1 trivial ha e3⟩
/-- a row among rows -/
theorem RowsR.get : ∀ {rows : List (List D)} {vs : List V} {P : List Addr} {i : Nat} {row : List D}, RowsR K A m H rows vs P → rows[i]? = some row → ∃ b ws, vs[i]? = some (.ref b) ∧ b ∈ P ∧ H b = some (.lst ws) ∧ Rps K A m H row ws
  | [], _, _, i, _, _, e => by simp at e
  | r0 :: rows, vs, P, 0, row, ⟨b, ws, r, P', e, eP, hb, hr, ht⟩, q => by
    simp at q; subst q
    exact ⟨b, ws, by rw [e]; rfl, by rw [eP]; exact List.mem_cons_self, hb, hr⟩
  | r0 :: rows, vs, P, i + 1, row, ⟨b, ws, r, P', e, eP, hb, hr, ht⟩, q => by
    obtain ⟨c, us, e1, e2, e3, e4⟩ := RowsR.get (i := i) ht (by simpa using q)
    exact ⟨c, us, by rw [e]; simpa using e1, by rw [eP]; exact List.mem_cons_of_mem _ e2, e3, e4⟩
theorem RowsR.len : ∀ {rows : List (List D)} {vs : List V} {P : List Addr}, RowsR K A m H rows vs P → vs.length = rows.length
  | [], _, _, ⟨e, _⟩ => by rw [e]; rfl
  | r0 :: rows, vs, P, ⟨b, ws, r, P', e, eP, hb, hr, ht⟩ => by rw [e, List.length_cons, List.length_cons, RowsR.len ht]
theorem RowsR.mut {p : Addr} {o : HO} {ws' : List V} {row' : List D} (hp : H p = some o) (mu : muta o) (hA : p ∈ A) (r' : Rps K A m (upd H p (.lst ws')) row' ws') : ∀ {rows : List (List D)} {vs : List V} {P : List Addr} {i : Nat}, P.Nodup → RowsR K A m H rows vs P → vs[i]? = some (.ref p) → RowsR K A m (upd H p (.lst ws')) (rows.set i row') vs P
  | [], _, _, i, _, ⟨e, eP⟩, q => by rw [e] at q; simp at q
  | r0 :: rows, vs, P, 0, nd, ⟨b, ws, r, P', e, eP, hb, hr, ht⟩, q => by
    rw [e] at q; simp at q; subst q
    rw [eP, List.nodup_cons] at nd
    exact ⟨b, ws', r, P', e, eP, upd_same, r', RowsR.step (B := [b]) (aok_one hp mu) (fun x hx => by rw [List.mem_singleton.mp hx]; exact hA) stp_upd (fun a ha z => nd.1 (by rw [← List.mem_singleton.mp z]; exact ha)) ht⟩
  | r0 :: rows, vs, P, i + 1, nd, ⟨b, ws, r, P', e, eP, hb, hr, ht⟩, q => by
    rw [e] at q
    have q' : r[i]? = some (.ref p) := by simpa using q
    rw [eP, List.nodup_cons] at nd
    have mem : ∀ {rows : List (List D)} {vs : List V} {P : List Addr} {i : Nat}, RowsR K A m H rows vs P → vs[i]? = some (.ref p) → p ∈ P := by
      intro rows
      induction rows with
      | nil => intro vs P i h q; rw [h.1] at q; simp at q
      | cons r0 rows ih =>
        intro vs P i h q
        obtain ⟨b, ws, r, P', e, eP, hb, hr, ht⟩ := h
        rw [e] at q; rw [eP]
        cases i with
        | zero => simp at q; subst q; exact List.mem_cons_self
        | succ i => exact List.mem_cons_of_mem _ (ih ht (by simpa using q))
    have hne : b ≠ p := fun z => nd.1 (by rw [z]; exact mem ht q')
    exact ⟨b, ws, r, P', e, eP, by rw [upd_ne hne]; exact hb, Rps.self hp mu hA hr, RowsR.mut hp mu hA r' nd.2 ht q'⟩
theorem FR.ownR (F : FR C H0 A m M H ρ σ P) {j : Nat} {rows : List (List D)} (h : ρ[j]? = some (some (.rw .own rows))) :
    ∃ p vs, σ[j]? = some (some (.ref p)) ∧ H p = some (.lst vs) ∧ vs.length = rows.length ∧ ∀ i row, rows[i]? = some row → ∃ b ws, vs[i]? = some (.ref b) ∧ p ≠ b ∧ b ∈ A ∧ b ∉ m ∧ H b = some (.lst ws) ∧ Rps C.K A m H row ws ∧
      ∀ l' ws', Rps C.K A m (upd H b (.lst ws')) l' ws' → FR C H0 A m M (upd H b (.lst ws')) (ρ.set j (some (.rw .own (rows.set i l')))) σ P := by
  obtain ⟨v, P1, q1, q2, q3⟩ := ER.get F.er h
  have key := q2
  obtain ⟨p, vs, P', rfl, hp, eP, r⟩ := q2
  refine ⟨p, vs, q1, hp, RowsR.len r, fun i row hi => ?_⟩
  obtain ⟨b, ws, e1, e2, e3, e4⟩ := RowsR.get r hi
  have hP := q3 b (by rw [eP]; exact List.mem_cons_of_mem _ e2)
  have ho := F.own b hP
  have hne : ∀ {Q1 : List Addr}, Q1.Nodup → SlR C.K H0 A m H (.rw .own rows) (.ref p) Q1 → p ≠ b := by
    intro Q1 nd hq
    obtain ⟨p', vs', P'', e, hp', eQ, r2⟩ := hq
    cases e
    rw [hp] at hp'; cases hp'
    obtain ⟨b', ws', f1, f2, _⟩ := RowsR.get r2 hi
    rw [e1] at f1; cases f1
    rw [eQ, List.nodup_cons] at nd
    exact fun z => nd.1 (by rw [z]; exact f2)
  have hpb : p ≠ b := by
    have sub : ∀ {ρ : Env} {σ : L2.St} {P : List Addr} {i : Nat} {x : Ev} {v : V}, ER C.K H0 A m H ρ σ P → P.Nodup → ρ[i]? = some (some x) → σ[i]? = some (some v) → ∃ P1, SlR C.K H0 A m H x v P1 ∧ P1.Nodup := by
      intro ρ
      induction ρ with
      | nil => intro σ P i x v _ _ e; simp at e
      | cons y ρ ih =>
        intro σ P i x v h nd e e'
        cases y with
        | none =>
          obtain ⟨y, τ, e2, h⟩ := h
          cases i with
          | zero => simp at e
          | succ i => exact ih h nd (by simpa using e) (by rw [e2] at e'; simpa using e')
        | some z =>
          obtain ⟨w, τ, Q1, Q2, e2, eP, h1, h2⟩ := h
          rw [eP, List.nodup_append] at nd
          cases i with
          | zero => simp at e; rw [e2] at e'; simp at e'; subst e; subst e'; exact ⟨Q1, h1, nd.1⟩
          | succ i => exact ih h2 nd.2.1 (by simpa using e) (by rw [e2] at e'; simpa using e')
    obtain ⟨Q1, hq, nd⟩ := sub F.er F.nd h q1
    exact hne nd hq
  refine ⟨b, ws, e1, hpb, ho.1, ho.2.1, e3, e4, fun l' ws' r' => ?_⟩
  refine F.mutE h q1 hP e3 trivial trivial (fun Q1 hq nd => ?_) (fun Q1 hq => ?_)
  · obtain ⟨p', vs', P'', e, hp', eQ, r2⟩ := hq
    cases e
    rw [hp] at hp'; cases hp'
    rw [eQ, List.nodup_cons] at nd
    exact ⟨p, vs, P'', rfl, by rw [upd_ne hpb]; exact hp, eQ, RowsR.mut e3 trivial ho.1 r' nd.2 r2 e1⟩
  · obtain ⟨p', vs', P'', e, hp', eQ, r2⟩ := hq
    cases e
    rw [hp] at hp'; cases hp'
    obtain ⟨b', ws', f1, f2, _⟩ := RowsR.get r2 hi
    rw [e1] at f1; cases f1
    rw [eQ]; exact List.mem_cons_of_mem _ f2
end
/-! ### o[i] = v -/
def putO (ρ : Env) (M : Mem) (j : Nat) (k : Int) (d : D) : SR := match ρ[j]? with
  | some (some (.ls .own l)) => match ixN l.length k with
    | some q => .nx (ρ.set j (some (.ls .own (l.set q d)))) M
    | none => .stuck
  | some (some (.d (.ob n))) => match M[n]? with
    | some (.lst l) => match ixN l.length k with
      | some q => if D.bareL (l.set q d) = true then .nx ρ (M.set n (.lst (l.set q d))) else .stuck
      | none => .stuck
    | none => .stuck
  | _ => .stuck
def put2 (ρ : Env) (M : Mem) (j : Nat) (x y : Ev) : SR := match x, y with
  | .d d, .d (.int k) => putO ρ M j k d
  | _, _ => .stuck
/-- v[i] = e -/
def sPut (j : Nat) (fi fe : Sm Ev) : Ss := fun ρ M => sE (fe ρ M) ρ fun x M1 => match ρ[j]? with
  | some (some _) => sE (fi ρ M1) ρ fun y M2 => put2 ρ M2 j x y
  | _ => .stuck
/-- v[a][b] = e -/
def putR (ρ : Env) (M : Mem) (j : Nat) (i : Nat) (row : List D) (rows : List (List D)) (x y : Ev) : SR := match x, y with
  | .d d, .d (.int k) => match ixN row.length k with
    | some q => .nx (ρ.set j (some (.rw .own (rows.set i (row.set q d))))) M
    | none => .stuck
  | _, _ => .stuck
def sPutR (j : Nat) (fa fb fe : Sm Ev) : Ss := fun ρ M => sE (fe ρ M) ρ fun x M1 => match ρ[j]? with
  | some (some (.rw .own rows)) => sE (fa ρ M1) ρ fun z M2 => match z with
    | .d (.int ka) => match ixN rows.length ka with
      | some i => match rows[i]? with
        | some row => sE (fb ρ M2) ρ fun y M3 => putR ρ M3 j i row rows x y
        | none => .stuck
      | none => .stuck
    | _ => .stuck
  | _ => .stuck
/-- v.append(e) -/
def appO (ρ : Env) (M : Mem) (j : Nat) (x : Ev) : SR := match x with
  | .d d => match ρ[j]? with
    | some (some (.ls .own l)) => if l.length < most then .nx (ρ.set j (some (.ls .own (l ++ [d])))) M else .stuck
    | some (some (.d (.ob n))) => match M[n]? with
      | some (.lst l) => if D.bareL (l ++ [d]) = true ∧ l.length < most then .nx ρ (M.set n (.lst (l ++ [d]))) else .stuck
      | none => .stuck
    | _ => .stuck
  | _ => .stuck
/-- a list that may be written -/
def wrt (ρ : Env) (M : Mem) (j : Nat) : Bool := match ρ[j]? with
  | some (some (.ls .own _)) => true
  | some (some (.d (.ob n))) => match M[n]? with
    | some (.lst _) => true
    | none => false
  | _ => false
def sApp (j : Nat) (fe : Sm Ev) : Ss := fun ρ M => if wrt ρ M j = true then sE (fe ρ M) ρ fun x M1 => appO ρ M1 j x else .stuck
section
variable {X : Cx} {T : List (Addr × Str)} {W : WX} {a b c e ie : Expr} {es : List Expr} {pos p p2 : Pos} {f g fi fe : Sm Ev} {fs : Sm (List Ev)}
theorem put_run {C : Cf} {H0 H : Hp} {A m : List Addr} {M : Mem} {ρ : Env} {σ : L2.St} {P : List Addr} {j : Nat} {d : D} {k : Int} {v : V} {Dn : Ends} (F : FR C H0 A m M H ρ σ P) (r : Rp C.K A m H d v) (q : PZ C H0 A m H (putO ρ M j k d) Dn) :
    ∃ o, σ[j]? = some (some o) ∧ rSetL o (.int k) v H fun H3 => Dn.nx σ H3 := by
  unfold putO at q
  split at q
  · rename_i l h
    split at q
    · rename_i i hi
      obtain ⟨p, vs, e1, hp, hA, hm, r1, w⟩ := F.ownL h
      have F' := w (l.set i d) (vs.set i v) (Rps.set i (Rps.self hp trivial hA r1) (Rp.self hp trivial hA r))
      exact ⟨_, e1, p, vs, k, i, rfl, rfl, hp, by rw [Rps.len r1]; exact hi, q A _ σ P (Ext.write hA) F'⟩
    · exact q.elim
  · rename_i n h
    split at q
    · rename_i l hM
      split at q
      · rename_i i hi
        split at q
        · rename_i hb
          obtain ⟨u, P1, q1, q2, q3⟩ := ER.get F.er h
          obtain ⟨_, a, hm, rfl⟩ := q2
          obtain ⟨vs, hp, hA, r1, w⟩ := F.memL hM hm
          have hA' := F.ma a hA
          obtain ⟨F', s⟩ := w (l.set i d) (vs.set i v) hb (Rps.set i (Rps.self hp trivial hA' r1) (Rp.self hp trivial hA' r))
          exact ⟨_, q1, a, vs, k, i, rfl, rfl, hp, by rw [Rps.len r1]; exact hi, q A _ σ P (Ext.step s F.ma) F'⟩
        · exact q.elim
      · exact q.elim
    · exact q.elim
  · exact q.elim
theorem ds_put {j : Nat} {x : Str} (he : PE X e (tE (cf X T W) fe)) (hi : PE X ie (tE (cf X T W) fi)) (hN : X.N[j]? = some x := by rfl) (hv : Vis X.env.scope x := by first | exact Or.inl rfl | exact Or.inr (Or.inl rfl) | exact Or.inr (Or.inr rfl)) (hd : (x == ("__debug__" : Str)) = false := by decide)
    (hcd : (x == ("__classdict__" : Str)) = false := by decide) (hs : swapsWithSole [.Subscript (.Name x p) ie p2] e pos.line X.env = pure false := by rfl) (hw : swappedStores [.Subscript (.Name x p) ie p2] e X.env = pure none := by rfl)
    (h1 : (assignEach [.Subscript (.Name x p) ie p2] X.env).map (·.2) = [assign (.Subscript (.Name x p) ie p2) X.env] := by rfl)
    (ha : ∀ v, assign (.Subscript (.Name x p) ie p2) X.env v = (do
      let ov ← holding [v] (eval (.Name x p) X.env)
      let iv ← holding [v, ov] (eval ie X.env)
      standAt p2
      holding [v, ov, iv] (setItem ov iv v)
      release [v, ov, iv] []) := by intro _; rfl) : PS X (.Assign [.Subscript (.Name x p) ie p2] e pos) (tS (cf X T W) (sPut j fi fe)) := by
  refine ⟨fun pins s σ H Dn I q => (ps_asg he (pg_sub (pe_var hN hv hd hcd) hi set_list ha) hs hw h1).run pins s σ H Dn I ?_⟩
  obtain ⟨H0, A, m, M, ρ, P, F, q⟩ := q
  refine subS F q fun x M1 H1 v F1 s1 r1 q1 => ?_
  split at q1
  · rename_i z hz
    obtain ⟨o, P1, h1, _, _⟩ := ER.get F1.er hz
    refine ⟨o, h1, ?_⟩
    refine subS F1 q1 fun y M2 H2 w F2 s2 r2 q2 => ?_
    unfold put2 at q2
    split at q2
    · rename_i d k
      obtain ⟨o', h2, q3⟩ := put_run F2 (Rp.step F1.wr.aok F1.ma s2 _ _ r1) q2
      rw [h1] at h2; cases h2
      rw [show w = V.int k from r2]
      exact q3
    · exact q2.elim
  · exact q1.elim
theorem ds_putR {j : Nat} {x : Str} {p3 : Pos} (hae : PE X a (tE (cf X T W) f)) (he : PE X e (tE (cf X T W) fe)) (hi : PE X ie (tE (cf X T W) fi)) (hN : X.N[j]? = some x := by rfl) (hv : Vis X.env.scope x := by first | exact Or.inl rfl | exact Or.inr (Or.inl rfl) | exact Or.inr (Or.inr rfl)) (hd : (x == ("__debug__" : Str)) = false := by decide)
    (hcd : (x == ("__classdict__" : Str)) = false := by decide) (hpl : PlainIx a := by exact fun _ _ => rfl) (hs : swapsWithSole [.Subscript (.Subscript (.Name x p) a p3) ie p2] e pos.line X.env = pure false := by rfl) (hw : swappedStores [.Subscript (.Subscript (.Name x p) a p3) ie p2] e X.env = pure none := by rfl)
    (h1 : (assignEach [.Subscript (.Subscript (.Name x p) a p3) ie p2] X.env).map (·.2) = [assign (.Subscript (.Subscript (.Name x p) a p3) ie p2) X.env] := by rfl)
    (ha : ∀ v, assign (.Subscript (.Subscript (.Name x p) a p3) ie p2) X.env v = (do
      let ov ← holding [v] (eval (.Subscript (.Name x p) a p3) X.env)
      let iv ← holding [v, ov] (eval ie X.env)
      standAt p2
      holding [v, ov, iv] (setItem ov iv v)
      release [v, ov, iv] []) := by intro _; rfl) : PS X (.Assign [.Subscript (.Subscript (.Name x p) a p3) ie p2] e pos) (tS (cf X T W) (sPutR j f fi fe)) := by
  refine ⟨fun pins s σ H Dn I q => (ps_asg he (pg_sub (pe_ix ix_seq (pe_var hN hv hd hcd) hae hpl) hi set_list ha) hs hw h1).run pins s σ H Dn I ?_⟩
  obtain ⟨H0, A, m, M, ρ, P, F, q⟩ := q
  refine subS F q fun x M1 H1 v F1 s1 r1 q1 => ?_
  split at q1
  · rename_i rows hz
    obtain ⟨p0, vs, h1, hp, hl, row1⟩ := F1.ownR hz
    refine ⟨_, h1, ?_⟩
    refine subS F1 q1 fun z M2 H2 w F2 s2 r2 q2 => ?_
    split at q2
    · rename_i ka
      split at q2
      · rename_i i hi
        split at q2
        · rename_i row hrow
          obtain ⟨p1, vs1, h3, hp1, hl1, row2⟩ := F2.ownR hz
          rw [h1] at h3; cases h3
          obtain ⟨b, ws, e1, hne, hA, hm, e3, e4, _⟩ := row2 i row hrow
          refine .inl ⟨p0, vs1, ka, .ref b, rfl, r2, SqL.of hp1, by unfold atI; rw [hl1, hi]; exact e1, ?_⟩
          refine subS F2 q2 fun y M3 H3 u F3 s3 r3 q3 => ?_
          unfold putR at q3
          split at q3
          · rename_i d k
            split at q3
            · rename_i q hq
              obtain ⟨p4, vs4, h4, hp4, hl4, row4⟩ := F3.ownR hz
              rw [h1] at h4; cases h4
              have hp3 := s3 p0 _ hp1 (fun hm0 => by
                obtain ⟨v', P1, g1, g2, g3⟩ := ER.get F2.er hz
                rw [h1] at g1; cases g1
                obtain ⟨pp, vv, PP, ee, hh, eP, _⟩ := g2
                cases ee
                exact (F2.own p0 (g3 p0 (by rw [eP]; exact List.mem_cons_self))).2.1 hm0) lst_tbl
              rw [hp4] at hp3; cases hp3
              obtain ⟨b', ws', f1, fne, fA, fm, f3, f4, fw⟩ := row4 i row hrow
              rw [e1] at f1; cases f1
              have F4 := fw (row.set q d) (ws'.set q v) (Rps.set q (Rps.self f3 trivial fA f4) (Rp.self f3 trivial fA (Rp.step F2.wr.aok F2.ma s3 _ _ (Rp.step F1.wr.aok F1.ma s2 _ _ r1))))
              exact ⟨b, ws', k, q, rfl, r3, f3, by rw [Rps.len f4]; exact hq, q3 A _ σ P (Ext.write fA) F4⟩
            · exact q3.elim
          · exact q3.elim
        · exact q2.elim
      · exact q2.elim
    · exact q2.elim
  · exact q1.elim
/-! ### v.append(e) -/
theorem ds_append {j : Nat} {x : Str} {apos cpos : Pos} (he : PE X e (tE (cf X T W) fe)) (hN : X.N[j]? = some x := by rfl) (hv : Vis X.env.scope x := by first | exact Or.inl rfl | exact Or.inr (Or.inl rfl) | exact Or.inr (Or.inr rfl)) (hd : (x == ("__debug__" : Str)) = false := by decide)
    (hcd : (x == ("__classdict__" : Str)) = false := by decide) (hbase : attributeBase (.Name x p) "append" X.env (eval (.Name x p) X.env) = eval (.Name x p) X.env := by rfl)
    (hfew : ((backTo cpos (starEach [e] X.env)).all (fun x => !x.1) && (backToKw cpos (keywordEach [] X.env)).all (fun x => x.1.isSome)
      && decide (([e] : List Expr).length + ([] : List Keyword).length + (if ([] : List Keyword).isEmpty then 0 else 1) < 30)) = true := by rfl)
    (hline : (apos.endLine == cpos.line) = true := by rfl) (hs : starEach [e] X.env = (false, eval e X.env) :: starEach [] X.env := by rfl) (hsw : swapsWith (.Call (.Attribute (.Name x p) "append" apos) [e] [] cpos) none pos.line X.env = pure false := by rfl) :
    PS X (.Expr (.Call (.Attribute (.Name x p) "append" apos) [e] [] cpos) pos) (tS (cf X T W) (sApp j fe)) := by
  refine ⟨fun pins s σ H Dn I q => (ps_expr (pe_bm PySem.F.plainAttrs_list PySem.F.slot_list_append PySem.F.type_list_append mt_append (pe_var hN hv hd hcd) (pa_cons he pa_nil hs) hbase hfew hline hs rfl) hsw).run pins s σ H Dn I ?_⟩
  obtain ⟨H0, A, m, M, ρ, P, F, q⟩ := q
  have q : PZ (cf X T W) H0 A m H (if wrt ρ M j = true then sE (fe ρ M) ρ fun x M1 => appO ρ M1 j x else .stuck) Dn := q
  by_cases hw : wrt ρ M j = true
  · rw [if_pos hw] at q
    have first : ∃ o, σ[j]? = some (some (.ref o)) ∧ tyV X.K "list" (.ref o) H := by
      unfold wrt at hw
      split at hw
      · rename_i l h
        obtain ⟨p0, vs, e1, hp, _⟩ := F.ownL h
        exact ⟨p0, e1, .inl ⟨rfl, vs, SqL.of hp⟩⟩
      · rename_i n h
        split at hw
        · rename_i l hM
          obtain ⟨u, P1, q1, q2, q3⟩ := ER.get F.er h
          obtain ⟨_, a, hm, rfl⟩ := q2
          obtain ⟨vs, hp, _⟩ := F.memL hM hm
          exact ⟨a, q1, .inl ⟨rfl, vs, SqL.of hp⟩⟩
        · cases hw
      · cases hw
    obtain ⟨o, ho, ty⟩ := first
    refine ⟨_, ho, ty, ?_⟩
    refine subS F q fun y M1 H1 w F1 s1 r1 q1 => ?_
    unfold appO at q1
    split at q1
    · rename_i d
      split at q1
      · rename_i l h
        split at q1
        · rename_i hc
          obtain ⟨p0, vs, e1, hp, hA, hm, r2, wt⟩ := F1.ownL h
          rw [ho] at e1; cases e1
          have F' := wt (l ++ [d]) (vs ++ [w]) (Rps.app (Rps.self hp trivial hA r2) (Rps.one (Rp.self hp trivial hA r1)))
          exact ⟨o, vs, w, rfl, rfl, hp, by have := most_line (Nat.le_refl most); rw [Rps.len r2]; omega, q1 A _ σ P (Ext.write hA) F'⟩
        · exact q1.elim
      · rename_i n h
        split at q1
        · rename_i l hM
          split at q1
          · rename_i hc
            obtain ⟨u, P1, g1, g2, g3⟩ := ER.get F1.er h
            obtain ⟨_, a, hm, rfl⟩ := g2
            rw [ho] at g1; cases g1
            obtain ⟨vs, hp, hA, r2, wt⟩ := F1.memL hM hm
            have hA' := F1.ma o hA
            obtain ⟨F', s⟩ := wt (l ++ [d]) (vs ++ [w]) hc.1 (Rps.app (Rps.self hp trivial hA' r2) (Rps.one (Rp.self hp trivial hA' r1)))
            exact ⟨o, vs, w, rfl, rfl, hp, by have := most_line (Nat.le_refl most); rw [Rps.len r2]; omega, q1 A _ σ P (Ext.step s F.ma) F'⟩
          · exact q1.elim
        · exact q1.elim
      · exact q1.elim
    · exact q1.elim
  · rw [if_neg hw] at q; exact q.elim
end
end DL

set_option Elab.async false
set_option linter.all false
set_option maxRecDepth 100000
set_option maxHeartbeats 2000000
/-! The data layer: defs, calls, raise. -/
namespace DL
open PySem PySem.Spec PyProof.Rows L2
/-- what is handed to a def -/
def pass1 : Ev → Option Ev
  | .d x => some (.d x)
  | .ls .vw l => some (.ls .pv l)
  | .ls .pv l => some (.ls .pv l)
  | .dk .vw ks l => some (.dk .pv ks l)
  | .dk .pv ks l => some (.dk .pv ks l)
  | .dt .vw ks l => some (.dt .pv ks l)
  | .dt .pv ks l => some (.dt .pv ks l)
  | _ => none
def passL : List Ev → Option (List Ev)
  | [] => some []
  | x :: l => match pass1 x, passL l with
    | some y, some r => some (y :: r)
    | _, _ => none
abbrev Fn := List Ev → Mem → R D
def eCall (n : Nat) (F : Fn) (fs : Sm (List Ev)) : Sm Ev := fun ρ M => bnd (fs ρ M) fun xs M1 => match passL xs with
  | some ys => if ys.length = n then bnd (F ys M1) fun d M2 => .ok (.d d) M2 else .stuck
  | none => .stuck
/-- a def's end -/
def PF (K : PySem.W.Frag) (mg : Str → Option Value) (T : List (Addr × Str)) (A m : List Addr) (H : Hp) (r : R D) (Q : VK) (E : XK) : Prop := match r with
  | .ok d M' => ∀ H' v, Stp m H H' → WR K m M' H' → LamX.Tabs T H' → Rp K A m H' d v → Q v H'
  | .exc c g M' => ∀ H' cls d, Stp m H H' → WR K m M' H' → LamX.Tabs T H' → XR mg H' c g cls d → E cls d H'
  | .stuck => False
/-- what a def promises -/
def spD (K : PySem.W.Frag) (mg : Str → Option Value) (T : List (Addr × Str)) (n : Nat) (F : Fn) : Sp := fun vs H Q E => vs.length = n ∧ ∃ A m M xs, WR K m M H ∧ LamX.Tabs T H ∧ (∀ a ∈ m, a ∈ A) ∧ AOk A H ∧ ER K H A m H (xs.map some) (vs.map some) [] ∧ PF K mg T A m H (F xs M) Q E
/-- what a body makes of the arguments -/
def fnOf (n : Nat) (f : Ss) : Fn := fun xs M => match f (xs.map some ++ List.replicate (n - xs.length) none) M with
  | .nx _ M' => .ok .non M'
  | .rt d M' => .ok d M'
  | .exc c g _ M' => .exc c g M'
  | _ => .stuck
theorem ER.pad {K : PySem.W.Frag} {H0 H : Hp} {A m : List Addr} : ∀ {ρ : Env} {σ : L2.St} {P : List Addr} (k : Nat), ER K H0 A m H ρ σ P → ER K H0 A m H (ρ ++ List.replicate k none) (σ ++ List.replicate k none) P
  | [], σ, P, 0, ⟨e, h⟩ => by rw [e]; exact ⟨rfl, h⟩
  | [], σ, P, k + 1, ⟨e, h⟩ => by
    rw [e]
    exact ⟨none, List.replicate k none, rfl, ER.pad (ρ := []) (σ := []) k ⟨rfl, h⟩⟩
  | none :: ρ, σ, P, k, ⟨y, τ, e, h⟩ => ⟨y, τ ++ List.replicate k none, by rw [e]; rfl, ER.pad k h⟩
  | some x :: ρ, σ, P, k, ⟨v, τ, P1, P2, e, eP, h1, h2⟩ => ⟨v, τ ++ List.replicate k none, P1, P2, by rw [e]; rfl, eP, h1, ER.pad k h2⟩
theorem fn_start {C : Cf} {E : XK} {N ps : List Str} {f : Ss} {vs : List V} {H : Hp} {Q : VK} (hW : C.W = fun cls d _ H => E cls d H) (h : spD C.K C.mg C.T ps.length (fnOf N.length f) vs H Q E) : tS C f { nx := fun _ H' => Q .non H', rt := Q } (L2.start N vs) H := by
  obtain ⟨hl, A, m, M, xs, w, t, hm, ok, er, q⟩ := h
  have el : xs.length = vs.length := by simpa using (ER.len er).symm
  refine ⟨H, A, m, M, xs.map some ++ List.replicate (N.length - xs.length) none, [], ⟨w, t, by unfold L2.start; rw [← el]; exact ER.pad _ er, List.nodup_nil, fun a h => (nomatch h), hm, ok, Stp.refl _ _⟩, ?_⟩
  unfold fnOf at q
  revert q
  cases f (xs.map some ++ List.replicate (N.length - xs.length) none) M with
  | nx ρ' M' => exact fun q A' H' σ' P' e F => q H' .non F.base F.wr F.tb rfl
  | rt d M' => exact fun q H' v w t s r => q H' v s w t (r A fun a ha => ⟨ha, by obtain ⟨o, e, mu⟩ := ok a ha; exact ⟨o, e, muta_tbl mu⟩⟩)
  | bk ρ' M' => exact fun q => q.elim
  | ct ρ' M' => exact fun q => q.elim
  | stuck => exact fun q => q.elim
  | exc c g ρ' M' =>
    intro q A' H' σ' P' cls d e F x
    rw [hW]
    exact q H' cls d F.base F.wr F.tb x
/-- a def of the text that holds what F tells -/
structure Dn (P : Program) (w : World) (K : PySem.W.Frag) (mg : Str → Option Value) (base : Heap) (T : List (Addr × Str)) (k : Nat) (x : Str) (n : Nat) (F : Fn) : Prop where
  ex : ∃ f fd ps, ps.length = n ∧ FnOk P w K mg base (L2.CX P w) k f fd ps (spD K mg T ps.length F) ∧ mg x = some (.ref f) ∧ PySem.W.keepIn K (.ref f) = true ∧ Binds K fd ps []
section
variable {P : Program} {w : World} {K : PySem.W.Frag} {mg : Str → Option Value} {base : Heap} {T : List (Addr × Str)}
abbrev wE (E : XK) : WX := fun cls d _ H => E cls d H
theorem dn_mono {j k n : Nat} {x : Str} {F : Fn} (h : Dn P w K mg base T j x n F) (hk : j ≤ k) : Dn P w K mg base T k x n F := by
  obtain ⟨f, fd, ps, hn, a, b⟩ := h.ex
  exact ⟨f, fd, ps, hn, a.mono hk, b⟩
theorem dn_of {x qual : Str} {st : Stmt} {f : Addr} {fd : FuncData} {N ps : List Str} {k : Nat} {g : Ss} (F : Fun K x qual st f fd) (hx : mg x = some (.ref f)) (hb : Binds K fd ps []) (S : FnScope N ps (defScope st))
    (hbody : ∀ (cdv : Value) (A : Around) (outer : List PySem.Env) (s : Shared) (H : Hp) (E : XK), Room k (A.deeper (envOfC qual (defScope st) s.heap.objs.size f cdv)) →
      PSs (cxOf (L2.CX P w) P w K mg base N qual (defScope st) f cdv A outer s H E) (defBody st) (tS ⟨K, mg, T, wE E⟩ g)) : Dn P w K mg base T (k + 1) x ps.length (fnOf N.length g) :=
  ⟨f, fd, ps, rfl, F.okX S (fun vs H Q E h => h.1) (fun cdv A outer s H vs Q E hr h => ⟨_, hbody cdv A outer s H E hr, fn_start (C := ⟨K, mg, T, wE E⟩) rfl h⟩), hx, F.kp, hb⟩
/-- no step left -/
theorem dn_zero {x qual : Str} {st : Stmt} {f : Addr} {fd : FuncData} {ps : List Str} {k : Nat} (F : Fun K x qual st f fd) (hx : mg x = some (.ref f)) (hb : Binds K fd ps []) : Dn P w K mg base T k x ps.length (fun _ _ => .stuck) :=
  ⟨f, fd, ps, rfl, ⟨fun vs H Q E h => h.1, fun A outer s H args us vs Q E hr he hbb hv h => by obtain ⟨_, _, _, _, _, _, _, _, _, _, q⟩ := h; exact q.elim⟩, hx, F.kp, hb⟩
end
section
variable {X : Cx} {T : List (Addr × Str)} {W : WX} {a b c e ie : Expr} {es : List Expr} {x : Str} {pos p p2 : Pos} {f g fi fe : Sm Ev} {fs : Sm (List Ev)} {k n : Nat} {F : Fn}
theorem pass_at {K : PySem.W.Frag} {H0 H : Hp} {A m : List Addr} (hm : AOk m H) : ∀ {xs ys : List Ev} {vs : List V}, passL xs = some ys → EvL K H0 A m H xs vs → ER K H A m H (ys.map some) (vs.map some) []
  | [], _, _, h, r => by cases h; cases r; exact ⟨rfl, rfl⟩
  | x :: xs, _, _, h, r => by
    unfold passL at h
    cases r with
    | cons r1 r2 =>
      rename_i v vs
      split at h
      · rename_i y ys e1 e2
        cases h
        refine ⟨v, vs.map some, [], [], rfl, rfl, ?_, pass_at hm e2 r2⟩
        unfold pass1 at e1
        split at e1
        · cases e1; exact ⟨rfl, r1⟩
        · cases e1; obtain ⟨a, vs, e, h, n, z, r⟩ := r1; exact ⟨rfl, a, vs, e, h, n, ⟨_, h, lst_tbl⟩, r⟩
        · cases e1; obtain ⟨a, vs, e, h, n, z, r⟩ := r1; exact ⟨rfl, a, vs, e, h, n, ⟨_, h, lst_tbl⟩, r⟩
        · cases e1; obtain ⟨a, vs, e, h, ek, n, z, r⟩ := r1; exact ⟨rfl, a, vs, e, h, ek, n, ⟨_, h, dK_tbl⟩, r⟩
        · cases e1; obtain ⟨a, vs, e, h, ek, n, z, r⟩ := r1; exact ⟨rfl, a, vs, e, h, ek, n, ⟨_, h, dK_tbl⟩, r⟩
        · cases e1; obtain ⟨a, vs, e, h, ek, n, z, r⟩ := r1; exact ⟨rfl, a, vs, e, h, ek, n, ⟨_, h, dT_tbl⟩, r⟩
        · cases e1; obtain ⟨a, vs, e, h, ek, n, z, r⟩ := r1; exact ⟨rfl, a, vs, e, h, ek, n, ⟨_, h, dT_tbl⟩, r⟩
        · cases e1
      · cases h
theorem de_call (G : Dn X.prog X.w X.K X.mg X.base T k x n F) (hr : Room k X.A) (hg : Gl X x) (tk : Takes X W) (ha : PA X (e :: es) (tA (cf X T W) fs)) (hdb : (x == ("__debug__" : Str)) = false := by decide) (he : starEach (e :: es) X.env = (false, eval e X.env) :: starEach es X.env := by rfl)
    (hpl : (backTo pos (starEach es X.env)).any (·.1) = false := by rfl) : PE X (.Call (.Name x p) (e :: es) [] pos) (tE (cf X T W) (eCall n F fs)) := by
  obtain ⟨af, fd, ps, hn, G, hm, hk, hb⟩ := G.ex
  refine ⟨fun pins s σ H Q I q => (pe_callS (E := WE W) G hr hg hm hk hb (fun σ => passAt tk σ) ha hdb he hpl).run pins s σ H Q I ?_⟩
  obtain ⟨H0, A, m, M, ρ, P, F1, q⟩ := q
  refine sub F1 q fun xs M1 H1 vs F2 _ r1 q1 => ?_
  split at q1
  · rename_i ys hy
    split at q1
    · rename_i hl
      have er := pass_at F2.wr.aok hy r1
      have el : vs.length = ys.length := by simpa using ER.len er
      refine ⟨by rw [el, hl, hn], A, m, M1, ys, F2.wr, F2.tb, F2.ma, F2.aok, er, ?_⟩
      revert q1
      cases F ys M1 with
      | ok d M2 => exact fun q1 H' v s w t r => q1 H' v s w t r
      | exc c g M2 => exact fun q1 H' cls d s w t x => q1 H' cls d s w t x
      | stuck => exact fun q1 => q1
    · exact q1.elim
  · exact q1.elim
/-! ### raise C() -/
/-- C(), an own class of exceptions that has no maker of its own -/
theorem pmk_none {Ca : Addr} {bmB : List Value} {B n1 n2 : String} (Fb : ExcBaseFacts B n1 n2 bmB) (hq : PySem.W.excIn X.K Ca bmB n1 = true) (hC : X.mg x = some (.ref Ca)) (hk : PySem.W.keepIn X.K (.ref Ca) = true) (hr : Raises X (.ref Ca)) (hg : Gl X x) (hdb : (x == ("__debug__" : Str)) = false := by decide) :
    PMk X (.Call (.Name x p) [] [] pos) (fun _ H Q => Q (.ref Ca) none H) := by
  intro pins s σ H Q I hQ
  refine wpAny_Call_Name_kw (ld_glob I hg hC ?_ hdb)
  refine PySem.W.callWith_K0 I.kIn hk ?_
  obtain ⟨_, _, _, _, _, _, _, _, _, _, _, _, _, _, _, _, _, e1, e2, e3, e4⟩ := exc_obj I.kIn hq
  exact wpAny_call_exc_subT Fb e4 e1 e2 e3 (fun _ _ hm => mk_of I hm hr hQ (I.hok.gone hm.new)) (Nat.zero_le _)
/-- what the text tells of an exception's class -/
structure XC (K : PySem.W.Frag) (mg : Str → Option Value) (c : Str) : Prop where
  ex : ∃ Ca, mg c = some (.ref Ca) ∧ PySem.W.excIn K Ca [.type "ValueError", .type "Exception", .type "BaseException", .type "object"] "ValueError.__new__" = true ∧ PySem.W.keepIn K (.ref Ca) = true ∧
    PySem.W.subIn K (.ref Ca) (.type "BaseException") = some true ∧ PySem.W.typeIn K (.ref Ca) = some (.type "type")
def sRaise (c : Str) : Ss := fun ρ M => .exc c none ρ M
theorem ds_raise (hc : X.calm = true) (tk : Takes X W) (hx : XC X.K X.mg x) (hg : Gl X x) (hdb : (x == ("__debug__" : Str)) = false := by decide) : PS X (.Raise (some (.Call (.Name x p) [] [] p2)) none pos) (tS (cf X T W) (sRaise x)) := by
  obtain ⟨Ca, h1, h2, h3, h4, h5⟩ := hx.ex
  refine ⟨fun pins s σ H Dn I q => (ps_raise hc tk (pmk_none PySem.F.excBase_ValueError h2 h1 h3 (raises_own h4 h5) hg hdb)).run pins s σ H Dn I ?_⟩
  obtain ⟨H0, A, m, M, ρ, P, F1, q⟩ := q
  exact q A H σ P (.ref Ca) none Ext.refl F1 ⟨Ca, h1, rfl, rfl⟩
end
end DL

set_option Elab.async false
set_option linter.all false
set_option maxRecDepth 100000
set_option maxHeartbeats 2000000
/-! The data layer: a lambda handed to a def that calls it and tells what it raised. -/
namespace DL
open PySem PySem.Spec PyProof.Rows L2
/-- try: call() / except pe as e: return isinstance(e, bn) / return False -/
def TTr (K : PySem.W.Frag) (CS CB : Addr) : (XK → Hp → VK → Prop) → Hp → VK → Prop := fun tl H Q =>
  tl (fun cls d H' => d = none ∧ ∃ Dc b, cls = .ref Dc ∧ ExcC K Dc ∧ PySem.W.exmOne K cls (.ref CS) = some true ∧ PySem.W.kitOne K (.ref Dc) (.ref CB) = some b ∧ Q (.bl b) H') H (fun _ H' => Q (.bl false) H')
section
variable {X : Cx} {T : List (Addr × Str)} {W : WX}
theorem raised_gives {x pe bn q : Str} {sg : Scope} {g CS CB : Addr} {cdg : Value} {j : Nat} {p1 p2 p3 p4 p5 p6 p7 p8 p9 p10 p11 p12 p13 : Pos} (h1 : sg.names.lookup pe = some .globalImplicit) (m1 : X.mg pe = some (.ref CS)) (d1 : (pe == ("__debug__" : Str)) = false)
    (h2 : sg.names.lookup ("isinstance" : Str) = some .globalImplicit) (m2 : X.mg "isinstance" = none) (h3 : sg.names.lookup bn = some .globalImplicit) (m3 : X.mg bn = some (.ref CB)) (d3 : (bn == ("__debug__" : Str)) = false) (h4 : sg.names.lookup ("e" : Str) = some .local) :
    LamX.GivesTo X ["call", "e"] x sg g cdg [.Try [.Expr (.Call (.Name "call" p1) [] [] p2) p3] [.ExceptHandler (some (.Name pe p4)) (some "e") [.Return (some (.Call (.Name "isinstance" p5) [.Name "e" p6, .Name bn p7] [] p8)) p9] p10] [] [] p11, .Return (some (.Constant (.bool false) j p12)) p13] "call" q (TTr X.K CS CB) := by
  intro f c' s H Q tl act hc h
  have hgl : Gl (cxOf C8.CX0 X.prog X.w X.K X.mg X.base ["call", "e"] x sg g cdg X.A X.stack s H C8.E0).nox pe := h1
  have nd : (["call", "e"] : List Str).Nodup := by decide +kernel
  refine ⟨_, pss_cons (ps_try_as (X := (cxOf C8.CX0 X.prog X.w X.K X.mg X.base ["call", "e"] x sg g cdg X.A X.stack s H C8.E0).nox) (i := 1) (c := .ref CS)
      (tb := fun W D σ H => ∃ Ech : XK, (∀ cls d σ' H', Ech cls d H' → W cls d σ' H') ∧ σ[0]? = some (some (.ref f)) ∧ H c' = some (LamX.CodeO c' q) ∧ tl Ech H (fun _ H' => D.nx σ H'))
      (ts := fun a cls d D σ H => (1 < σ.length → σ[1]? = some (some (.ref a))) ∧ d = none ∧ ∃ Dc b, cls = .ref Dc ∧ ExcC X.K Dc ∧ PySem.W.kitOne X.K (.ref Dc) (.ref CB) = some b ∧ D.rt (.bl b) H) (Wout := fun _ _ _ _ => False)
      rfl rfl nd rfl h4 ⟨hgl, d1, .inl m1⟩ takes0 (fun W pn xe tk _ => ?_) (fun a oe cls d pn hz hf => ?_)) (pss_one (ps_ret pe_bl)), ?_⟩
  · refine pss_one ⟨fun pins s' σ H' D I h' => ?_⟩
    obtain ⟨Ech, hW, k1, k2, k3⟩ := h'
    have hp := act W pn xe Ech p1 p2 tk hW
    exact (ps_expr (pos := p3) hp).run pins s' σ H' D I ⟨k1, k2, k3⟩
  · refine pss_one ⟨fun pins s' σ H' D I h' => ?_⟩
    obtain ⟨k1, rfl, Dc, b, rfl, ec, ek, k2⟩ := h'
    have hl : 1 < σ.length := by rw [I.len]; show 1 < 2; decide
    have he := ps_ret (pos := p9) (pe_callB (X := (((cxOf C8.CX0 X.prog X.w X.K X.mg X.base ["call", "e"] x sg g cdg X.A X.stack s H C8.E0).nox).suite a ((a, oe) :: pn))) (id := "isinstance") (x := "isinstance") (p := p5) (pos := p8) (e := .Name "e" p6) (es := [.Name bn p7]) (call_isE (a := a) (D := Dc) (oe := oe) (pn := pn) ec hz hf) h2 m2 rfl
      (pa_cons (pe_var (i := 1) (x := "e") rfl (Or.inl h4)) (pa_cons (pe_glob (v := V.ref CB) h3 m3 rfl d3) pa_nil)) (by decide +kernel) (by decide +kernel) rfl rfl)
    exact he.run pins s' σ H' D I ⟨.ref a, k1 hl, .ref CB, .ref CB, b, rfl, fun u hu => hu, ek, k2⟩
  · exact ⟨fun cls d H' => d = none ∧ ∃ Dc b, cls = .ref Dc ∧ ExcC X.K Dc ∧ PySem.W.exmOne X.K cls (.ref CS) = some true ∧ PySem.W.kitOne X.K (.ref Dc) (.ref CB) = some b ∧ Q (.bl b) H',
      fun cls d σ' H' ⟨e1, Dc, b, e2, e3, e4, e5, e6⟩ => ⟨true, e4, fun _ a _ => ⟨fun hl => List.getElem?_set_self (by simpa using hl), e1, Dc, b, e2, e3, e5, e6⟩, fun z => by cases z⟩, rfl, hc, h⟩
/-- what the call tells: False where nothing was raised, else whether it is of that class -/
def eRaised (tb : Str → Option Bool) (fb : Sm Ev) : Sm Ev := fun ρ M => match fb ρ M with
  | .ok _ M1 => .ok (.d (.bl false)) M1
  | .exc c none M1 => match tb c with
    | some b => .ok (.d (.bl b)) M1
    | none => .stuck
  | _ => .stuck
theorem de_raised {x pe bn : Str} {st : Stmt} {g CS CB c P : Addr} {fd : FuncData} {k j : Nat} {params : Arguments} {body : Expr} {scope : Scope} {fb : Sm Ev} {tb : Str → Option Bool} {p lpos pos p1 p2 p3 p4 p5 p6 p7 p8 p9 p10 p11 p12 p13 : Pos} (Fr : FunD X.K x x (defArgs st) (defBody st) (defScope st) [] [] g fd) (hm : X.mg x = some (.ref g)) (hb : Binds X.K fd ["call"] [])
    (hbody : defBody st = [.Try [.Expr (.Call (.Name "call" p1) [] [] p2) p3] [.ExceptHandler (some (.Name pe p4)) (some "e") [.Return (some (.Call (.Name "isinstance" p5) [.Name "e" p6, .Name bn p7] [] p8)) p9] p10] [] [] p11, .Return (some (.Constant (.bool false) j p12)) p13])
    (Sg : FnScope ["call", "e"] ["call"] (defScope st)) (h1 : (defScope st).names.lookup pe = some .globalImplicit) (m1 : X.mg pe = some (.ref CS)) (h2 : (defScope st).names.lookup ("isinstance" : Str) = some .globalImplicit) (m2 : X.mg "isinstance" = none) (h3 : (defScope st).names.lookup bn = some .globalImplicit) (m3 : X.mg bn = some (.ref CB))
    (h4 : (defScope st).names.lookup ("e" : Str) = some .local) (h5 : (defScope st).names.lookup ("call" : Str) = some .local) (hx : ∀ c b, tb c = some b → ∃ Dc, X.mg c = some (.ref Dc) ∧ ExcC X.K Dc ∧ PySem.W.exmOne X.K (.ref Dc) (.ref CS) = some true ∧ PySem.W.kitOne X.K (.ref Dc) (.ref CB) = some b)
    (TB : LamX.TabB X.base X.mg c P) (hcode : X.env.code = .ref c) (hT : T = [(P, X.env.qual ++ "<lambda>")]) (hr : Room (k + 2) X.A) (hg : Gl X x)
    (hlam : ∀ (A : Around) (outer : List PySem.Env) (s : Shared) (H : Hp) (E : XK) (f c' : Addr), Room k (A.deeper (LamX.lamEnv X scope s.heap.objs.size f c')) → PE (LamX.lamCx X A outer s H E scope f c') body (tE (cf (LamX.lamCx X A outer s H E scope f c') T (wE E)) fb))
    (L : LamX.LamS X.env.scope scope) (hdef : defaultsOf params X.env = ([], []) := by rfl) (hbind : ∀ (q : Str) (cl : List (Str × Addr)) (pm cv ctv : Value), bindArgs (PySem.W.kla_fn "<lambda>" q params body scope cl pm cv ctv) ⟨[], []⟩ = pure [] := by intros; rfl)
    (d1 : (pe == ("__debug__" : Str)) = false := by decide) (d3 : (bn == ("__debug__" : Str)) = false := by decide) (hdb : (x == ("__debug__" : Str)) = false := by decide) :
    PE X (.Call (.Name x p) [.Lambda params body scope lpos] [] pos) (tE (cf X T W) (eRaised tb fb)) := by
  obtain ⟨oc, od, dV, kV, doc, pm, an, cdv, ct, osl, rfl, lk, hcd, hD, _⟩ := Fr.ex
  rcases hD with ⟨_, rfl⟩ | ⟨e, _⟩
  · refine ⟨fun pins s σ H Q I q => (LamX.pe_lamcall (T := T) (TT := TTr X.K CS CB) (a := "call") (Ng := ["call", "e"]) (k := k) (t := fun E => tE ⟨X.K, X.mg, T, wE E⟩ fb) hg hm Fr.kp lk hcd hb Sg rfl (Or.inl h5) (by rw [hbody]; exact raised_gives h1 m1 d1 h2 m2 h3 m3 d3 h4) TB hcode (by rw [hT]; exact List.mem_cons_self) (fun r hr _ => by
        rw [hT] at hr; rw [List.mem_singleton.mp hr]) hr L hdef hbind hlam hdb (by decide) (by decide)).run pins s σ H Q I ?_⟩
    obtain ⟨H0, A, m, M, ρ, P', F, q⟩ := q
    refine ⟨F.tb, fun H1 en t1 => ?_⟩
    have s1 : Stp m H H1 := fun a o e _ t => en a o e t
    have F1 : FR ⟨X.K, X.mg, T, W⟩ H0 A m M H1 ρ σ P' := F.step s1 (F.wr.step en) t1
    refine ⟨H0, A, m, M, ρ, P', F1.wish rfl rfl, ?_⟩
    unfold eRaised at q
    cases e : fb ρ M with
    | stuck => rw [e] at q; exact q.elim
    | ok x M1 =>
      rw [e] at q
      exact fun H' v s w t r => q H' (.bl false) (s1.trans s) w t rfl
    | exc c' g' M1 =>
      rw [e] at q
      cases g' with
      | some _ => exact q.elim
      | none =>
        cases e2 : tb c' with
        | none =>
          have q' : PX (cf X T W) m σ (relE X.K H0 A m) H (match tb c' with | some b => .ok (.d (.bl b)) M1 | none => .stuck) Q := q
          rw [e2] at q'; exact q'.elim
        | some b =>
          have q' : PX (cf X T W) m σ (relE X.K H0 A m) H (match tb c' with | some b => .ok (.d (.bl b)) M1 | none => .stuck) Q := q
          rw [e2] at q'
          intro H' cls d s w t hxr
          obtain ⟨C', hC, rfl, hd⟩ := hxr
          obtain ⟨Dc, g1, g2, g3, g4⟩ := hx c' b e2
          have g1' : X.mg c' = some (.ref C') := hC
          rw [g1] at g1'; cases g1'
          exact ⟨hd, _, b, rfl, g2, g3, g4, q' H' (.bl b) (s1.trans s) w t rfl⟩
  · exact absurd rfl e
end
end DL

set_option Elab.async false
set_option linter.all false
set_option maxRecDepth 100000
set_option maxHeartbeats 2000000
/-! The data layer: the law's own def, its first statement. -/
namespace DL
open PySem PySem.Spec PyProof.Rows L2
section
variable {P : Program} {w : World} {K : PySem.W.Frag} {mg : Str → Option Value} {base : Heap} {T : List (Addr × Str)}
theorem dn_ofD {x : Str} {params : Arguments} {body : List Stmt} {scope : Scope} {f : Addr} {fd : FuncData} {N ps : List Str} {k : Nat} {g : Ss} (F : FunD K x x params body scope [] [] f fd) (hx : mg x = some (.ref f)) (hb : Binds K fd ps []) (S : FnScope N ps scope)
    (hbody : ∀ (cdv : Value) (A : Around) (outer : List PySem.Env) (s : Shared) (H : Hp) (E : XK), Room k (A.deeper (envOfC x scope s.heap.objs.size f cdv)) →
      PSs (cxOf (L2.CX P w) P w K mg base N x scope f cdv A outer s H E) body (tS ⟨K, mg, T, wE E⟩ g)) : Dn P w K mg base T (k + 1) x ps.length (fnOf N.length g) :=
  ⟨f, fd, ps, rfl, F.ok S (fun vs H Q E h => h.1) (fun cdv A outer s H vs Q E hr h => ⟨_, hbody cdv A outer s H E hr, fn_start (C := ⟨K, mg, T, wE E⟩) rfl h⟩), hx, F.kp, hb⟩
theorem dn_zeroD {x : Str} {params : Arguments} {body : List Stmt} {scope : Scope} {f : Addr} {fd : FuncData} {ps : List Str} {k : Nat} (F : FunD K x x params body scope [] [] f fd) (hx : mg x = some (.ref f)) (hb : Binds K fd ps []) : Dn P w K mg base T k x ps.length (fun _ _ => .stuck) :=
  ⟨f, fd, ps, rfl, ⟨fun vs H Q E h => h.1, fun A outer s H args us vs Q E hr he hbb hv h => by obtain ⟨_, _, _, _, _, _, _, _, _, _, q⟩ := h; exact q.elim⟩, hx, F.kp, hb⟩
/-- a def whose code object is told -/
theorem fnOk_code {CX : CXT} {x : Str} {params : Arguments} {body : List Stmt} {scope : Scope} {f c : Addr} {fd : FuncData} {N ps : List Str} {k : Nat} {sp : Sp} (F : FunD K x x params body scope [] [] f fd) (hc : fd.code = .ref c) (S : FnScope N ps scope) (len : ∀ vs H Q E, sp vs H Q E → vs.length = ps.length)
    (hbody : ∀ (A : Around) (outer : List PySem.Env) (s : Shared) (H : Hp) (vs : List V) (Q : VK) (E : XK), Room k (A.deeper (envOfC x scope s.heap.objs.size f (.ref c))) → sp vs H Q E →
      ∃ t, PSs (cxOf CX P w K mg base N x scope f (.ref c) A outer s H E) body t ∧ t { nx := fun _ H' => Q .non H', rt := Q } (L2.start N vs) H) : FnOk P w K mg base CX (k + 1) f fd ps sp := by
  obtain ⟨oc, od, dV, kV, doc, pm, an, cdv, ct, osl, rfl, lk, hcd, _, _⟩ := F.ex
  have e : cdv = .ref c := hc
  subst e
  exact fn_of lk hcd S len hbody
end
theorem bare_ints : ∀ ns : List Int, D.bareL (ns.map D.int) = true
  | [] => rfl
  | _ :: ns => bare_ints ns
/-- what the law is asked -/
def spLaw (K : PySem.W.Frag) (Pt : Addr) : Sp := fun vs H Q _ => ∃ (a : Addr) (ns : List Int), vs = [.ref a] ∧ SqL K H a (ns.map V.int) ∧ ns.length ≤ 63 ∧ (∀ z ∈ ns, Builtin.Int.intBits z ≤ 1048576) ∧ H Pt = some (.tbl #[]) ∧ ∀ H', Q (.bl true) H'
/-- the first statement lays the hand: from there on it stands in the common memory -/
theorem law_run {C : Cf} {n : Nat} {fh : Sm Ev} {rest : Ss} {a Pt : Addr} {q : Str} {H : Hp} {ns cells : List Int} {k : Int} {Dn : Ends} (hT : C.T = [(Pt, q)]) (hP : H Pt = some (.tbl #[])) (hS : SqL C.K H a (ns.map V.int))
    (h1 : ∀ d, (d = .sc ns ∨ d = .lst (ns.map D.int)) → fh (some (.d d) :: List.replicate (n + 1) none) [] = .ok (.d (.lst [.lst (cells.map D.int), .int 0, .int 0, .int k, .int 0])) [])
    (h2 : ∃ M', rest (none :: some (.d (.ob 0)) :: List.replicate n none) [.lst [.ob 1, .int 0, .int 0, .int k, .int 0], .lst (cells.map D.int)] = .rt (.bl true) M') (hD : ∀ H', Dn.rt (.bl true) H') :
    tSeq (tAsg (tE C fh) (gName 1)) (tS C rest) Dn (some (.ref a) :: List.replicate (n + 1) none) H := by
  have tab : LamX.Tabs C.T H := fun p hp => by
    rw [hT] at hp
    rw [List.mem_singleton.mp hp]
    exact LamX.TabS.nil hP
  have pad : ∀ k, ER C.K H [] [] H (List.replicate k none) (List.replicate k none) [] := by
    intro k
    induction k with
    | zero => exact ⟨rfl, rfl⟩
    | succ k ih => exact ⟨none, List.replicate k none, rfl, ih⟩
  have go : ∀ d, (d = .sc ns ∨ d = .lst (ns.map D.int)) → Rp C.K [] [] H d (.ref a) → tSeq (tAsg (tE C fh) (gName 1)) (tS C rest) Dn (some (.ref a) :: List.replicate (n + 1) none) H := by
    intro d hd r
    have F : FR C H [] [] [] H (some (.d d) :: List.replicate (n + 1) none) (some (.ref a) :: List.replicate (n + 1) none) [] :=
      ⟨⟨rfl, List.nodup_nil, fun n a o h => by simp at h⟩, tab, ⟨_, _, [], [], rfl, rfl, ⟨rfl, r⟩, pad _⟩, List.nodup_nil, fun a h => (nomatch h), fun a h => (nomatch h), fun a h => (nomatch h), Stp.refl _ _⟩
    refine ⟨H, [], [], [], _, [], F, ?_⟩
    rw [h1 d hd]
    intro H' v s w t r
    obtain ⟨p, vs, rfl, hp, _, v0, r0, rfl, hc, rs⟩ := r
    obtain ⟨c, ws, rfl, hc, _, rc⟩ := hc
    have rs' : Rps C.K [p, c] [p, c] H' [.int 0, .int 0, .int k, .int 0] r0 := Rps.bare _ _ rfl (by
      obtain ⟨v1, r1, rfl, e1, v2, r2, rfl, e2, v3, r3, rfl, e3, v4, r4, rfl, e4, rfl⟩ := rs
      exact ⟨v1, _, rfl, e1, v2, _, rfl, e2, v3, _, rfl, e3, v4, _, rfl, e4, rfl⟩ : Rps C.K [] [p, c] H' [.int 0, .int 0, .int k, .int 0] r0)
    have hne : p ≠ c := fun z => by
      subst z
      rw [hp] at hc
      have e := Rps.ints rc
      rw [e] at hc
      cases cells with
      | nil => cases hc
      | cons x xs => cases hc
    have hw : WR C.K [p, c] [.lst [.ob 1, .int 0, .int 0, .int k, .int 0], .lst (cells.map D.int)] H' := by
      refine ⟨rfl, by simp [hne], fun i b o e1 e2 => ?_⟩
      match i, e1, e2 with
      | 0, e1, e2 =>
        simp at e1 e2
        subst e1; subst e2
        exact ⟨_, hp, rfl, _, _, rfl, ⟨c, rfl, rfl⟩, rs'⟩
      | 1, e1, e2 =>
        simp at e1 e2
        subst e1; subst e2
        refine ⟨_, hc, ?_, ?_⟩
        · exact bare_ints cells
        · rw [Rps.ints rc]; exact Rps.of_ints _
    have F2 : FR C H' [p, c] [p, c] [.lst [.ob 1, .int 0, .int 0, .int k, .int 0], .lst (cells.map D.int)] H' (none :: some (.d (.ob 0)) :: List.replicate n none) ((some (.ref a) :: List.replicate (n + 1) none).set 1 (some (.ref p))) [] := by
      refine ⟨hw, t, ⟨_, _, rfl, ?_⟩, List.nodup_nil, fun a h => (nomatch h), fun a h => h, fun b hb => ?_, Stp.refl _ _⟩
      · have pad' : ∀ k, ER C.K H' [p, c] [p, c] H' (List.replicate k none) (List.replicate k none) [] := by
          intro k
          induction k with
          | zero => exact ⟨rfl, rfl⟩
          | succ k ih => exact ⟨none, List.replicate k none, rfl, ih⟩
        exact ⟨_, _, [], [], rfl, rfl, ⟨rfl, p, rfl, rfl⟩, pad' n⟩
      · rcases List.mem_cons.mp hb with z | z
        · rw [z]; exact ⟨_, hp, trivial⟩
        · rw [List.mem_singleton.mp z]; exact ⟨_, hc, trivial⟩
    refine ⟨H', [p, c], [p, c], _, _, [], F2, ?_⟩
    obtain ⟨M', e⟩ := h2
    rw [e]
    intro H2 v2 _ _ _ rv
    have := rv [] (fun a h => nomatch h)
    rw [show v2 = V.bl true from this]
    exact hD H2
  rcases hS with (h | ⟨o, h⟩) | h
  · exact go (.lst (ns.map D.int)) (.inr rfl) ⟨a, _, rfl, h, by simp, Rps.of_ints ns⟩
  · exact go (.sc ns) (.inl rfl) ⟨a, rfl, .inl ⟨o, h⟩⟩
  · exact go (.sc ns) (.inl rfl) ⟨a, rfl, .inr h⟩
end DL

set_option Elab.async false
set_option linter.all false
set_option maxRecDepth 100000
set_option maxHeartbeats 4000000
/-! The data layer: built-ins over tuples that the library's rules leave out. -/
namespace TpX
open PySem PyProof.Rows Srt SrtO
section
variable {prog : Program} {w : World} {A : Around} {E : Value → Shared → Prop} {s : Shared}
/-- the items of a tuple, collected -/
theorem collect_tup {tp : Addr} {its : List Value} {Q : List Value → Shared → Prop} (ht : IsTup s.heap tp its.toArray) (hz : its.length ≤ sizeLine)
    (hQ : Q its { s with heap := (s.heap.push (seqObj "list" #[] 0)).update s.heap.objs.size (Obj.mapSeq (· ++ its.toArray)) }) : wpAny (model prog w) A (collect (.ref tp)) Q E s := by
  obtain ⟨ot, h1, h2, nt, h3⟩ := id ht
  unfold collect; refine wpAny_bind (wpAny_runValue (codeAny_builtin entry_proto_collect' ?_))
  show wpAny (model prog w) _ (do again (.builtin "list.__iadd__" ⟨[← newList [], .ref tp], []⟩)) _ _ s
  refine wpAny_bind (wpAny_newList (wpAny_pure (And.intro (Code.quiet_builtin _ (by decide +kernel)) (codeAny_builtin entry_list_iadd' ?_))))
  show wpAny (model prog w) _ (Builtin.List.listExtendWith (.ref s.heap.objs.size) (.ref tp) (.ref s.heap.objs.size)) _ _ { s with heap := s.heap.push (seqObj "list" #[] 0) }
  have g1 : (s.heap.push (seqObj "list" #[] 0)).get? tp = some ot := Heap.get?_push_of_some _ h1
  unfold Builtin.List.listExtendWith; refine wpAny_bind (wpAny_typeOf (T := "tuple") ⟨ot, g1, h2⟩ ?_)
  rw [if_pos (by rw [show (Value.type "tuple" == Value.type "tuple") = true by rfl, Bool.or_true])]
  refine wpAny_bind (listItems_at g1 h3 (wpAny_bind (listItems_at (xs := #[]) (n := 0) (Heap.get?_push_size _ rfl) rfl ?_)))
  rw [if_neg (by simp)]
  refine wpAny_bind (listUpdate_at (xs := #[]) (n := 0) (Heap.get?_push_size _ rfl) rfl (wpAny_pure ?_) (Nat.zero_le _) (by show (#[] ++ its.toArray).size ≤ sizeLine + 1; rw [Array.size_append, List.size_toArray]; simp only [List.size_toArray, List.length_nil]; omega))
  show wpAny (model prog w) _ (do
      let ol ← load s.heap.objs.size
      match ol.data with
      | .seq zs _ => pure zs.toList
      | _ => unsupported "internal:collect") Q E { s with heap := (s.heap.push (seqObj "list" #[] 0)).update s.heap.objs.size (Obj.mapSeq (· ++ its.toArray)) }
  refine wpAny_bind (wpAny_load (get?_update_seq (Heap.get?_push_size _ rfl) _) ?_)
  show wpAny (model prog w) _ (pure ((#[] : Array Value) ++ its.toArray).toList) Q E _
  rw [show ((#[] : Array Value) ++ its.toArray).toList = its by simp]
  exact wpAny_pure hQ
/-- sorted of a tuple -/
theorem sorted_tup {tp : Addr} {its : List Value} {lt : Value → Value → Bool} {Q : Value → Shared → Prop} (O : Swo lt) (ht : IsTup s.heap tp its.toArray) (hz : its.length ≤ sizeLine)
    (hS : 2 ≤ its.length → ∀ (hh : Heap) (a : Addr), hh.get? a = some (seqObj "list" its.toArray 0) → (∀ b o, s.heap.get? b = some o → b ≠ a ∧ hh.get? b = some o) → SortableO prog w A.in1.in1 { s with heap := hh } a its lt)
    (hQ : ∀ out : List Value, Srtd lt out → Stb lt out its → Q (.ref (s.heap.objs.size + 1)) { s with heap := sortedAll s.heap its out.toArray }) : wpAny (model prog w) A (call (.builtin "sorted") [.ref tp]) Q E s := by
  refine Calls.call_function_entry kind_sorted plain_sorted entry_sorted (args_sorted1 (.ref tp)) ?_
  unfold Builtin.«sorted»; refine wpAny_bind (m := checkCount "sorted" 1 1 _) (wpAny_pure ?_)
  refine wpAny_bind (collect_tup ht hz (wpAny_bind (wpAny_newList ?_ hz)))
  have e1 : ((s.heap.push (seqObj "list" #[] 0)).update s.heap.objs.size (Obj.mapSeq (· ++ its.toArray))).objs.size = s.heap.objs.size + 1 := by rw [Heap.size_update, size_push']
  have e2 : (((s.heap.push (seqObj "list" #[] 0)).update s.heap.objs.size (Obj.mapSeq (· ++ its.toArray))).push (seqObj "list" its.toArray 0)).get? (s.heap.objs.size + 1) = some (seqObj "list" its.toArray 0) := by rw [← e1]; exact Heap.get?_push_size _ rfl
  have e3 : ∀ b o, s.heap.get? b = some o → b ≠ s.heap.objs.size + 1 ∧ (((s.heap.push (seqObj "list" #[] 0)).update s.heap.objs.size (Obj.mapSeq (· ++ its.toArray))).push (seqObj "list" its.toArray 0)).get? b = some o := fun b o q => by
    have lt1 : b < s.heap.objs.size := Heap.lt_size q
    exact ⟨Nat.ne_of_lt (Nat.lt_succ_of_lt lt1), Heap.get?_push_of_some _ (by rw [Heap.get?_update_ne _ _ _ _ (Nat.ne_of_lt lt1)]; exact Heap.get?_push_of_some _ q)⟩
  show wpAny (model prog w) _ _ _ _ { s with heap := ((s.heap.push (seqObj "list" #[] 0)).update s.heap.objs.size (Obj.mapSeq (· ++ its.toArray))).push (seqObj "list" its.toArray 0) }
  rw [e1]
  refine wpAny_bind (wpAny_holding (wpAny_call_entry slot_list_sort ⟨_, e2, rfl⟩ entry_list_sort (list_sort_ord O e2 hz (fun h2 => hS h2 _ _ e2 e3) fun out o1 o2 => ⟨_, rfl, wpAny_pure ⟨_, rfl, hQ out o1 o2⟩⟩) (args_list_sort _)))
/-- a tuple once, the empty one any number of times -/
theorem tuple_mul1 (l : Addr) (items : Array Value) (n : Nat) (dd : Option Addr) (sl : Array (Option Value)) (x : Int) (u : Tok) (c0 : (decide (x < -(2 ^ 63)) || decide (x ≥ 2 ^ 63)) = false) (c1 : (items.isEmpty || x == 1) = true) :
    Meets (Builtin.«tuple.__mul__» ⟨[.ref l, .int x u], []⟩) (fun _ R s => s.heap.get? l = some { cls := .type "tuple", dict := dd, data := .seq items n, slots := sl } ∧ R (.ok (.ret (Value.ref l))) s) :=
  .of_wp fun prog w A R s h => by
    obtain ⟨hp, g, d, tk, os⟩ := s
    obtain ⟨hl, h⟩ := h
    have fi := AutoSeq1.idx_int
    wp_walk using AutoSeq1.wpAny_loadPart' hl
    refine wpAny_ite_false (decide_eq_false (by rw [c0]; exact Bool.false_ne_true)) ?_; wp_walk using AutoSeq1.wpAny_loadPart' hl
    exact ⟨_, rfl, h⟩
/-- enumerate(v): its two new cells, v told by what its iterator begins with -/
theorem enum_new1 {v : Value} {o : Obj} {G : Heap → Prop} (B : Begins v o G) :
    Meets (Builtin.«enumerate.__new__» ⟨[.type "enumerate", v], []⟩) (fun _ R s => G s.heap ∧ R (.ok (.ret (.ref (s.heap.push o).objs.size))) { s with heap := (s.heap.push o).push { cls := .type "enumerate", data := .fields #[.none, .bool false, .ref s.heap.objs.size, rawInt 0, .none, .none] } }) :=
  .of_wp fun prog w A R s h => by
    obtain ⟨hp, g, d, tk, os⟩ := s
    obtain ⟨hG, h⟩ := h
    have sb := sub_enumerate
    have go : ∀ {A' : Around} {E : Value → Shared → Prop} {Q : Value → Shared → Prop}, Q (.ref hp.objs.size) ⟨hp.push o, g, d, tk, os⟩ → wpAny (model prog w) A' (pyIter v) Q E ⟨hp, g, d, tk, os⟩ := fun q => B.iter prog w _ _ ⟨hp, g, d, tk, os⟩ _ hG q
    wp_walk using go
    refine wpAny_stack_any fun st => wpAny_pure ?_
    split
    · rename_i c _ _ _ _ _
      cases (c == Value.type "enumerate") <;> (wp_walk using go; exact ⟨_, rfl, h⟩)
    · wp_walk using go; exact ⟨_, rfl, h⟩
theorem call_enum1 {v : Value} {o : Obj} {G : Heap → Prop} {Q : Value → Shared → Prop} (B : Begins v o G) (hG : G s.heap)
    (hQ : ∀ h', IsEnum h' (s.heap.objs.size + 1) s.heap.objs.size 0 .none → h'.get? s.heap.objs.size = some o → (∀ b o, s.heap.get? b = some o → h'.get? b = some o) → Q (.ref (s.heap.objs.size + 1)) { s with heap := h' }) : wpAny (model prog w) A (call (.type "enumerate") [v]) Q E s := by
  refine callType_new F.called_enumerate (by decide) (F.typeCall_enumerate_1 v) (F.newCall_enumerate_1 v) (fun obj => F.args_object_init_2 obj v) F.entry_enumerate_new (enum_new1 B) ⟨hG, ?_⟩
  have hz : (s.heap.push o).objs.size = s.heap.objs.size + 1 := Heap.size_push ..
  show _ ∧ _
  rw [hz]
  have he : IsEnum ((s.heap.push o).push { cls := .type "enumerate", data := .fields #[.none, .bool false, .ref s.heap.objs.size, rawInt 0, .none, .none] }) (s.heap.objs.size + 1) s.heap.objs.size 0 .none := by
    have e := Heap.get?_push_size (s.heap.push o) (o := { cls := .type "enumerate", data := .fields #[.none, .bool false, .ref s.heap.objs.size, rawInt 0, .none, .none] }) rfl
    rw [hz] at e; exact e
  exact ⟨⟨_, he, rfl⟩, hQ _ he (Heap.get?_push_of_some _ (Heap.get?_push_size _ B.free)) fun b o x => Heap.get?_push_of_some _ (Heap.get?_push_of_some _ x)⟩
end
end TpX
namespace DL
open PySem PySem.Spec PyProof.Rows L2
theorem drawsEnd {prog : Program} {w : World} {A : Around} (hh : A.handled = none) (it t : Addr) (items : Array Value) (n : Nat) (hn : items.size ≤ n) :
    Draws prog w A it [it, t] n (fun _ _ => False) (fun k h => k = n ∧ h.IsTupleIter it t n ∧ h.IsTuple t items) where
  live := fun _ _ st => let ⟨o, ho, _⟩ := st.2.1; ⟨o, ho⟩
  frame := fun _ _ _ st hk => ⟨st.1, st.2.1.at fun o e => hk it (by simp) o e, st.2.2.at fun o e => hk t (by simp) o e⟩
  item := fun i s Q E hi st hQ => by have := st.1; omega
  done := fun s Q E st hE => wpAny_nextOf_tuple_end hh st.2.1 st.2.2 (by simp [hn]) hE
/-- a tuple that is told: the very one -/
theorem tup_is {h : Heap} {a : Addr} {its : Array Value} (p : IsTup h a its) : h.IsTuple a its := p
/-- the tuple at a as it stands at each turn, each item in a new pair -/
def IteT (K : PySem.W.Frag) (a : Addr) : It :=
  ⟨fun i H => ∃ (xs : List V) (x : V), SqT K H a xs ∧ xs[i]? = some x, fun i H v H' => ∃ N x, v = .ref N ∧ H N = none ∧ H' = upd H N (.tup [.int (i : Nat), x]) ∧ ∀ xs, SqT K H a xs → xs[i]? = some x, fun i H => ∃ xs : List V, SqT K H a xs ∧ xs.length ≤ i⟩
theorem turn_enumT {P : Program} {w : World} {K : PySem.W.Frag} {elts : List Expr} {kk : Nat} {tpos : Pos} (a e it : Addr) (hat : a ≠ it) (hae : a ≠ e) :
    Turn P w K (.Tuple elts kk tpos) (IteT K a) [e, it] e (fun i h => (∃ old, IsEnum h e it ((i : Nat) : Int) old) ∧ h.IsTupleIter it a i ∧ e ≠ it) where
  mem := by simp
  obj := fun i h st b hb => by
    obtain ⟨⟨old, he⟩, ⟨o, ho, hc, hd⟩, _⟩ := st
    rcases (show b = e ∨ b = it by simpa using hb) with z | z
    · rw [z]; exact ⟨_, he, fun v q => nomatch q⟩
    · rw [z]; exact ⟨o, ho, fun v q => by rw [hd] at q; cases q⟩
  keep := fun i h h' st k => ⟨st.1.elim fun old he => ⟨old, k e (by simp) _ he⟩, st.2.1.at fun o q => k it (by simp) o q, st.2.2⟩
  item := by
    intro X hP hw hK hc i pins s σ H E I hf st hg
    subst hP hw hK
    obtain ⟨⟨old, he⟩, hit, hne⟩ := st
    obtain ⟨xs, x, hq, hx⟩ := hg
    obtain ⟨its, rv, p, hz⟩ := I.tuple hq
    obtain ⟨u, hu, ru⟩ := rv.get hx
    have e1 : e < s.heap.objs.size := Heap.lt_size he
    have e2 : it < s.heap.objs.size := by obtain ⟨_, q, _⟩ := hit; exact Heap.lt_size q
    have hi : i < its.toArray.size := by rw [List.size_toArray]; exact (List.getElem?_eq_some_iff.mp hu).1
    refine wpAny_pyNext_enum_itemD (Draws.tuple (A := X.A.in1) (I.ok.hd hc) it a hat its.toArray) he ⟨hit, tup_is p⟩ hi hne (by simp [hne, hae.symm]) fun y h' tk hy ho hit' hT hsz hk => ?_
    have ey : y = u := by
      have z : its.toArray[i]? = some u := by simpa using hu
      rw [z] at hy; exact (Option.some.inj hy).symm
    subst ey
    refine ⟨_, rfl, wpAny_letOwnedTupleGo_enum (s := { s with heap := h', toks := tk + 1 }) ho fun h'' he' sb => ?_⟩
    have hT2 : h''.get? s.heap.objs.size = some { cls := .type "tuple", data := .seq #[.int i tk, y] } := (sb.2 _ (Nat.ne_of_gt e1)).trans hT
    have laid : ObjOk X.prog X.w (upd H s.heap.objs.size (.tup [.int (i : Nat), x])) h'' s.heap.objs.size (.tup [.int (i : Nat), x]) := ⟨by show 2 ≤ sizeLine; decide, [.int i tk, y], .cons ⟨_, rfl⟩ (.cons ru .nil), ⟨_, hT2, rfl, _, rfl⟩⟩
    have I1 : Inv X pins σ (upd H s.heap.objs.size (.tup [.int (i : Nat), x])) { s with heap := h'', toks := tk + 1 } :=
      I.turnedNew (ch := [e, it]) (fun b ob hb q => (sb.2 b (fun z => hb (by simp [z]))).trans (hk b ob (fun z => hb (by simp [z])) (fun z => hb (by simp [z])) q)) hf (Nat.le_refl _) laid
    refine ⟨.ref s.heap.objs.size, _, I1, rfl, ⟨_, x, rfl, I.hok.fresh (Nat.le_refl _), rfl, fun ys hy => by rw [I.tuple_inj hy hq]; exact hx⟩, ⟨⟨y, ?_⟩, hit'.1.at fun o q => (sb.2 it (Ne.symm hne)).trans q, hne⟩, fun b hb => ?_⟩
    · rw [show ((i + 1 : Nat) : Int) = (i : Int) + 1 by omega]; exact he'
    · have lb : b < s.heap.objs.size := by
        rcases (show b = e ∨ b = it by simpa using hb) with z | z
        · rw [z]; exact e1
        · rw [z]; exact e2
      rw [upd_ne (Nat.ne_of_lt lb)]; exact (hf b hb).1
  done := by
    intro X hP hw hK hc i pins s σ H E I hf st hg
    subst hP hw hK
    obtain ⟨⟨old, he⟩, hit, hne⟩ := st
    obtain ⟨xs, hq, hx⟩ := hg
    obtain ⟨its, rv, p, hz⟩ := I.tuple hq
    obtain ⟨f0, f1, f2, f3, f4, f5⟩ := hf it (by simp)
    have hl := rv.length
    exact wpAny_pyNext_enum_endD (drawsEnd (A := X.A.in1) (I.ok.hd hc) it a its.toArray i (by rw [List.size_toArray]; omega)) he ⟨rfl, hit, tup_is p⟩ fun h' eb => ⟨rfl, I.turned (t' := s.toks) (fun b o hb q => eb b o hb q) f0 f1 f3 f4 f5⟩
  self := fun A i s Q E st h => st.1.elim fun _ he => wpAny_pyIter_enum he h
end DL

set_option Elab.async false
set_option linter.all false
set_option maxRecDepth 100000
set_option maxHeartbeats 4000000
/-! The data layer: tuples turned about, sorted, told with their places, several times. -/
namespace TpX
open PySem PyProof.Rows
theorem adj_rev (n : Nat) : Builtin.Slice.sliceAdjust none none (-1) (n : Int) = ((n : Int) - 1, -1) := by
  unfold Builtin.Slice.sliceAdjust
  simp
theorem plc_rev (n : Nat) : Builtin.Slice.slicePlaces ((n : Int) - 1) (-1) (-1) = n := by
  unfold Builtin.Slice.slicePlaces
  by_cases h : n = 0
  · subst h; rfl
  · have h2 : (-1 : Int) < (n : Int) - 1 := by omega
    simp [h2]
theorem fm_congr {α β : Type} {f g : α → Option β} : ∀ {l : List α}, (∀ k ∈ l, f k = g k) → l.filterMap f = l.filterMap g
  | [], _ => rfl
  | a :: l, h => by
    rw [List.filterMap_cons, List.filterMap_cons, h a List.mem_cons_self, fm_congr fun k hk => h k (List.mem_cons_of_mem _ hk)]
theorem pick_rev (xs : Array Value) : ((List.range xs.size).filterMap fun (k : Nat) => xs[(((xs.size : Int) - 1) + (k : Int) * (-1)).toNat]?).toArray = xs.toList.reverse.toArray := by
  have e : ∀ k ∈ List.range xs.size, xs[(((xs.size : Int) - 1) + (k : Int) * (-1)).toNat]? = xs.toList.reverse[k]? := by
    intro k hk
    have hk' := List.mem_range.mp hk
    rw [List.getElem?_reverse (by simpa using hk'), Array.getElem?_toList]
    congr 1
    rw [Array.length_toList]
    omega
  have e2 : (List.range xs.size).filterMap (fun (k : Nat) => xs[(((xs.size : Int) - 1) + (k : Int) * (-1)).toNat]?) = (List.range xs.size).filterMap (fun k => xs.toList.reverse[k]?) := fm_congr e
  rw [e2]
  have e3 : ∀ l : List Value, (List.range l.length).filterMap (fun k => l[k]?) = l := by
    intro l
    induction l with
    | nil => rfl
    | cons x r ih =>
      rw [List.length_cons, List.range_succ_eq_map, List.filterMap_cons]
      show x :: _ = _
      rw [List.filterMap_map]
      congr 1
  have e4 := e3 xs.toList.reverse
  rw [List.length_reverse, Array.length_toList] at e4
  rw [e4]
section
variable {prog : Program} {w : World} {A : Around} {E : Value → Shared → Prop} {s : Shared}
theorem applied_rev {sl : Addr} {vl vu vs : Value} {n : Nat} {Q : Int × Int × Nat → Shared → Prop} (hs : s.heap.IsSliceOf sl vl vu vs) (pl : IsPart vl none) (pu : IsPart vu none) (ps : IsPart vs (some (-1)))
    (hQ : Q ((n : Int) - 1, -1, n) s) : wpAny (model prog w) A (Builtin.Slice.sliceApplied (.ref sl) (pure (n : Int))) Q E s := by
  obtain ⟨ob, h1, h2, h3⟩ := id hs
  unfold Builtin.Slice.sliceApplied Builtin.Slice.sliceFields; refine wpAny_bind (wpAny_bind (wpAny_field h1 h3 (x := vl) rfl (wpAny_bind (wpAny_field h1 h3 (x := vu) rfl (wpAny_bind (wpAny_field h1 h3 (x := vs) rfl (wpAny_pure ?_)))))))
  refine wpAny_bind (HT.slicePart_ ps ?_)
  show wpAny (model prog w) A (if ((-1 : Int) == 0) = true then _ else _) _ _ s
  rw [if_neg (by decide)]
  refine wpAny_bind (HT.slicePart_ pl (wpAny_bind (HT.slicePart_ pu (wpAny_bind (wpAny_pure ?_)))))
  show wpAny (model prog w) A (match Builtin.Slice.sliceAdjust none none (-1) (n : Int) with | (l, h) => pure (l, (-1 : Int), Builtin.Slice.slicePlaces l h (-1))) _ _ s
  rw [adj_rev n]
  show wpAny (model prog w) A (pure ((n : Int) - 1, (-1 : Int), Builtin.Slice.slicePlaces ((n : Int) - 1) (-1) (-1))) _ _ s
  rw [plc_rev]
  exact wpAny_pure hQ
theorem getItem_tuple_rev {t sl : Addr} {items : Array Value} {vl vu vs : Value} {Q : Value → Shared → Prop} (ht : IsTup s.heap t items) (hs : s.heap.IsSliceOf sl vl vu vs) (pl : IsPart vl none) (pu : IsPart vu none) (ps : IsPart vs (some (-1)))
    (hQ : Q (.ref s.heap.objs.size) { s with heap := s.heap.push { cls := .type "tuple", data := .seq items.toList.reverse.toArray } }) (hz : items.size ≤ sizeLine) : wpAny (model prog w) A (getItem (.ref t) (.ref sl)) Q E s := by
  have hk : sizeOk (.seq items.toList.reverse.toArray) := by
    show items.toList.reverse.toArray.size ≤ sizeLine
    rw [List.size_toArray, List.length_reverse, Array.length_toList]; exact hz
  obtain ⟨ob, h1, h2, h3⟩ := id hs
  unfold getItem
  try with_reducible refine wpAny_holding ?_
  first | refine wpAny_bind (wpAny_pure ?_) | skip
  refine wpAny_bind (wpAny_sequenceKey ht.typeIs (by decide) (wpAny_bind (wpAny_callSpecial?_slot (name := Str.ofString "__getitem__") ht.typeIs PyProof.Rows.slot_tuple_getitem (wpAny_call_entry PyProof.Rows.slot_tuple_getitem ht.typeIs entry_tuple_getitem ?_ (args_tuple_getitem _ _)))))
  show wpAny (model prog w) _ (Builtin.Tuple.tupleItemsOf (.ref t) >>= _) _ _ s
  refine wpAny_bind (tupleItemsOf_ ht (wpAny_bind (wpAny_typeOf (T := "slice") ⟨ob, h1, h2⟩ ?_)))
  rw [if_pos (by decide)]
  refine wpAny_bind (applied_rev hs pl pu ps ?_)
  show wpAny (model prog w) _ (if (((items.size : Int) - 1) == 0 && (-1 : Int) == 1 && items.size == items.size) = true then _ else _) _ _ s
  rw [if_neg (by simp), pick_rev]
  first
    | exact wpAny_bind (m := Builtin.Tuple.tupleExact _) (wpAny_newObj_type (wpAny_pure ⟨_, rfl, wpAny_pure hQ⟩) hk)
    | exact wpAny_bind (m := Builtin.Tuple.tupleExact _) (wpAny_newObj_type (wpAny_bind (wpAny_pure (wpAny_pure ⟨_, rfl, wpAny_pure hQ⟩))) hk)
    | exact wpAny_bind (wpAny_bind (m := Builtin.Tuple.tupleExact _) (wpAny_newObj_type (wpAny_pure (wpAny_pure ⟨_, rfl, wpAny_pure hQ⟩)) hk))
    | exact wpAny_bind (wpAny_bind (m := Builtin.Tuple.tupleExact _) (wpAny_newObj_type (wpAny_pure ⟨_, rfl, wpAny_pure hQ⟩) hk))
end
end TpX
namespace L2
open PySem PySem.Spec PyProof.Rows
section
variable {X : Cx} {e : Expr} {te : TE}
/-- t[::-1] -/
def tRevT (K : PySem.W.Frag) (te : TE) : TE := fun σ H Q => te σ H fun x H1 => ∃ a xs, x = .ref a ∧ ((SqL K H1 a xs ∧ ∀ p, H1 p = none → Q (.ref p) (upd H1 p (.lst xs.reverse))) ∨ (SqT K H1 a xs ∧ ∀ p, H1 p = none → Q (.ref p) (upd H1 p (.tup xs.reverse))))
theorem pe_revA {k : Nat} {p1 p2 p3 pos : Pos} (he : PE X e te) : PE X (.Subscript e (.Slice none none (some (.UnaryOp .USub (.Constant (.int 1) k p1) p2)) p3) pos) (tRevT X.K te) := by
  refine ⟨fun pins s σ H Q I h => Subscript_ (thn (he.run pins s σ H _ I h) fun v s1 ⟨x, H1, I1, r1, q1⟩ => ?_)⟩
  obtain ⟨a, xs, rfl, q⟩ := q1
  cases r1
  have hst : PO X (some (.UnaryOp .USub (.Constant (.int 1) k p1) p2)) (tPart (tUn (rU fun i => .int (-i)) (tC (.int 1)))) := po_some (pe_un un_neg pe_int)
  refine wpAny_Slice (thn (po_none.run pins s1 σ H1 (fun o H2 => o = none ∧ H2 = H1) I1 ⟨rfl, rfl⟩) fun vl s2 ⟨l, H2, I2, pl, g1, g2⟩ => ?_)
  subst g1 g2
  refine thn (po_none.run pins s2 σ H2 (fun o H3 => o = none ∧ H3 = H2) I2 ⟨rfl, rfl⟩) fun vu s3 ⟨u, H3, I3, pu, g3, g4⟩ => ?_
  subst g3 g4
  refine thn (hst.run pins s3 σ H3 (fun o H4 => o = some (-1) ∧ H4 = H3) I3 ⟨1, rfl, -1, rfl, rfl, rfl⟩) fun vs s4 ⟨o, H4, I4, ps, g5, g6⟩ => ?_
  subst g5 g6
  have I5 : Inv X pins σ H4 { s4 with heap := s4.heap.push { cls := .type "slice", data := .fields #[vl, vu, vs] } } := I4.kept (t' := s4.toks) fun b ob z => Heap.get?_push_of_some _ z
  show wpAny (model X.prog X.w) X.A (subscriptTail e (.Slice none none (some (.UnaryOp .USub (.Constant (.int 1) k p1) p2)) p3) (.ref a) (.ref s4.heap.objs.size)) (EP X pins σ Q) X.xe { s4 with heap := s4.heap.push { cls := .type "slice", data := .fields #[vl, vu, vs] } }
  rcases q with ⟨hx, q⟩ | ⟨hx, q⟩
  · obtain ⟨its, r, ht, hz⟩ := I5.list hx
    have hlen := r.length
    refine tail_any (ops := [.ref a, .ref s4.heap.objs.size]) ht.isList.typeIs (PySem.slot_list_getitem.lookup) (wpAny_getItem_list_slice ht.isList (Heap.IsSliceOf.new _ vl vu vs) pl pu ps (by decide) ?_ (by rw [List.size_toArray]; omega)) (by with_unfolding_all rfl)
    rw [PySem.W.krv_pick]
    exact ⟨.ref _, _, I5.laid (t' := s4.toks) (o := .lst xs.reverse) (fun b ob z => Heap.get?_push_of_some _ z) (Nat.le_refl _) ⟨by rw [List.length_reverse]; exact hz, _, 0, r.reverse, Heap.get?_push_size _ rfl⟩, rfl, q _ (I5.hok.fresh (Nat.le_refl _))⟩
  · obtain ⟨its, r, ht, hz⟩ := I5.tuple hx
    have hlen := r.length
    refine tail_any (ops := [.ref a, .ref s4.heap.objs.size]) ht.typeIs (PyProof.Rows.slot_tuple_getitem.lookup) (TpX.getItem_tuple_rev ht (Heap.IsSliceOf.new _ vl vu vs) pl pu ps ?_ (by rw [List.size_toArray]; omega)) (by with_unfolding_all rfl)
    exact ⟨.ref _, _, I5.laid (t' := s4.toks) (o := .tup xs.reverse) (fun b ob z => Heap.get?_push_of_some _ z) (Nat.le_refl _) ⟨by rw [List.length_reverse]; exact hz, _, r.reverse, IsTup.new _ _⟩, rfl, q _ (I5.hok.fresh (Nat.le_refl _))⟩
/-- sorted(t), ints -/
def rSortedT (K : PySem.W.Frag) : List V → Hp → VK → Prop := fun vs H Q => ∃ (a : Addr) (ns : List Int), vs = [V.ref a] ∧ SqT K H a (ns.map V.int) ∧ ∀ (ns' : List Int) (p : Addr), ns'.Perm ns → ns'.Pairwise (· ≤ ·) → H p = none → Q (.ref p) (upd H p (.lst (ns'.map V.int)))
theorem cr_sortedT : CallR X (.builtin "sorted") (rSortedT X.K) := by
  intro pins s σ H vs us Q I r h
  obtain ⟨a, ns, rfl, hs, q⟩ := h
  obtain ⟨its, rv, ht, hz⟩ := I.tuple hs
  rw [Vals.ref1 r]
  have hi := rv.ints
  refine TpX.sorted_tup SrtO.swo_int ht (by rw [← rv.length]; exact hz) (fun h2 hh a' _ _ => SrtO.ints_sortable hi h2) fun out o1 o2 => ?_
  obtain ⟨k1, k2, k3⟩ := SrtO.ints_out hi o1 o2
  obtain ⟨ep, he'⟩ := PyProof.Rows.sortedAll_at s.heap its out.toArray
  have hl : ((out.map SrtO.iv).map V.int).length ≤ sizeLine := by
    rw [List.length_map, k2.length_eq]
    simpa using hz
  exact ⟨.ref _, upd H (s.heap.objs.size + 1) (.lst ((out.map SrtO.iv).map V.int)), I.laid (t' := s.toks) (fun _ _ => PyProof.Rows.sortedAll_old) (Nat.le_succ _) ⟨hl, out, ep, vals_of_ints k1, he'⟩, rfl, q _ _ k2 k3 (I.hok.fresh (Nat.le_succ _))⟩
/-- t * 1, () * k: the same tuple -/
def rRep1 (K : PySem.W.Frag) : R2 := fun x y H Q => ∃ l k xs, x = .ref l ∧ y = .int k ∧ SqT K H l xs ∧ (xs = [] ∨ k = 1) ∧ -1000000 ≤ k ∧ k ≤ 1000000 ∧ Q (.ref l) H
theorem op_rep1 : OpR X (binaryOp .Mult) (rRep1 X.K) := by
  intro pins s σ H x y v u Q I rx ry h
  obtain ⟨l, k, xs, rfl, rfl, hT, hc, b1, b2, q⟩ := h
  cases rx
  obtain ⟨t, rfl⟩ := ry
  obtain ⟨its, r, ⟨⟨cls, dd, data, sl⟩, h1, h2, n, h3⟩, hz⟩ := I.tuple hT
  simp only at h2 h3
  subst h2 h3
  have c0 : (decide (k < -(2 ^ 63)) || decide (k ≥ 2 ^ 63)) = false := by rw [decide_eq_false (by omega), decide_eq_false (by omega)] <;> rfl
  have c1 : (its.toArray.isEmpty || k == 1) = true := by
    rcases hc with e | e
    · subst e; cases r; rfl
    · subst e; simp
  exact wpAny_binaryOp_repeat_ref (T := "tuple") (U := "int") (by decide) ⟨_, h1, rfl⟩ (fun s' => typeIs_int s' k t) noFill_tuple_mul F.fills_int_mul F.slot_int_rmul repeat_tuple F.slot_int_index.lookup (call_meets F.slot_int_rmul (typeIs_int s k t) F.entry_int_rmul (F.args_int_rmul_2 _ _) (int_rmul_tuple k t l its.toArray n dd sl)
    ⟨h1, rfl, ⟨_, h1, rfl⟩, call_meets F.slot_tuple_mul ⟨_, h1, rfl⟩ F.entry_tuple_mul (F.args_tuple_mul_2 _ _) (TpX.tuple_mul1 l its.toArray n dd sl k t c0 c1) ⟨h1, ⟨.ref l, H, I, rfl, q⟩⟩⟩)
/-- enumerate(x), a list or a tuple -/
def iEnumA (K : PySem.W.Frag) (ta : TA) : TI := fun σ H R => ta σ H fun vs H1 => ∃ a xs, vs = [.ref a] ∧ ((SqT K H1 a xs ∧ R (DL.IteT K a) H1) ∨ (SqL K H1 a xs ∧ R (Ite K a) H1))
theorem pi_enumA {p pos tpos : Pos} {elts : List Expr} {kk : Nat} {ta : TA} (hg : Gl X "enumerate") (hm : X.mg "enumerate" = none) (ha : PA X [e] ta) (hs : starEach [e] X.env = [(false, eval e X.env)] := by rfl) : PI X (.Tuple elts kk tpos) (.Call (.Name "enumerate" p) [e] [] pos) (iEnumA X.K ta) := by
  refine ⟨fun pins s σ H R I h => Call_ (ld_blt I hg hm boot_enumerate (PyProof.Rows.callWith_type1 (thn (ha.run pos pins s σ H _ I h) fun us s1 ⟨vs, H1, I1, r1, q1⟩ => ?_) hs rfl))⟩
  obtain ⟨a, xs, rfl, q⟩ := q1
  obtain rfl : us = [.ref a] := Vals.ref1 r1
  have fps : ∀ b ∈ [s1.heap.objs.size + 1, s1.heap.objs.size], s1.heap.objs.size ≤ b := fun b hb => by
    rcases (show b = s1.heap.objs.size + 1 ∨ b = s1.heap.objs.size by simpa using hb) with z | z
    · rw [z]; exact Nat.le_add_right _ _
    · rw [z]; exact Nat.le_refl _
  rcases q with ⟨hq, q⟩ | ⟨hq, q⟩
  · obtain ⟨its, rv, pt, hz⟩ := I1.tuple hq
    have la : a < s1.heap.objs.size := by obtain ⟨o, e, _⟩ := pt; exact Heap.lt_size e
    refine TpX.call_enum1 (begins_tuple a its.toArray) (DL.tup_is pt) fun h' he hit hk => wpAny_pyIter_enum he ?_
    have I2 : Inv X pins σ H1 { s1 with heap := h' } := I1.kept (t' := s1.toks) hk
    exact ⟨s1.heap.objs.size + 1, [s1.heap.objs.size + 1, s1.heap.objs.size], _, _, H1, rfl, I2, DL.turn_enumT a (s1.heap.objs.size + 1) s1.heap.objs.size (Nat.ne_of_lt la) (Nat.ne_of_lt (Nat.lt_succ_of_lt la)), ⟨⟨.none, he⟩, ⟨_, hit, rfl, rfl⟩, Nat.succ_ne_self _⟩, fun b hb => I1.fpOk (fps b hb) (I1.hok.fresh (fps b hb)), q⟩
  · obtain ⟨its, rv, pl, hz⟩ := I1.list hq
    refine call_enumerate_list pl.isList fun h' he hit hsz hk => wpAny_pyIter_enum he ?_
    have I2 : Inv X pins σ H1 { s1 with heap := h' } := I1.kept (t' := s1.toks) hk
    exact ⟨s1.heap.objs.size + 1, [s1.heap.objs.size + 1, s1.heap.objs.size], _, _, H1, rfl, I2, turn_enum a (s1.heap.objs.size + 1) s1.heap.objs.size, ⟨⟨.none, he⟩, hit, Nat.succ_ne_self _⟩, fun b hb => I1.fpOk (fps b hb) (I1.hok.fresh (fps b hb)), q⟩
end
end L2

set_option Elab.async false
set_option linter.all false
set_option maxRecDepth 100000
set_option maxHeartbeats 2000000
/-! The data layer: rules over tuples. -/
namespace DL
open PySem PySem.Spec PyProof.Rows L2
section
variable {X : Cx} {T : List (Addr × Str)} {W : WX} {a b c e : Expr} {es : List Expr} {tg : Expr} {pos p : Pos} {f g : Sm Ev} {fs : Sm (List Ev)} {k : Bool}
/-- a * b, tuples too -/
def opMulT (l : List D) (k : Int) (M : Mem) : R Ev := if (l = [] ∨ k = 1) ∧ -1000000 ≤ k ∧ k ≤ 1000000 then .ok (.d (.tup l)) M else if l ≠ [] ∧ 2 ≤ k ∧ k ≤ 1000 ∧ l.length ≤ 1000 then .ok (.d (.tup (List.replicate k.toNat l).flatten)) M else .stuck
instance (l : List D) : Decidable (l = []) := match l with
  | [] => isTrue rfl
  | _ :: _ => isFalse (fun h => nomatch h)
def opMulA (a b : Ev) (M : Mem) : R Ev := match a, b with
  | .d (.tup l), .d (.int k) => opMulT l k M
  | a, b => opMul a b M
theorem ok_mulA {C : Cf} : OpOk C opMulA (fun x y H Q => (rRep1 C.K x y H Q ∨ rRepT C.K x y H Q) ∨ (rI cMul (fun i j => .int (i * j)) x y H Q ∨ rRep x y H Q)) := by
  intro H0 A m M H ρ σ P x y v w Q F rx ry h
  unfold opMulA at h
  split at h
  · rename_i l k
    obtain ⟨a, vs, e, hs, r⟩ := rx
    unfold opMulT at h
    have hn : ∀ {l : List D} {vs : List V}, Rps C.K A m H l vs → (vs = [] ↔ l = []) := fun {l vs} r => by
      have := Rps.len r
      constructor <;> intro z <;> subst z <;> simp at this
      · exact List.eq_nil_of_length_eq_zero this.symm
      · exact this
    split at h
    · rename_i hc
      exact .inl (.inl ⟨a, k, vs, e, ry, SqT.of hs, hc.1.imp (hn r).mpr id, hc.2.1, hc.2.2, h.fin F (by rw [← e]; exact ⟨a, vs, e, hs, r⟩)⟩)
    · split at h
      · rename_i hc
        exact .inl (.inr ⟨a, k, vs, e, ry, SqT.of hs, fun z => hc.1 ((hn r).mp z), hc.2.1, hc.2.2.1, by rw [Rps.len r]; exact hc.2.2.2, fun p hp => h.made F hp (newT (C := C) hp (Rps.rep r _))⟩)
      · exact h.elim
  · exact .inr (ok_mul H0 A m M H ρ σ P _ _ v w Q F rx ry h)
theorem de_mulA (ha : PE X a (tE (cf X T W) f)) (hb : PE X b (tE (cf X T W) g)) : PE X (.BinOp a .Mult b pos) (tE (cf X T W) (eBin opMulA f g)) :=
  ⟨fun pins s σ H Q I q => (pe_op ((op_rep1.or op_repT).or op_mulA) ha hb).run pins s σ H Q I (tE_bin ok_mulA q)⟩
/-- x[::-1] -/
def revD : Ev → Option D
  | .d (.tup l) => some (.tup l.reverse)
  | x => (lstOf x).map fun l => .lst l.reverse
def eRev (f : Sm Ev) : Sm Ev := fun ρ M => bnd (f ρ M) fun x M1 => match revD x with
  | some d => .ok (.d d) M1
  | none => .stuck
theorem de_rev {k : Nat} {p1 p2 p3 : Pos} (he : PE X e (tE (cf X T W) f)) : PE X (.Subscript e (.Slice none none (some (.UnaryOp .USub (.Constant (.int 1) k p1) p2)) p3) pos) (tE (cf X T W) (eRev f)) := by
  refine ⟨fun pins s σ H Q I q => (pe_revA he).run pins s σ H Q I ?_⟩
  obtain ⟨H0, A, m, M, ρ, P, F, q⟩ := q
  refine sub F q fun x M1 H1 v F1 _ r1 q1 => ?_
  split at q1
  · rename_i d hd
    unfold revD at hd
    split at hd
    · rename_i l
      cases hd
      obtain ⟨a, vs, ev, hs, r⟩ := r1
      exact ⟨a, vs, ev, .inr ⟨SqT.of hs, fun p hp => q1.made F1 hp (newT (C := cf X T W) hp (Rps.rev r))⟩⟩
    · cases e : lstOf x with
      | none => rw [e] at hd; cases hd
      | some l =>
        rw [e] at hd; cases hd
        obtain ⟨a, vs, ev, hs, r⟩ := lstOf_at e r1
        exact ⟨a, vs, ev, .inl ⟨SqL.of hs, fun p hp => q1.made F1 hp (newL F1 hp (Rps.rev r))⟩⟩
  · exact q1.elim
/-- sorted, ints -/
theorem srt_uniq : ∀ {a b : List Int}, a.Pairwise (· ≤ ·) → b.Pairwise (· ≤ ·) → a.Perm b → a = b
  | [], b, _, _, h => by have := h.length_eq; simp at this; exact (List.eq_nil_of_length_eq_zero this.symm).symm
  | x :: a, [], _, _, h => by have := h.length_eq; simp at this
  | x :: a, y :: b, ha, hb, h => by
    have e : x = y := by
      rw [List.pairwise_cons] at ha hb
      have h1 : x ∈ y :: b := h.subset List.mem_cons_self
      have h2 : y ∈ x :: a := h.symm.subset List.mem_cons_self
      rcases List.mem_cons.mp h1 with z | z
      · exact z
      · rcases List.mem_cons.mp h2 with z2 | z2
        · exact z2.symm
        · have := ha.1 y z2; have := hb.1 x z; omega
    subst e
    rw [List.pairwise_cons] at ha hb
    rw [srt_uniq ha.2 hb.2 (List.Perm.cons_inv h)]
def srt (ns : List Int) : List Int := ns.mergeSort (fun a b => decide (a ≤ b))
theorem srt_is {ns ns' : List Int} (h1 : ns'.Perm ns) (h2 : ns'.Pairwise (· ≤ ·)) : ns' = srt ns := by
  have s1 : (srt ns).Pairwise (fun a b => decide (a ≤ b) = true) := List.pairwise_mergeSort (by intro a b c; simp; omega) (by intro a b; simp; omega) ns
  exact srt_uniq h2 (s1.imp fun {a b} h => by simpa using h) (h1.trans (List.mergeSort_perm ns _).symm)
def bSorted (xs : List Ev) (M : Mem) : R Ev := match xs with
  | [.d (.tup l)] => match toInts l with
    | some ns => .ok (.d (.lst ((srt ns).map D.int))) M
    | none => .stuck
  | [x] => match intsOf x with
    | some ns => .ok (.d (.lst ((srt ns).map D.int))) M
    | none => .stuck
  | _ => .stuck
theorem ints_back {K : PySem.W.Frag} {A m : List Addr} {H : Hp} {l : List D} {ns : List Int} {vs : List V} (h : toInts l = some ns) (r : Rps K A m H l vs) : vs = ns.map V.int := by
  rw [toInts_map h] at r
  exact Rps.ints r
theorem bi_sorted : BIs X T W (.builtin "sorted") bSorted := by
  refine ⟨_, cr_sortedT.or cr_sortedI, ?_⟩
  intro H0 A m M H ρ σ P xs vs Q F ra h
  unfold bSorted at h
  split at h
  · rename_i l
    obtain ⟨v, rfl, r⟩ := Paired.one ra
    split at h
    · rename_i ns hl
      obtain ⟨a, ws, e, hs, q⟩ := r
      have ew := ints_back hl q
      subst ew
      refine .inl ⟨a, ns, by rw [e], SqT.of hs, fun ns' p h1 h2 hp => ?_⟩
      rw [srt_is h1 h2]
      exact h.made F hp (newL (C := cf X T W) F hp (Rps.of_ints _))
    · exact h.elim
  · rename_i x _
    obtain ⟨v, rfl, r⟩ := Paired.one ra
    split at h
    · rename_i ns hl
      obtain ⟨a, e, hs⟩ := intsOf_at hl r
      refine .inr ⟨a, ns, by rw [e], SqL.of hs, fun ns' p h1 h2 hp => ?_⟩
      rw [srt_is h1 h2]
      exact h.made F hp (newL (C := cf X T W) F hp (Rps.of_ints _))
    · exact h.elim
  · exact h.elim
/-- {} as a thing -/
def eDk : Sm Ev := fun _ M => .ok (.d (.dK [] [])) M
theorem de_dk : PE X (.Dict [] [] pos) (tE (cf X T W) eDk) := by
  refine ⟨fun pins s σ H Q I q => pe_dnewK.run pins s σ H Q I ?_⟩
  obtain ⟨H0, A, m, M, ρ, P, F, q⟩ := q
  exact fun p hp => q.made F hp ⟨p, [], rfl, upd_same, rfl, F.new hp, rfl⟩
/-- enumerate, tuples too -/
def enumA (k : Bool) (xs : List Ev) : Option (List D) := match xs with
  | [.d (.tup l)] => some (pairL l)
  | [x] => (itemsOf k x).map pairL
  | _ => none
theorem wk_enumT {C : Cf} {m : List Addr} {Rch : List Addr → Hp → Prop} {a : Addr} {l : List D} {vs : List V} (hl : vs.length = l.length) (st : ∀ A' H2, Rch A' H2 → H2 a = some (.tup vs) ∧ Rps C.K A' m H2 l vs) : Wk C m Rch (pairL l) (IteT C.K a) := by
  refine ⟨fun A' H2 hr i d hd => ?_, fun A' H2 hr => ?_⟩
  · obtain ⟨x, hx, rfl⟩ := pairL_get hd
    obtain ⟨h2, q⟩ := st A' H2 hr
    obtain ⟨u, e1, e2⟩ := Rps.get q hx
    refine ⟨⟨vs, u, SqT.of h2, e1⟩, fun y H3 hy => ?_⟩
    obtain ⟨p, z, rfl, hp, rfl, hz⟩ := hy
    have e3 := hz vs (SqT.of h2)
    rw [e1] at e3; cases e3
    exact ⟨.inr ⟨p, _, hp, rfl⟩, pair_new hp rfl e2⟩
  · obtain ⟨h2, q⟩ := st A' H2 hr
    exact ⟨vs, SqT.of h2, by rw [pairL_len, hl]; exact Nat.le_refl _⟩
theorem di_enumA {elts : List Expr} {kk : Nat} {tpos : Pos} (hg : Gl X "enumerate") (hm : X.mg "enumerate" = none) (ha : PA X [e] (tA (cf X T W) fs)) (hs : starEach [e] X.env = [(false, eval e X.env)] := by rfl) : PI X (.Tuple elts kk tpos) (.Call (.Name "enumerate" p) [e] [] pos) (tI (cf X T W) k (iO (enumA k) fs)) := by
  refine ⟨fun pins s σ H G I q => (pi_enumA hg hm ha hs).run pins s σ H G I ?_⟩
  obtain ⟨H0, A, m, M, ρ, P, F, q⟩ := q
  refine di_O F q fun xs items M1 H1 vs F1 r1 e q1 => ?_
  unfold enumA at e
  split at e
  · rename_i l
    cases e
    obtain ⟨v, rfl, r⟩ := Paired.one r1
    obtain ⟨a, vs, ev, hl, len, st⟩ := tup_stays (k := k) F1 r
    exact ⟨a, vs, by rw [ev], .inl ⟨SqT.of hl, q1 _ (wk_enumT len st)⟩⟩
  · rename_i x hx
    obtain ⟨v, rfl, r⟩ := Paired.one r1
    cases e2 : itemsOf k x with
    | none => rw [e2] at e; cases e
    | some l =>
      rw [e2] at e
      cases e
      obtain ⟨a, vs, ev, hl, len, st⟩ := list_stays F1 (fun ⟨l, z⟩ => hx l (by rw [z])) e2 r
      exact ⟨a, vs, by rw [ev], .inr ⟨SqL.of hl, q1 _ (wk_enum len st)⟩⟩
  · cases e
end
end DL

set_option Elab.async false
set_option linter.all false
set_option maxRecDepth 100000
set_option maxHeartbeats 2000000
/-! The data layer: rows of new lists. -/
namespace DL
open PySem PySem.Spec PyProof.Rows L2
def lcR (g : Tgt) (vs : List Nat) (f : Sm (List D)) (ρ : Env) : List (List D) → List D → Mem → R (List (List D))
  | acc, [], M => .ok acc M
  | acc, d :: r, M => match tgE g (wipeE ρ vs) d with
    | some ρ1 => bnd (noX (f ρ1 M)) fun row M2 => lcR g vs f ρ (acc ++ [row]) r M2
    | none => .stuck
def nRows (it : Sm (List D)) (g : Tgt) (vs : List Nat) (f : Sm (List D)) : Sm Ev := fun ρ M => bnd (it ρ M) fun items M1 => if items.length ≤ most then bnd (lcR g vs f ρ [] items M1) (fun rows M2 => .ok (.rw .own rows) M2) else .stuck
theorem lcR_noX {g : Tgt} {vs : List Nat} {f : Sm (List D)} {ρ : Env} : ∀ (its : List D) (acc : List (List D)) (M : Mem), NoE (lcR g vs f ρ acc its M)
  | [], acc, M => trivial
  | d :: r, acc, M => by
    unfold lcR
    cases tgE g (wipeE ρ vs) d with
    | none => trivial
    | some ρ1 => exact NoE.bnd fun y M2 => lcR_noX r _ M2
theorem RowsR.app {K : PySem.W.Frag} {A m : List Addr} {H : Hp} : ∀ {rows rows' : List (List D)} {vs vs' : List V} {P P' : List Addr}, RowsR K A m H rows vs P → RowsR K A m H rows' vs' P' → RowsR K A m H (rows ++ rows') (vs ++ vs') (P ++ P')
  | [], _, _, _, _, _, ⟨e, eP⟩, h => by rw [e, eP]; exact h
  | row :: rows, _, vs, _, P, _, ⟨b, ws, r, P1, e, eP, hb, hr, ht⟩, h => ⟨b, ws, r ++ _, P1 ++ _, by rw [e]; rfl, by rw [eP]; rfl, hb, hr, RowsR.app ht h⟩
def GdR (Z : List (List D) → Mem → Prop) (r : R (List (List D))) : Prop := match r with
  | .ok l M => Z l M
  | _ => False
section
variable {X : Cx} {T : List (Addr × Str)} {W : WX}
theorem lcR_run {it : Sm (List D)} {tgt : Tgt} {vs : List Nat} {f : Sm (List D)} (hv : ∀ i ∈ tgt.slots, i ∈ vs) {σ : L2.St} {H : Hp} {Q : VK} (q : tN (cf X T W) (nRows it tgt vs f) σ H Q) : tLc (tI (cf X T W) true it) (tgG X.K tgt) (tT (cf X T W0) tYesE) (tF (cf X T W0) f) vs σ H Q := by
  obtain ⟨H0, A, m, M, ρ, P, F, q⟩ := q
  refine ⟨H0, A, m, M, ρ, P, F, ?_⟩
  unfold nRows at q
  cases e : it ρ M with
  | stuck => rw [e] at q; exact q.elim
  | exc c g M1 => rw [e] at q; exact q
  | ok items M1 =>
    rw [e, bnd_ok] at q
    intro J H1 s w tb Wl La nD
    have F1 := F.step s w tb
    have hLm : La ∉ m := fun z => by obtain ⟨o, e, _⟩ := F1.wr.aok La z; rw [nD] at e; cases e
    have lv01 : ∀ {p : Addr}, ¬ Lv H1 p → ¬ Lv H p := fun {p} h z => by
      by_cases hm : p ∈ m
      · obtain ⟨o, e, mu⟩ := F1.wr.aok p hm; exact h ⟨o, e, muta_tbl mu⟩
      · exact h (s.lv z hm)
    by_cases hc : items.length ≤ most
    · rw [if_pos hc] at q
      have q' : GdR (fun rows M' => PN (cf X T W) m H0 A H σ (.ok (.rw .own rows) M') Q) (lcR tgt vs f ρ [] items M1) := by
        cases e2 : lcR tgt vs f ρ [] items M1 with
        | stuck => rw [e2] at q; exact q
        | exc c g M2 => have z := lcR_noX (g := tgt) (vs := vs) (f := f) (ρ := ρ) items [] M1; rw [e2] at z; exact z.elim
        | ok l M2 => rw [e2] at q; exact q
      have G0 : FR (cf X T W0) H0 (La :: A) m M1 (upd H1 La (.lst [])) ρ σ P := (F1.more nD (o := .lst []) trivial).wish rfl rfl
      refine ⟨fun i k H2 => k + i = items.length ∧ ∃ Ai Pi M2 rows accV, RchC A m H1 Ai H2 ∧ FR (cf X T W0) H0 Ai m M2 H2 ρ σ P ∧ H2 La = some (.lst accV) ∧ RowsR X.K Ai m H2 rows accV Pi ∧ (La :: Pi).Nodup ∧ (∀ a ∈ La :: Pi, a ∈ Ai ∧ ¬ Lv H1 a) ∧ rows.length ≤ i ∧
        GdR (fun rows M' => PN (cf X T W) m H0 A H σ (.ok (.rw .own rows) M') Q) (lcR tgt vs f ρ rows (items.drop i) M2),
        ⟨items.length, by simp, La :: A, [], M1, [], [], ⟨fun a ha => (List.mem_cons.mp ha).elim (fun z => .inr (by rw [z]; exact not_lv_of nD)) .inl, fun a ha => List.mem_cons_of_mem _ ha, Stp.upd nD⟩, G0, upd_same, ⟨rfl, rfl⟩, by simp, fun a ha => by
          rw [List.mem_singleton.mp ha]; exact ⟨List.mem_cons_self, not_lv_of nD⟩, Nat.le_refl _, by simpa using q'⟩, fun i k H2 h => ?_⟩
      obtain ⟨hk, Ai, Pi, M2, rows, accV, hr, F2, hL, rR, nd, ow, la, q2⟩ := h
      cases k with
      | zero =>
        have hi : i = items.length := by omega
        subst hi
        rw [List.drop_length] at q2
        have q3 : PN (cf X T W) m H0 A H σ (.ok (.rw .own rows) M2) Q := q2
        refine .inl ⟨Wl.stop Ai H2 hr, q3 Ai (La :: Pi) H2 (.ref La) ⟨fun a ha => (hr.1 a ha).imp id lv01, hr.2.1, s.trans hr.2.2⟩ F2.wr F2.tb F2.aok ⟨La, accV, Pi, rfl, hL, rfl, rR⟩ nd fun p hp => ⟨(ow p hp).1, lv01 (ow p hp).2⟩⟩
      | succ k =>
        have hi : i < items.length := by omega
        have ed : items.drop i = items[i] :: items.drop (i + 1) := List.drop_eq_getElem_cons hi
        rw [ed] at q2
        obtain ⟨hgo, hy⟩ := Wl.go Ai H2 hr i items[i] (List.getElem?_eq_getElem hi)
        refine .inr ⟨hgo, fun H' => ∃ Ai Pi M2 rows accV, RchC A m H1 Ai H' ∧ FR (cf X T W0) H0 Ai m M2 H' ρ σ P ∧ H' La = some (.lst accV) ∧ RowsR X.K Ai m H' rows accV Pi ∧ (La :: Pi).Nodup ∧ (∀ a ∈ La :: Pi, a ∈ Ai ∧ ¬ Lv H1 a) ∧ rows.length ≤ i + 1 ∧
          GdR (fun rows M' => PN (cf X T W) m H0 A H σ (.ok (.rw .own rows) M') Q) (lcR tgt vs f ρ rows (items.drop (i + 1)) M2),
          fun H' h => ⟨k, Nat.lt_succ_self k, by omega, h⟩, fun v H3 hv3 => ?_⟩
        obtain ⟨h3, r3⟩ := hy v H3 hv3
        have F3 : FR (cf X T W0) H0 Ai m M2 H3 ρ σ P ∧ Stp m H2 H3 := by
          rcases h3 with rfl | ⟨p, o, hp, rfl⟩
          · exact ⟨F2, Stp.refl _ _⟩
          · exact ⟨F2.grow hp, Stp.upd hp⟩
        unfold lcR at q2
        split at q2
        · rename_i ρ1 h1
          refine tg_blk F3.1 hv r3 h1 fun σ' P' F4 hw => ⟨hw, ?_⟩
          refine ⟨H0, Ai, m, M2, ρ1, P', F4, ?_⟩
          intro H5 b s5 w5 t5 r5
          cases (show true = b from r5)
          rw [if_pos rfl]
          have F5 := F4.step s5 w5 t5
          refine ⟨H0, Ai, m, M2, ρ1, P', F5, ?_⟩
          cases e2 : f ρ1 M2 with
          | stuck => rw [e2] at q2; exact q2.elim
          | exc c g M6 => rw [e2] at q2; exact q2.elim
          | ok row M6 =>
            rw [e2] at q2
            intro H6 p ws s6 w6 t6 n6 hp6 r6
            have s26 : Stp m H2 H6 := (F3.2.trans s5).trans s6
            have hLm6 : H6 La = some (.lst accV) := s26 La _ hL hLm lst_tbl
            have n2 : ¬ Lv H2 p := fun z => n6 (by
              by_cases hm : p ∈ m
              · obtain ⟨o, e, mu⟩ := F5.wr.aok p hm; exact ⟨o, e, muta_tbl mu⟩
              · exact (F3.2.trans s5).lv z hm)
            have n1 : ¬ Lv H1 p := fun z => n2 (by
              by_cases hm : p ∈ m
              · obtain ⟨o, e, mu⟩ := F2.wr.aok p hm; exact ⟨o, e, muta_tbl mu⟩
              · exact hr.2.2.lv z hm)
            obtain ⟨nA, nm, nP, n0⟩ := F2.not_live n2
            have rch : RchC Ai m H2 (p :: Ai) H6 := ⟨fun a ha => (List.mem_cons.mp ha).elim (fun z => .inr (by rw [z]; exact n2)) .inl, fun a ha => List.mem_cons_of_mem _ ha, s26⟩
            have k6 : AOk (p :: Ai) H6 := fun a ha => by
              rcases List.mem_cons.mp ha with z | z
              · exact ⟨.lst ws, by rw [z]; exact hp6, trivial⟩
              · exact (F2.step s26 w6 t6).aok a z
            have F6 : FR (cf X T W0) H0 (p :: Ai) m M6 H6 ρ σ P := F2.gro rch w6 t6 k6
            have hLA : La ∈ Ai := (ow La List.mem_cons_self).1
            have hLP : La ∉ P := fun z => (not_in_A F1.aok (not_lv_of nD)) (by
              have hz := (F1.own La z).1
              exact hz)
            have h0 : ¬ Lv H0 La := F1.h0 nD
            have F7 := F6.write (a := La) (o' := .lst (accV ++ [.ref p])) (List.mem_cons_of_mem _ hLA) hLm hLP h0 hLm6 trivial trivial
            have neL : p ≠ La := fun z => nA (by rw [z]; exact hLA)
            have rr6 : RowsR X.K (p :: Ai) m H6 rows accV Pi := RowsR.step F2.wr.aok (fun a ha => List.mem_cons_of_mem _ (F2.ma a ha)) s26 (fun a ha => by
              have := (ow a (List.mem_cons_of_mem _ ha)).2
              exact fun z => by
                obtain ⟨o, e, mu⟩ := F1.wr.aok a z
                exact this ⟨o, e, muta_tbl mu⟩) (RowsR.avoid rch.1 rR)
            have rr7 : RowsR X.K (p :: Ai) m (upd H6 La (.lst (accV ++ [.ref p]))) (rows ++ [row]) (accV ++ [.ref p]) (Pi ++ [p]) := by
              refine RowsR.step (B := [La]) (aok_one hLm6 trivial) (fun x hx => by rw [List.mem_singleton.mp hx]; exact List.mem_cons_of_mem _ hLA) stp_upd (fun a ha z => ?_) (RowsR.app rr6 ⟨p, ws, [], [], rfl, rfl, hp6, r6, rfl, rfl⟩)
              have ez := List.mem_singleton.mp z
              rcases List.mem_append.mp ha with y | y
              · exact (List.nodup_cons.mp nd).1 (by rw [← ez]; exact y)
              · exact neL (by rw [← List.mem_singleton.mp y]; exact ez)
            have lenV : accV.length = rows.length := RowsR.len rR
            refine ⟨accV, hLm6, by have := most_line hc; omega, p :: Ai, Pi ++ [p], M6, rows ++ [row], accV ++ [.ref p], ⟨fun a ha => ?_, fun a ha => List.mem_cons_of_mem _ (hr.2.1 a ha), fun a o ea na ta => ?_⟩, F7, upd_same, rr7, ?_, fun a ha => ?_, by simp; omega, q2⟩
            · rcases List.mem_cons.mp ha with z | z
              · exact .inr (by rw [z]; exact n1)
              · exact hr.1 a z
            · have hne : a ≠ La := fun z => by rw [z, nD] at ea; cases ea
              rw [upd_ne hne]
              exact s26 a o (hr.2.2 a o ea na ta) na ta
            · rw [← List.cons_append, List.nodup_append]
              exact ⟨nd, by simp, fun a ha b hb z => nA (by rw [List.mem_singleton.mp hb] at z; rw [← z]; exact (ow a ha).1)⟩
            · rw [← List.cons_append] at ha
              rcases List.mem_append.mp ha with z | z
              · exact ⟨List.mem_cons_of_mem _ (ow a z).1, (ow a z).2⟩
              · rw [List.mem_singleton.mp z]; exact ⟨List.mem_cons_self, n1⟩
        · exact q2.elim
    · rw [if_neg hc] at q; exact q.elim
theorem ds_rows {i : Nat} {y : Str} {py pos : Pos} {elt tg iter : Expr} {scope : Scope} {own : List (Str × Nat)} {spos : Pos} {it : Sm (List D)} {tgt : Tgt} {f : Sm (List D)} (hc : X.calm = true) (hN : X.N.Nodup) (hi : PI X tg iter (tI (cf X T W) true it)) (ok : BlkOk X.N X.env.scope scope own)
    (hg : ∀ (s : Shared) (H : Hp) (C : Addr) (cl : List (Str × Addr)) (fp : List Addr), PG (X.blk s H scope (compEnvC scope cl C X.env) fp) tg (tgG X.K tgt)) (he : ∀ (s : Shared) (H : Hp) (C : Addr) (cl : List (Str × Addr)) (fp : List Addr), PE (X.blk s H scope (compEnvC scope cl C X.env) fp) elt (tF (cf X T W0) f))
    (hsw : swapsWith (.ListComp elt [⟨tg, iter, [], 0⟩] scope pos) (some (.Name y py)) spos.line X.env = pure true) (hy : X.N[i]? = some y := by rfl) (hyl : X.env.scope.names.lookup y = some .local := by rfl) (hv : ∀ i ∈ tgt.slots, i ∈ own.map (·.2) := by decide) (hs : ∀ x, foldedSetIterable iter X.env x = pure x := by intro _; rfl) :
    PS X (.Assign [.Name y py] (.ListComp elt [⟨tg, iter, [], 0⟩] scope pos) spos) (tS (cf X T W) (sSetN i (nRows it tgt (own.map (·.2)) f))) :=
  ⟨fun pins s σ H Dn I q => (ps_setLc hc hN hy hyl hsw hi ok hg (fun s H C cl fp => dts_nil (X := X.blk s H scope (compEnvC scope cl C X.env) fp)) he hs).run pins s σ H Dn I (lcR_run hv (setN_run q))⟩
end
end DL

set_option Elab.async false
set_option linter.all false
set_option maxRecDepth 100000
set_option maxHeartbeats 2000000
/-! The data layer: the built-ins' names. -/
namespace DL
open PySem PySem.Spec PyProof.Rows L2
theorem bo_len : bootBuiltins ("len" : Str) = some (.builtin "len") := by kernel_rfl
theorem bo_abs : bootBuiltins ("abs" : Str) = some (.builtin "abs") := by kernel_rfl
theorem bo_max : bootBuiltins ("max" : Str) = some (.builtin "max") := by kernel_rfl
theorem bo_min : bootBuiltins ("min" : Str) = some (.builtin "min") := by kernel_rfl
theorem bo_sum : bootBuiltins ("sum" : Str) = some (.builtin "sum") := by kernel_rfl
theorem bo_all : bootBuiltins ("all" : Str) = some (.builtin "all") := by kernel_rfl
theorem bo_any : bootBuiltins ("any" : Str) = some (.builtin "any") := by kernel_rfl
theorem bo_isinstance : bootBuiltins ("isinstance" : Str) = some (.builtin "isinstance") := by kernel_rfl
theorem bo_sorted : bootBuiltins ("sorted" : Str) = some (.builtin "sorted") := by kernel_rfl
theorem bo_int : bootBuiltins ("int" : Str) = some (.type "int") := by kernel_rfl
theorem bo_bool : bootBuiltins ("bool" : Str) = some (.type "bool") := by kernel_rfl
theorem bo_str : bootBuiltins ("str" : Str) = some (.type "str") := by kernel_rfl
theorem bo_tuple : bootBuiltins ("tuple" : Str) = some (.type "tuple") := by kernel_rfl
theorem bo_list : bootBuiltins ("list" : Str) = some (.type "list") := by kernel_rfl
theorem bo_dict : bootBuiltins ("dict" : Str) = some (.type "dict") := by kernel_rfl
theorem bo_set : bootBuiltins ("set" : Str) = some (.type "set") := by kernel_rfl
theorem bo_float : bootBuiltins ("float" : Str) = some (.type "float") := by kernel_rfl
end DL

set_option Elab.async false
set_option linter.all false
set_option maxRecDepth 100000
set_option maxHeartbeats 2000000
/-! The data layer's readings, plainly: loops, comprehensions. -/
namespace DL
open PySem PySem.Spec PyProof.Rows L2
theorem forL_inv {g : Tgt} {f : Ss} (Inv : Nat → Env → Mem → Prop) : ∀ (items : List D) (k : Nat) (ρ : Env) (M : Mem),
    (∀ i d ρ M, items[i]? = some d → Inv (k + i) ρ M → ∃ ρ1 ρ' M', tgE g ρ d = some ρ1 ∧ f ρ1 M = .nx ρ' M' ∧ Inv (k + i + 1) ρ' M') → Inv k ρ M → ∃ ρ' M', forL g f items ρ M = .nx ρ' M' ∧ Inv (k + items.length) ρ' M'
  | [], k, ρ, M, _, h => ⟨ρ, M, rfl, h⟩
  | d :: r, k, ρ, M, hs, h => by
    obtain ⟨ρ1, ρ', M', e1, e2, h'⟩ := hs 0 d ρ M rfl h
    obtain ⟨ρ2, M2, e3, h2⟩ := forL_inv Inv r (k + 1) ρ' M' (fun i d ρ M hd hi => by
      have := hs (i + 1) d ρ M (by simpa using hd) (by rw [show k + (i + 1) = k + 1 + i by omega]; exact hi)
      rw [show k + (i + 1) + 1 = k + 1 + i + 1 by omega] at this
      exact this) h'
    refine ⟨ρ2, M2, ?_, by rw [List.length_cons, show k + (r.length + 1) = k + 1 + r.length by omega]; exact h2⟩
    simp only [forL, e1, e2, e3]
theorem sWhile_inv {tc : Sm Bool} {f : Ss} (Inv : Nat → Env → Mem → Prop) (Post : Env → Mem → Prop)
    (hs : ∀ m ρ M, Inv m ρ M → (∃ M1, tc ρ M = .ok false M1 ∧ Post ρ M1) ∨ ∃ M1 ρ' M' m', tc ρ M = .ok true M1 ∧ f ρ M1 = .nx ρ' M' ∧ m' < m ∧ Inv m' ρ' M') :
    ∀ (n m : Nat) (ρ : Env) (M : Mem), m < n → Inv m ρ M → ∃ ρ' M', sWhile tc f n ρ M = .nx ρ' M' ∧ Post ρ' M'
  | 0, m, ρ, M, hn, _ => by omega
  | n + 1, m, ρ, M, hn, h => by
    rcases hs m ρ M h with ⟨M1, e1, hp⟩ | ⟨M1, ρ', M', m', e1, e2, hm, h'⟩
    · refine ⟨ρ, M1, ?_, hp⟩
      simp [sWhile, e1, sE]
    · obtain ⟨ρ2, M2, e3, hp⟩ := sWhile_inv Inv Post hs n m' ρ' M' (by omega) h'
      refine ⟨ρ2, M2, ?_, hp⟩
      simp only [sWhile, e1, e2, e3, sE, if_true]
theorem lcL_inv {g : Tgt} {vs : List Nat} {t : Sm Bool} {f : Sm Ev} {ρ : Env} (Inv : Nat → List D → Mem → Prop) : ∀ (items : List D) (k : Nat) (acc : List D) (M : Mem),
    (∀ i d acc M, items[i]? = some d → Inv (k + i) acc M → ∃ ρ1 b M1, tgE g (wipeE ρ vs) d = some ρ1 ∧ t ρ1 M = .ok b M1 ∧ ((b = true ∧ ∃ y M2, f ρ1 M1 = .ok (.d y) M2 ∧ Inv (k + i + 1) (acc ++ [y]) M2) ∨ (b = false ∧ Inv (k + i + 1) acc M1))) →
    Inv k acc M → ∃ l M', lcL g vs t f ρ acc items M = .ok l M' ∧ Inv (k + items.length) l M'
  | [], k, acc, M, _, h => ⟨acc, M, rfl, h⟩
  | d :: r, k, acc, M, hs, h => by
    have step : ∀ i d acc M, r[i]? = some d → Inv (k + 1 + i) acc M → ∃ ρ1 b M1, tgE g (wipeE ρ vs) d = some ρ1 ∧ t ρ1 M = .ok b M1 ∧ ((b = true ∧ ∃ y M2, f ρ1 M1 = .ok (.d y) M2 ∧ Inv (k + 1 + i + 1) (acc ++ [y]) M2) ∨ (b = false ∧ Inv (k + 1 + i + 1) acc M1)) := fun i d acc M hd hi => by
      have := hs (i + 1) d acc M (by simpa using hd) (by rw [show k + (i + 1) = k + 1 + i by omega]; exact hi)
      rw [show k + (i + 1) + 1 = k + 1 + i + 1 by omega] at this
      exact this
    obtain ⟨ρ1, b, M1, e1, e2, h2⟩ := hs 0 d acc M rfl h
    rcases h2 with ⟨rfl, y, M2, e3, h'⟩ | ⟨rfl, h'⟩
    · obtain ⟨l, M', e4, h4⟩ := lcL_inv Inv r (k + 1) (acc ++ [y]) M2 step h'
      refine ⟨l, M', ?_, by rw [List.length_cons, show k + (r.length + 1) = k + 1 + r.length by omega]; exact h4⟩
      simp only [lcL, e1, e2, e3, e4, noX, bnd, if_true]
    · obtain ⟨l, M', e4, h4⟩ := lcL_inv Inv r (k + 1) acc M1 step h'
      refine ⟨l, M', ?_, by rw [List.length_cons, show k + (r.length + 1) = k + 1 + r.length by omega]; exact h4⟩
      simp only [lcL, e1, e2, e4, noX, bnd, Bool.false_eq_true, if_false]
/-- each item told by a function, nothing else changes -/
theorem lcL_map {g : Tgt} {vs : List Nat} {f : Sm Ev} {ρ : Env} {M : Mem} (y : D → D) (items : List D) (hs : ∀ d ∈ items, ∃ ρ1, tgE g (wipeE ρ vs) d = some ρ1 ∧ f ρ1 M = .ok (.d (y d)) M) : lcL g vs tYesE f ρ [] items M = .ok (items.map y) M := by
  obtain ⟨l, M', e, h1, h2⟩ := lcL_inv (g := g) (vs := vs) (t := tYesE) (f := f) (ρ := ρ) (fun i acc M' => acc = (items.take i).map y ∧ M' = M) items 0 [] M (fun i d acc M1 hd hi => by
    obtain ⟨e1, e2⟩ := hi
    subst e2
    obtain ⟨ρ1, h1, h2⟩ := hs d (List.mem_of_getElem? hd)
    refine ⟨ρ1, true, M1, h1, rfl, .inl ⟨rfl, y d, M1, h2, ?_, rfl⟩⟩
    rw [e1, Nat.zero_add, List.take_add_one, hd, List.map_append]
    rfl) ⟨rfl, rfl⟩
  rw [e, h1, h2, Nat.zero_add, List.take_length]
theorem lcR_map {g : Tgt} {vs : List Nat} {f : Sm (List D)} {ρ : Env} {M : Mem} (row : List D) : ∀ (items : List D) (acc : List (List D)), (∀ d ∈ items, ∃ ρ1, tgE g (wipeE ρ vs) d = some ρ1 ∧ f ρ1 M = .ok row M) → lcR g vs f ρ acc items M = .ok (acc ++ List.replicate items.length row) M
  | [], acc, _ => by simp [lcR]
  | d :: r, acc, hs => by
    obtain ⟨ρ1, e1, e2⟩ := hs d List.mem_cons_self
    simp only [lcR, e1, e2, noX, bnd]
    rw [lcR_map row r _ fun d hd => hs d (List.mem_cons_of_mem _ hd), List.append_assoc, List.length_cons, List.replicate_succ]
    rfl
theorem rangeL_len (lo : Int) (n : Nat) (c : Int) : (rangeL lo n c).length = n := by unfold rangeL; simp
theorem rangeL_get {lo : Int} {n : Nat} {c : Int} {i : Nat} {d : D} (h : (rangeL lo n c)[i]? = some d) : i < n ∧ d = .int (lo + (i : Int) * c) := by
  unfold rangeL at h
  rw [List.getElem?_map] at h
  by_cases hi : i < n
  · rw [List.getElem?_range hi] at h
    exact ⟨hi, (Option.some.inj h).symm⟩
  · rw [List.getElem?_eq_none (by simpa using hi)] at h; cases h
theorem atI_get' {α : Type} (l : List α) (i : Nat) : atI l (i : Int) = l[i]? := by
  unfold atI ixN
  by_cases h : i < l.length
  · rw [if_pos (by omega), if_pos (by omega)]; simp
  · rw [if_pos (by omega), if_neg (by omega)]
    simp at h
    simp [h]
theorem ixN_nat {n i : Nat} (h : i < n) : ixN n (i : Int) = some i := by
  unfold ixN
  rw [if_pos (by omega), if_pos (by omega)]; simp
/-- slot i holds x -/
def At (ρ : Env) (i : Nat) (x : Ev) : Prop := ρ[i]? = some (some x)
theorem At.ne {ρ : Env} {i j : Nat} {x : Ev} {y : Option Ev} (h : At ρ i x) (hj : j ≠ i) : At (ρ.set j y) i x := by
  unfold At; rw [List.getElem?_set_ne hj]; exact h
theorem At.eq {ρ : Env} {i : Nat} {x : Ev} (h : i < ρ.length) : At (ρ.set i (some x)) i x := by
  unfold At; rw [List.getElem?_set_self h]
theorem At.lt {ρ : Env} {i : Nat} {x : Ev} (h : At ρ i x) : i < ρ.length := (List.getElem?_eq_some_iff.mp h).1
theorem At.v {ρ : Env} {i : Nat} {x : Ev} {M : Mem} (h : At ρ i x) : eVar i ρ M = .ok (look x) M := by
  unfold At at h; simp only [eVar, h]
section
variable {ρ ρ' : Env} {M M' M'' : Mem} {f g : Ss} {t u : Sm Bool} {e e' : Sm Ev} {d : D} {x y : Ev} {c : Str} {fld : Option (Str × D)} {i : Nat} {es : Sm (List Ev)} {xs : List Ev}
theorem q_nx (h : f ρ M = .nx ρ' M') : sSeq f g ρ M = g ρ' M' := by simp only [sSeq, h]
theorem q_rt (h : f ρ M = .rt d M') : sSeq f g ρ M = .rt d M' := by simp only [sSeq, h]
theorem q_exc (h : f ρ M = .exc c fld ρ' M') : sSeq f g ρ M = .exc c fld ρ' M' := by simp only [sSeq, h]
theorem q_if1 (h : t ρ M = .ok true M') : sIf t f g ρ M = f ρ M' := by simp only [sIf, sE, h, if_true]
theorem q_if0 (h : t ρ M = .ok false M') : sIf t f g ρ M = g ρ M' := by simp only [sIf, sE, h, Bool.false_eq_true, if_false]
theorem q_skip (h : t ρ M = .ok false M') : sIf t f sNext ρ M = .nx ρ M' := by rw [q_if0 h]; rfl
theorem q_ret (h : e ρ M = .ok x M') (hx : retD x = some d) : sRet e ρ M = .rt d M' := by simp only [sRet, sE, h, hx]
theorem q_or1 (h : t ρ M = .ok true M') : bOr t u ρ M = .ok true M' := by simp only [bOr, bnd, h, if_true]
theorem q_or0 (h : t ρ M = .ok false M') : bOr t u ρ M = u ρ M' := by simp only [bOr, bnd, h, Bool.false_eq_true, if_false]
theorem q_and1 (h : t ρ M = .ok true M') : bAnd t u ρ M = u ρ M' := by simp only [bAnd, bnd, h, if_true]
theorem q_and0 (h : t ρ M = .ok false M') : bAnd t u ρ M = .ok false M' := by simp only [bAnd, bnd, h, Bool.false_eq_true, if_false]
theorem q_not {b : Bool} (h : t ρ M = .ok b M') : bNot t ρ M = .ok (!b) M' := by simp only [bNot, bnd, h]
theorem q_eand1 (h : e ρ M = .ok x M') (hx : truth x = some true) : eAnd e e' ρ M = e' ρ M' := by simp only [eAnd, bnd, h, hx]
theorem q_eand0 (h : e ρ M = .ok x M') (hx : truth x = some false) : eAnd e e' ρ M = .ok x M' := by simp only [eAnd, bnd, h, hx]
theorem q_set (h : e ρ M = .ok x M') (hx : stor x = some y) (hi : i < ρ.length) : sAsg i e ρ M = .nx (ρ.set i (some y)) M' := by simp only [sAsg, sE, h, hx, if_pos hi]
theorem q_setN (h : e ρ M = .ok x M') (hi : i < ρ.length) : sSetN i e ρ M = .nx (ρ.set i (some x)) M' := by simp only [sSetN, sE, h, if_pos hi]
theorem q_bin {o : Ev → Ev → Mem → R Ev} (h : e ρ M = .ok x M') (h' : e' ρ M' = .ok y M'') : eBin o e e' ρ M = o x y M'' := by simp only [eBin, bnd, h, h']
theorem q_cmp {o : Ev → Ev → Mem → R Ev} {b : Bool} (h : eBin o e e' ρ M = .ok (bv b) M') : tCmpE o e e' ρ M = .ok b M' := by simp only [tCmpE, asB, h, bnd]
theorem q_cons (h : e ρ M = .ok x M') (h' : es ρ M' = .ok xs M'') : aCons e es ρ M = .ok (x :: xs) M'' := by simp only [aCons, bnd, h, h']
theorem q_cons1 (h : e ρ M = .ok x M') : aCons e aNil ρ M = .ok [x] M' := by simp only [aCons, bnd, h, aNil]
theorem q_cons2 (h : e ρ M = .ok x M') (h' : e' ρ M' = .ok y M'') : aCons e (aCons e' aNil) ρ M = .ok [x, y] M'' := by simp only [aCons, bnd, h, h', aNil]
theorem q_B {o : List Ev → Mem → R Ev} (h : es ρ M = .ok xs M') : eB o es ρ M = o xs M' := by simp only [eB, bnd, h]
theorem q_call {F : Fn} {n : Nat} {ys : List Ev} (h : es ρ M = .ok xs M') (hp : passL xs = some ys) (hn : ys.length = n) (hF : F ys M' = .ok d M'') : eCall n F es ρ M = .ok (.d d) M'' := by simp only [eCall, bnd, h, hp, if_pos hn, hF]
theorem q_var (h : ρ[i]? = some (some x)) : eVar i ρ M = .ok (look x) M := by simp only [eVar, h]
end
theorem at_0 {α : Type} (a : α) (l : List α) : atI (a :: l) (0 : Int) = some a := by simp [atI, ixN]
theorem at_1 {α : Type} (a b : α) (l : List α) : atI (a :: b :: l) (1 : Int) = some b := by
  have := atI_get' (a :: b :: l) 1; simpa using this
theorem at_2 {α : Type} (a b c : α) (l : List α) : atI (a :: b :: c :: l) (2 : Int) = some c := by
  have := atI_get' (a :: b :: c :: l) 2; simpa using this
theorem at_3 {α : Type} (a b c d : α) (l : List α) : atI (a :: b :: c :: d :: l) (3 : Int) = some d := by
  have := atI_get' (a :: b :: c :: d :: l) 3; simpa using this
theorem at_4 {α : Type} (a b c d e : α) (l : List α) : atI (a :: b :: c :: d :: e :: l) (4 : Int) = some e := by
  have := atI_get' (a :: b :: c :: d :: e :: l) 4; simpa using this
theorem q_for {it : Sm (List D)} {g : Tgt} {f : Ss} {ρ : Env} {M M' : Mem} {items : List D} {r : SR} (h : it ρ M = .ok items M') (hf : forL g f items ρ M' = r) : sFor it g f ρ M = r := by simp only [sFor, sE, h, hf]
theorem tg1 {i : Nat} {ρ : Env} {d : D} (h : i < ρ.length) : tgE (.one i) ρ d = some (ρ.set i (some (.d d))) := by simp only [tgE, if_pos h]
theorem q_rng1 {f : Sm Ev} {ρ : Env} {M M' : Mem} {n : Nat} (hn : n ≤ 1000000) (e : f ρ M = .ok (.d (.int (n : Int))) M') : iO rng1 (aCons f aNil) ρ M = .ok (rangeL 0 n 1) M' := by
  have k : rngOk (n : Int) := by unfold rngOk; omega
  have e1 := q_cons1 e
  simp only [iO, e1, bnd, rng1, if_pos k, optR, Int.toNat_natCast]
theorem q_rng2 {f g : Sm Ev} {ρ : Env} {M M' M'' : Mem} {a n : Nat} (ha : a ≤ n) (hn : n ≤ 1000000) (e : f ρ M = .ok (.d (.int (a : Int))) M') (e' : g ρ M' = .ok (.d (.int (n : Int))) M'') : iO rng2 (aCons f (aCons g aNil)) ρ M = .ok (rangeL (a : Int) (n - a) 1) M'' := by
  have k : rngOk (a : Int) ∧ rngOk (n : Int) := by unfold rngOk; omega
  have e1 := q_cons2 e e'
  have e2 : ((n : Int) - (a : Int)).toNat = n - a := by omega
  simp only [iO, e1, bnd, rng2, if_pos k, optR, e2]
/-! ### the hand of the laws -/
structure Hd (cells : List Int) (B : Nat) (M : Mem) : Prop where
  ex : ∃ p v s c : Int, M = [.lst [.ob 1, .int p, .int v, .int s, .int c], .lst (cells.map D.int)] ∧ 0 ≤ p ∧ 0 ≤ v ∧ 0 ≤ s ∧ s < 2147483648 ∧ 0 ≤ c ∧ c ≤ B
end DL

set_option Elab.async false
set_option linter.all false
set_option maxRecDepth 100000
set_option maxHeartbeats 4000000
/-! The data layer: the laws' own draws. -/
namespace DL
open PySem PySem.Spec PyProof.Rows L2
def fnEnd : SR → R D
  | .nx _ M' => .ok .non M'
  | .rt d M' => .ok d M'
  | .exc c g _ M' => .exc c g M'
  | _ => .stuck
theorem fnOf_eq (n : Nat) (f : Ss) (xs : List Ev) (M : Mem) : fnOf n f xs M = fnEnd (f (xs.map some ++ List.replicate (n - xs.length) none) M) := by
  unfold fnOf fnEnd
  cases f (xs.map some ++ List.replicate (n - xs.length) none) M <;> rfl
def S_drA : Ss := (sIf (bAnd (tCmpE (opEq false) (eBin opIx (eVar 0) (eC (.int 2))) (eC (.int 0))) (tCmpE opLt (eBin opIx (eVar 0) (eC (.int 1))) (eB bLen (aCons (eBin opIx (eVar 0) (eC (.int 0))) aNil)))) (sSeq (sAsg 2 (eBin opIx (eBin opIx (eVar 0) (eC (.int 0))) (eBin opIx (eVar 0) (eC (.int 1))))) (sSeq (sPut 0 (eC (.int 1)) (eBin opAdd (eBin opIx (eVar 0) (eC (.int 1))) (eC (.int 1)))) (sSeq (sPut 0 (eC (.int 3)) (eBin opMod (eB bInt (aCons (eBin opAdd (eBin opAdd (eBin opMulA (eBin opIx (eVar 0) (eC (.int 3))) (eC (.int 69621))) (eBin opMulA (eVar 2) (eC (.int 40692)))) (eC (.int 23))) aNil)) (eC (.int 2147483629)))) (sIf (tCmpE opGe (eVar 2) (eBin opPow (eC (.int 10)) (eC (.int 18)))) (sPut 0 (eC (.int 2)) (eVar 2)) sNext)))) sNext)
def S_drB : Ss := (sIf (tCmpE opGt (eBin opIx (eVar 0) (eC (.int 2))) (eC (.int 0))) (sSeq (sAsg 3 (eBin opMod (eB bInt (aCons (eBin opIx (eVar 0) (eC (.int 2))) aNil)) (eVar 1))) (sSeq (sPut 0 (eC (.int 2)) (eBin opDiv (eBin opIx (eVar 0) (eC (.int 2))) (eVar 1))) (sRet (eVar 3)))) sNext)
def S_drC : Ss := (sSeq (sPut 0 (eC (.int 4)) (eBin opAdd (eBin opIx (eVar 0) (eC (.int 4))) (eC (.int 1)))) (sSeq (sAsg 4 (eBin opMod (eB bInt (aCons (eBin opMulA (eB bInt (aCons (eBin opAdd (eBin opIx (eVar 0) (eC (.int 3))) (eBin opMulA (eC (.int 7919)) (eBin opIx (eVar 0) (eC (.int 4))))) aNil)) (eC (.int 48271))) aNil)) (eC (.int 2147483647)))) (sSeq (sAsg 4 (eBin opMod (eB bInt (aCons (eBin opMulA (eVar 4) (eBin opAdd (eBin opDiv (eVar 4) (eC (.int 1009))) (eC (.int 69621)))) aNil)) (eC (.int 2147483647)))) (sSeq (sAsg 4 (eBin opMod (eB bInt (aCons (eBin opMulA (eVar 4) (eBin opAdd (eBin opDiv (eVar 4) (eC (.int 2003))) (eC (.int 40014)))) aNil)) (eC (.int 2147483563)))) (sRet (eBin opMod (eB bInt (aCons (eBin opDiv (eVar 4) (eC (.int 16))) aNil)) (eVar 1)))))))
def S_draw : Ss := sSeq S_drA (sSeq S_drB S_drC)
def F_draw : Fn := fnOf 5 S_draw
theorem cm64 {i j : Int} (h1 : -(2 ^ 64) < i) (h2 : i < 2 ^ 64) (h3 : -(2 ^ 64) < j) (h4 : j < 2 ^ 64) : cMul i j := by
  have a := intBits_le_64 h1 h2
  have b := intBits_le_64 h3 h4
  unfold cMul; omega
theorem cmW {i j : Int} (h1 : Builtin.Int.intBits i ≤ 1048576) (h3 : -(2 ^ 64) < j) (h4 : j < 2 ^ 64) : cMul i j := by
  have b := intBits_le_64 h3 h4
  unfold cMul; omega
theorem drC {cells : List Int} {B : Nat} {many : Int} (hB : B ≤ 1000000) (hm : 0 < many) (hm2 : many.natAbs.log2 < 9000) (x2 : Option Ev) (p v s c : Int) (hp : 0 ≤ p) (hv : 0 ≤ v) (hs1 : 0 ≤ s) (hs2 : s < 2147483648) (hc1 : 0 ≤ c) (hc2 : c ≤ B) :
    ∃ r M', fnEnd (S_drC [some (.d (.ob 0)), some (.d (.int many)), x2, none, none] [.lst [.ob 1, .int p, .int v, .int s, .int c], .lst (cells.map D.int)]) = .ok (.int r) M' ∧ 0 ≤ r ∧ r < many ∧ Hd cells (B + 1) M' := by
  have e1 : cMul 7919 (c + 1) := cm64 (by omega) (by omega) (by omega) (by omega)
  have e2 : cMul (s + 7919 * (c + 1)) 48271 := cm64 (by omega) (by omega) (by omega) (by omega)
  generalize hn : (s + 7919 * (c + 1)) * 48271 % 2147483647 = n1
  have b1 : 0 ≤ n1 ∧ n1 < 2147483647 := by rw [← hn]; exact ⟨Int.emod_nonneg _ (by omega), Int.emod_lt_of_pos _ (by omega)⟩
  have q1 : 0 ≤ n1 / 1009 ∧ n1 / 1009 ≤ n1 := ⟨Int.ediv_nonneg b1.1 (by omega), Int.ediv_le_self _ b1.1⟩
  have e3 : cMul n1 (n1 / 1009 + 69621) := cm64 (by omega) (by omega) (by omega) (by omega)
  generalize hn2 : n1 * (n1 / 1009 + 69621) % 2147483647 = n2
  have b2 : 0 ≤ n2 ∧ n2 < 2147483647 := by rw [← hn2]; exact ⟨Int.emod_nonneg _ (by omega), Int.emod_lt_of_pos _ (by omega)⟩
  have q2 : 0 ≤ n2 / 2003 ∧ n2 / 2003 ≤ n2 := ⟨Int.ediv_nonneg b2.1 (by omega), Int.ediv_le_self _ b2.1⟩
  have e4 : cMul n2 (n2 / 2003 + 40014) := cm64 (by omega) (by omega) (by omega) (by omega)
  have d1 : cDiv n1 1009 := ⟨by omega, by decide⟩
  have d2 : cDiv n2 2003 := ⟨by omega, by decide⟩
  have d3 : cDiv (n2 * (n2 / 2003 + 40014) % 2147483563) 16 := ⟨by omega, by decide⟩
  refine ⟨n2 * (n2 / 2003 + 40014) % 2147483563 / 16 % many, [.lst [.ob 1, .int p, .int v, .int s, .int (c + 1)], .lst (cells.map D.int)], ?_, Int.emod_nonneg _ (by omega), Int.emod_lt_of_pos _ hm, ⟨p, v, s, c + 1, rfl, hp, hv, hs1, hs2, by omega, by omega⟩⟩
  simp [fnEnd, S_drC, sSeq, sIf, sAsg, sPut, sRet, sE, sNext, tCmpE, asB, eBin, eVar, look, eC, eB, aCons, aNil, bnd, opIx, atI, ixN, opMod, opDiv, opMulA, opMul, bInt, stor, put2, putO, retD, D.bareL, D.bare, opAdd, e1, e2, hn, d1, e3, hn2, d2, e4, d3, hm]
theorem drB {cells : List Int} {B : Nat} {many : Int} (hB : B ≤ 1000000) (hm : 0 < many) (hm2 : many.natAbs.log2 < 9000) (x2 : Option Ev) (p v s c : Int) (hp : 0 ≤ p) (hv : 0 ≤ v) (hs1 : 0 ≤ s) (hs2 : s < 2147483648) (hc1 : 0 ≤ c) (hc2 : c ≤ B) :
    ∃ r M', fnEnd (sSeq S_drB S_drC [some (.d (.ob 0)), some (.d (.int many)), x2, none, none] [.lst [.ob 1, .int p, .int v, .int s, .int c], .lst (cells.map D.int)]) = .ok (.int r) M' ∧ 0 ≤ r ∧ r < many ∧ Hd cells (B + 1) M' := by
  by_cases hv0 : 0 < v
  · have e1 : cDiv v many := ⟨hm, hm2⟩
    refine ⟨v % many, [.lst [.ob 1, .int p, .int (v / many), .int s, .int c], .lst (cells.map D.int)], ?_, Int.emod_nonneg _ (by omega), Int.emod_lt_of_pos _ hm, ⟨p, v / many, s, c, rfl, hp, Int.ediv_nonneg hv (by omega), hs1, hs2, hc1, by omega⟩⟩
    simp [fnEnd, S_drB, sSeq, sIf, sAsg, sPut, sRet, sE, sNext, tCmpE, asB, eBin, eVar, look, eC, eB, aCons, aNil, bnd, opIx, atI, ixN, opMod, opDiv, bInt, stor, put2, putO, retD, D.bareL, D.bare, opI2, hv0, hm, e1]
  · have e0 : S_drB [some (.d (.ob 0)), some (.d (.int many)), x2, none, none] [.lst [.ob 1, .int p, .int v, .int s, .int c], .lst (cells.map D.int)] = .nx [some (.d (.ob 0)), some (.d (.int many)), x2, none, none] [.lst [.ob 1, .int p, .int v, .int s, .int c], .lst (cells.map D.int)] := by
      simp [S_drB, sIf, sE, sNext, tCmpE, asB, eBin, eVar, look, eC, bnd, opIx, atI, ixN, opI2, hv0]
    simp only [sSeq, e0]
    exact drC hB hm hm2 x2 p v s c hp hv hs1 hs2 hc1 hc2
theorem drA {cells : List Int} (hc : ∀ z ∈ cells, 0 ≤ z ∧ Builtin.Int.intBits z ≤ 1048576) {many : Int} (p v s c : Int) (hp : 0 ≤ p) (hv : 0 ≤ v) (hs1 : 0 ≤ s) (hs2 : s < 2147483648) :
    ∃ (x2 : Option Ev) (p' v' s' : Int), S_drA [some (.d (.ob 0)), some (.d (.int many)), none, none, none] [.lst [.ob 1, .int p, .int v, .int s, .int c], .lst (cells.map D.int)] = .nx [some (.d (.ob 0)), some (.d (.int many)), x2, none, none] [.lst [.ob 1, .int p', .int v', .int s', .int c], .lst (cells.map D.int)] ∧ 0 ≤ p' ∧ 0 ≤ v' ∧ 0 ≤ s' ∧ s' < 2147483648 := by
  by_cases h0 : v = 0
  · subst h0
    by_cases h1 : p < (cells.length : Int)
    · obtain ⟨z, hz⟩ : ∃ z, cells[p.toNat]? = some z := ⟨_, List.getElem?_eq_getElem (by omega)⟩
      obtain ⟨z1, z2⟩ := hc z (List.mem_of_getElem? hz)
      have at1 : atI (cells.map D.int) p = some (.int z) := by
        have e : p = (p.toNat : Int) := by omega
        rw [e, atI_get', List.getElem?_map, hz]; rfl
      have e1 : cMul s 69621 := cm64 (by omega) (by omega) (by omega) (by omega)
      have e2 : cMul z 40692 := cmW z2 (by omega) (by omega)
      have b1 : 0 ≤ (s * 69621 + z * 40692 + 23) % 2147483629 ∧ (s * 69621 + z * 40692 + 23) % 2147483629 < 2147483629 := ⟨Int.emod_nonneg _ (by omega), Int.emod_lt_of_pos _ (by omega)⟩
      have e3 : CPow 10 18 := ⟨by omega, by omega, by decide⟩
      have test : (bAnd (tCmpE (opEq false) (eBin opIx (eVar 0) (eC (.int 2))) (eC (.int 0))) (tCmpE opLt (eBin opIx (eVar 0) (eC (.int 1))) (eB bLen (aCons (eBin opIx (eVar 0) (eC (.int 0))) aNil)))) [some (.d (.ob 0)), some (.d (.int many)), none, none, none] [.lst [.ob 1, .int p, .int 0, .int s, .int c], .lst (cells.map D.int)] = .ok true [.lst [.ob 1, .int p, .int 0, .int s, .int c], .lst (cells.map D.int)] := by
        simp [bAnd, tCmpE, asB, eBin, eVar, look, eC, eB, aCons, aNil, bnd, opIx, at_0, at_1, at_2, opEq, eqR, opLt, opI2, bLen, h1]
      by_cases h2 : z < 1000000000000000000
      · have h2' : ¬ (1000000000000000000 ≤ z) := by omega
        refine ⟨some (.d (.int z)), p + 1, 0, (s * 69621 + z * 40692 + 23) % 2147483629, ?_, by omega, by omega, b1.1, by omega⟩
        simp only [S_drA, sIf, sE, test, if_true]
        simp [sIf, tCmpE, sSeq, sAsg, sPut, sE, sNext, asB, eBin, eVar, look, eC, eB, aCons, aNil, bnd, opIx, at_0, at_1, at_2, at_3, at_4, ixN, opMod, opMulA, opMul, bInt, stor, put2, putO, D.bareL, D.bare, opI2, opAdd, at1, e1, e2, e3, h2']
      · have h2' : 1000000000000000000 ≤ z := by omega
        refine ⟨some (.d (.int z)), p + 1, z, (s * 69621 + z * 40692 + 23) % 2147483629, ?_, by omega, by omega, b1.1, by omega⟩
        simp only [S_drA, sIf, sE, test, if_true]
        simp [sIf, tCmpE, sSeq, sAsg, sPut, sE, sNext, asB, eBin, eVar, look, eC, eB, aCons, aNil, bnd, opIx, at_0, at_1, at_2, at_3, at_4, ixN, opMod, opMulA, opMul, bInt, stor, put2, putO, D.bareL, D.bare, opI2, opAdd, at1, e1, e2, e3, h2']
    · refine ⟨none, p, 0, s, ?_, hp, hv, hs1, hs2⟩
      simp [S_drA, sIf, sE, sNext, tCmpE, asB, eBin, eVar, look, eC, eB, aCons, aNil, bnd, bAnd, opIx, at_0, at_1, at_2, at_3, at_4, ixN, opEq, eqR, opLt, bLen, h1]
  · refine ⟨none, p, v, s, ?_, hp, hv, hs1, hs2⟩
    simp [S_drA, sIf, sE, sNext, tCmpE, asB, eBin, eVar, look, eC, bnd, bAnd, opIx, at_0, at_1, at_2, at_3, at_4, ixN, opEq, eqR, h0]
theorem draw_ok {cells : List Int} {B : Nat} {M : Mem} {many : Int} (hc : ∀ z ∈ cells, 0 ≤ z ∧ Builtin.Int.intBits z ≤ 1048576) (h : Hd cells B M) (hB : B ≤ 1000000) (hm : 0 < many) (hm2 : many.natAbs.log2 < 9000) :
    ∃ r M', F_draw [.d (.ob 0), .d (.int many)] M = .ok (.int r) M' ∧ 0 ≤ r ∧ r < many ∧ Hd cells (B + 1) M' := by
  obtain ⟨p, v, s, c, rfl, hp, hv, hs1, hs2, hc1, hc2⟩ := h.ex
  obtain ⟨x2, p', v', s', e, g1, g2, g3, g4⟩ := drA hc (many := many) p v s c hp hv hs1 hs2
  obtain ⟨r, M', e2, r1, r2, r3⟩ := drB hB hm hm2 x2 p' v' s' c g1 g2 g3 g4 hc1 hc2
  refine ⟨r, M', ?_, r1, r2, r3⟩
  unfold F_draw
  rw [fnOf_eq]
  show fnEnd (sSeq S_drA (sSeq S_drB S_drC) [some (.d (.ob 0)), some (.d (.int many)), none, none, none] _) = _
  have e3 : sSeq S_drA (sSeq S_drB S_drC) [some (.d (.ob 0)), some (.d (.int many)), none, none, none] [.lst [.ob 1, .int p, .int v, .int s, .int c], .lst (cells.map D.int)] = sSeq S_drB S_drC [some (.d (.ob 0)), some (.d (.int many)), x2, none, none] [.lst [.ob 1, .int p', .int v', .int s', .int c], .lst (cells.map D.int)] := by
    simp only [sSeq, e]
  rw [e3]
  exact e2
end DL

set_option Elab.async false
set_option linter.all false
set_option maxRecDepth 100000
set_option maxHeartbeats 4000000
/-! The data layer: the laws' own hand, choice, comparison. -/
namespace DL
open PySem PySem.Spec PyProof.Rows L2
def S_any : Ss := (sRet (eBin opIx (eVar 1) (eCall 2 F_draw (aCons (eVar 0) (aCons (eB bLen (aCons (eVar 1) aNil)) aNil)))))
def F_any : Fn := fnOf 2 S_any
def S_hand : Ss := (sSeq (sSetN 1 (nE (eF (fLc (iSeq true (eSl (eVar 0) oNone (oSome (eC (.int 63))))) (.one 2) [2] tYesE (eB bAbs (aCons (eB bInt (aCons (eVar 2) aNil)) aNil)))))) (sRet (eLst (aCons (eVar 1) (aCons (eC (.int 0)) (aCons (eC (.int 0)) (aCons (eBin opAdd (eC (.int 47)) (eBin opMulA (eC (.int 7)) (eB bLen (aCons (eVar 1) aNil)))) (aCons (eC (.int 0)) aNil))))))))
def F_hand : Fn := fnOf 3 S_hand
def S_is (Fr : Fn) : Ss := (sSeq (sIf (tTru (eB bIsi (aCons (eVar 1) (aCons (eTup (aCons (eC (.ty "tuple")) (aCons (eC (.ty "list")) aNil))) aNil)))) (sSeq (sIf (bOr (tCmpE (opEq true) (eB bIsi (aCons (eVar 0) (aCons (eC (.ty "tuple")) aNil))) (eB bIsi (aCons (eVar 1) (aCons (eC (.ty "tuple")) aNil)))) (tCmpE (opEq true) (eB bIsi (aCons (eVar 0) (aCons (eC (.ty "list")) aNil))) (eB bIsi (aCons (eVar 1) (aCons (eC (.ty "list")) aNil))))) (sRet (eC (.bl false))) sNext) (sRet (eAnd (eBin (opEq false) (eB bLen (aCons (eVar 0) aNil)) (eB bLen (aCons (eVar 1) aNil))) (eB bAll (aCons (eF (fLc (iO (zip2 true) (aCons (eVar 0) (aCons (eVar 1) aNil))) (.many [2, 3]) [2, 3] tYesE (eCall 2 Fr (aCons (eVar 2) (aCons (eVar 3) aNil))))) aNil))))) sNext) (sSeq (sIf (bOr (tCmpE (opIs false) (eVar 1) (eC .non)) (tCmpE (opIs false) (eVar 0) (eC .non))) (sRet (eAnd (eBin (opIs false) (eVar 1) (eC .non)) (eBin (opIs false) (eVar 0) (eC .non)))) sNext) (sSeq (sIf (bOr (tCmpE (opEq true) (eB bIsi (aCons (eVar 0) (aCons (eC (.ty "bool")) aNil))) (eB bIsi (aCons (eVar 1) (aCons (eC (.ty "bool")) aNil)))) (tCmpE (opEq true) (eB bIsi (aCons (eVar 0) (aCons (eC (.ty "int")) aNil))) (eB bIsi (aCons (eVar 1) (aCons (eC (.ty "int")) aNil))))) (sRet (eC (.bl false))) sNext) (sRet (eAnd (eBin (opEq false) (eB bIsi (aCons (eVar 0) (aCons (eC (.ty "str")) aNil))) (eB bIsi (aCons (eVar 1) (aCons (eC (.ty "str")) aNil)))) (eBin (opEq false) (eVar 0) (eVar 1)))))))
def R_is : Nat → Fn
  | 0 => fun _ _ => .stuck
  | n + 1 => fnOf 4 (S_is (R_is n))
theorem log2_small {n : Nat} (h : n < 2 ^ 64) : n.log2 < 9000 := by
  by_cases e : n = 0
  · subst e; decide
  · have := (Nat.log2_lt e).mpr h; omega
theorem any_ok {cells : List Int} {B : Nat} {M : Mem} {l : List D} (hc : ∀ z ∈ cells, 0 ≤ z ∧ Builtin.Int.intBits z ≤ 1048576) (h : Hd cells B M) (hB : B ≤ 1000000) (hl : 0 < l.length) (hl2 : l.length < 1000000) :
    ∃ d M', F_any [.d (.ob 0), .d (.lst l)] M = .ok d M' ∧ d ∈ l ∧ Hd cells (B + 1) M' := by
  obtain ⟨r, M', e, r0, r1, h'⟩ := draw_ok hc h hB (many := (l.length : Int)) (by omega) (log2_small (by simp; omega))
  obtain ⟨j, rfl⟩ : ∃ j : Nat, r = (j : Int) := ⟨r.toNat, by omega⟩
  have hj : j < l.length := by omega
  have e2 : atI l (j : Int) = some l[j] := by rw [atI_get', List.getElem?_eq_getElem hj]
  refine ⟨l[j], M', ?_, List.getElem_mem _, h'⟩
  unfold F_any
  rw [fnOf_eq]
  simp [fnEnd, S_any, sRet, sE, eBin, eVar, look, eCall, eB, aCons, aNil, bnd, bLen, seqOf, passL, pass1, e, opIx, e2, retD]
theorem sIx63 {n : Nat} (h : n ≤ 63) : HT.sIx n n (some 63) = n := by
  have := HT.sIx_nat n n 63
  rw [show ((63 : Nat) : Int) = 63 from rfl] at this
  rw [this]; omega
theorem hand_ok (ns : List Int) (h : ns.length ≤ 63) (d : D) (hd : d = .sc ns ∨ d = .lst (ns.map D.int)) : F_hand [.d d] [] = .ok (.lst [.lst ((ns.map fun z => (z.natAbs : Int)).map D.int), .int 0, .int 0, .int (47 + 7 * (ns.length : Int)), .int 0]) [] := by
  have sl : eSl (eVar 0) oNone (oSome (eC (.int 63))) [some (.d d), none, none] [] = .ok (.d (.lst (ns.map D.int))) [] := by
    have cut : cutD (ns.map D.int) none (some 63) = ns.map D.int := by
      unfold cutD
      rw [HT.sIx_none, List.length_map, sIx63 h]
      exact List.take_of_length_le (by simp)
    rcases hd with rfl | rfl
    · simp [eSl, eVar, look, oNone, oSome, eC, bnd, opSl, cut]
    · simp [eSl, eVar, look, oNone, oSome, eC, bnd, opSl, lstOf, cut]
  have lc : fLc (iSeq true (eSl (eVar 0) oNone (oSome (eC (.int 63))))) (.one 2) [2] tYesE (eB bAbs (aCons (eB bInt (aCons (eVar 2) aNil)) aNil)) [some (.d d), none, none] [] = .ok ((ns.map D.int).map fun d => match d with | .int z => .int (z.natAbs : Int) | x => x) [] := by
    have hm : (ns.map D.int).length ≤ most := by rw [List.length_map]; unfold most; omega
    have e1 : iSeq true (eSl (eVar 0) oNone (oSome (eC (.int 63)))) [some (.d d), none, none] [] = .ok (ns.map D.int) [] := by
      simp [iSeq, sl, bnd, itemsOf]
    simp only [fLc, e1, bnd, if_pos hm]
    refine lcL_map _ _ fun x hx => ?_
    obtain ⟨z, _, rfl⟩ := List.mem_map.mp hx
    refine ⟨[some (.d d), none, some (.d (.int z))], by simp [tgE, wipeE], ?_⟩
    have : (if z < 0 then -z else z) = (z.natAbs : Int) := by split <;> omega
    simp [eB, aCons, aNil, eVar, look, bnd, bInt, bAbs, this]
  have e3 : ((ns.map D.int).map fun d => match d with | .int z => .int (z.natAbs : Int) | x => x) = (ns.map fun z => (z.natAbs : Int)).map D.int := by
    rw [List.map_map, List.map_map]; rfl
  rw [e3] at lc
  have cm : cMul 7 (ns.length : Int) := cm64 (by omega) (by omega) (by omega) (by omega)
  unfold F_hand
  rw [fnOf_eq]
  simp [fnEnd, S_hand, sSeq, sSetN, nE, eF, sE, bnd, lc, stor, optR, sRet, eLst, aCons, aNil, eVar, look, eC, eBin, opAdd, opMulA, opMul, eB, bLen, seqOf, cm, datas, retD, most]
theorem bits_abs {z : Int} (h : Builtin.Int.intBits z ≤ 1048576) : Builtin.Int.intBits (z.natAbs : Int) ≤ 1048576 := by
  unfold Builtin.Int.intBits at h ⊢
  by_cases e : z = 0
  · subst e; decide
  · have e2 : ((z.natAbs : Int) == 0) = false := by simp [e]
    have e3 : (z == 0) = false := by simp [e]
    rw [e2]; rw [e3] at h
    simpa using h
theorem eqR_bl (a b : Bool) : eqR (.d (.bl a)) (.d (.bl b)) = some (decide (a = b)) := by cases a <;> cases b <;> decide +kernel
theorem isi1 {ρ : Env} {M : Mem} {i : Nat} {x : Ev} {a b : String} (h : eVar i ρ M = .ok x M) (ht : tyN x = some a) (hb : b ∈ clNs) : eB bIsi (aCons (eVar i) (aCons (eC (.ty b)) aNil)) ρ M = .ok (bv (isOf a b)) M := by
  simp only [eB, aCons, aNil, h, bnd, eC, bIsi, ht, if_pos hb]
theorem isi2 {ρ : Env} {M : Mem} {i : Nat} {x : Ev} {a b c : String} (h : eVar i ρ M = .ok x M) (ht : tyN x = some a) (hb : b ∈ clNs) (hc : c ∈ clNs) : eB bIsi (aCons (eVar i) (aCons (eTup (aCons (eC (.ty b)) (aCons (eC (.ty c)) aNil))) aNil)) ρ M = .ok (bv (isOf a b || isOf a c)) M := by
  simp [eB, aCons, aNil, h, bnd, eC, eTup, datas, most, bIsi, ht, toTys, hb, hc]
theorem neB {f g : Sm Ev} {ρ : Env} {M : Mem} {a b : Bool} (h1 : f ρ M = .ok (bv a) M) (h2 : g ρ M = .ok (bv b) M) : tCmpE (opEq true) f g ρ M = .ok (!decide (a = b)) M := by
  simp [tCmpE, asB, eBin, h1, h2, bnd, opEq, eqR_bl]
theorem eqB {f g : Sm Ev} {ρ : Env} {M : Mem} {a b : Bool} (h1 : f ρ M = .ok (bv a) M) (h2 : g ρ M = .ok (bv b) M) : eBin (opEq false) f g ρ M = .ok (bv (decide (a = b))) M := by
  simp [eBin, h1, h2, bnd, opEq, eqR_bl]
theorem truV {f : Sm Ev} {ρ : Env} {M M' : Mem} {b : Bool} (h : f ρ M = .ok (bv b) M') : tTru f ρ M = .ok b M' := by
  simp [tTru, truB, h, bnd, truth]
theorem is_int (n : Nat) (a b : Int) (M : Mem) : R_is (n + 1) [.d (.int a), .d (.int b)] M = .ok (.bl (decide (a = b))) M := by
  show fnOf 4 (S_is (R_is n)) _ _ = _
  rw [fnOf_eq]
  have v0 : eVar 0 [some (.d (.int a)), some (.d (.int b)), none, none] M = .ok (.d (.int a)) M := rfl
  have v1 : eVar 1 [some (.d (.int a)), some (.d (.int b)), none, none] M = .ok (.d (.int b)) M := rfl
  have t1 := truV (isi2 (b := "tuple") (c := "list") v1 (a := "int") rfl (by decide) (by decide))
  have t2 : (bOr (tCmpE (opIs false) (eVar 1) (eC .non)) (tCmpE (opIs false) (eVar 0) (eC .non))) [some (.d (.int a)), some (.d (.int b)), none, none] M = .ok false M := rfl
  have t3 := neB (isi1 (b := "bool") v0 (a := "int") rfl (by decide)) (isi1 (b := "bool") v1 (a := "int") rfl (by decide))
  have t4 := neB (isi1 (b := "int") v0 (a := "int") rfl (by decide)) (isi1 (b := "int") v1 (a := "int") rfl (by decide))
  have t5 := eqB (isi1 (b := "str") v0 (a := "int") rfl (by decide)) (isi1 (b := "str") v1 (a := "int") rfl (by decide))
  rw [show (isOf "int" "tuple" || isOf "int" "list") = false by decide] at t1
  rw [show (!decide (isOf "int" "bool" = isOf "int" "bool")) = false by decide] at t3
  rw [show (!decide (isOf "int" "int" = isOf "int" "int")) = false by decide] at t4
  rw [show decide (isOf "int" "str" = isOf "int" "str") = true by decide] at t5
  show fnEnd (S_is (R_is n) [some (.d (.int a)), some (.d (.int b)), none, none] M) = _
  have t6 : eBin (opEq false) (eVar 0) (eVar 1) [some (.d (.int a)), some (.d (.int b)), none, none] M = .ok (bv (decide (a = b))) M := by rw [q_bin v0 v1]; rfl
  rw [S_is, q_nx (q_skip t1), q_nx (q_skip t2), q_nx (q_skip (by rw [q_or0 t3]; exact t4)), q_ret (x := bv (decide (a = b))) (by rw [q_eand1 t5 rfl]; exact t6) rfl]
  rfl
theorem is_tup (n : Nat) (l l' : List D) (M : Mem) (hl : l.length = l'.length) (hm : l.length ≤ most) (h : ∀ p ∈ l.zip l', R_is n [.d p.1, .d p.2] M = .ok (.bl true) M) : R_is (n + 1) [.d (.tup l), .d (.tup l')] M = .ok (.bl true) M := by
  have lc : fLc (iO (zip2 true) (aCons (eVar 0) (aCons (eVar 1) aNil))) (.many [2, 3]) [2, 3] tYesE (eCall 2 (R_is n) (aCons (eVar 2) (aCons (eVar 3) aNil))) [some (.d (.tup l)), some (.d (.tup l')), none, none] M = .ok ((zipL l l').map fun _ => .bl true) M := by
    have e1 : iO (zip2 true) (aCons (eVar 0) (aCons (eVar 1) aNil)) [some (.d (.tup l)), some (.d (.tup l')), none, none] M = .ok (zipL l l') M := by
      simp [iO, aCons, aNil, eVar, look, bnd, zip2, optR]
    have hz : (zipL l l').length ≤ most := by rw [zipL_len]; omega
    simp only [fLc, e1, bnd, if_pos hz]
    refine lcL_map _ _ fun x hx => ?_
    unfold zipL at hx
    obtain ⟨p, hp, rfl⟩ := List.mem_map.mp hx
    refine ⟨[some (.d (.tup l)), some (.d (.tup l')), some (.d p.1), some (.d p.2)], by simp [tgE, wipeE, setAllE], ?_⟩
    simp [eCall, aCons, aNil, eVar, look, bnd, passL, pass1, h p hp]
  have tb : ∀ m : List D, toBls (m.map fun _ => D.bl true) = some (m.map fun _ => true) := by
    intro m
    induction m with
    | nil => rfl
    | cons x m ih => simp [toBls, ih]
  show fnOf 4 (S_is (R_is n)) _ _ = _
  rw [fnOf_eq]
  have v0 : eVar 0 [some (.d (.tup l)), some (.d (.tup l')), none, none] M = .ok (.d (.tup l)) M := rfl
  have v1 : eVar 1 [some (.d (.tup l)), some (.d (.tup l')), none, none] M = .ok (.d (.tup l')) M := rfl
  have t1 := truV (isi2 (b := "tuple") (c := "list") v1 (a := "tuple") rfl (by decide) (by decide))
  have t3 := neB (isi1 (b := "tuple") v0 (a := "tuple") rfl (by decide)) (isi1 (b := "tuple") v1 (a := "tuple") rfl (by decide))
  have t4 := neB (isi1 (b := "list") v0 (a := "tuple") rfl (by decide)) (isi1 (b := "list") v1 (a := "tuple") rfl (by decide))
  rw [show (isOf "tuple" "tuple" || isOf "tuple" "list") = true by decide] at t1
  rw [show (!decide (isOf "tuple" "tuple" = isOf "tuple" "tuple")) = false by decide] at t3
  rw [show (!decide (isOf "tuple" "list" = isOf "tuple" "list")) = false by decide] at t4
  have t5 : eBin (opEq false) (eB bLen (aCons (eVar 0) aNil)) (eB bLen (aCons (eVar 1) aNil)) [some (.d (.tup l)), some (.d (.tup l')), none, none] M = .ok (bv true) M := by
    simp [eBin, eB, aCons, aNil, v0, v1, bnd, bLen, seqOf, opEq, eqR, hl]
  show fnEnd (S_is (R_is n) [some (.d (.tup l)), some (.d (.tup l')), none, none] M) = _
  have t6 : eB bAll (aCons (eF (fLc (iO (zip2 true) (aCons (eVar 0) (aCons (eVar 1) aNil))) (.many [2, 3]) [2, 3] tYesE (eCall 2 (R_is n) (aCons (eVar 2) (aCons (eVar 3) aNil))))) aNil) [some (.d (.tup l)), some (.d (.tup l')), none, none] M = .ok (bv true) M := by
    have e1 : eF (fLc (iO (zip2 true) (aCons (eVar 0) (aCons (eVar 1) aNil))) (.many [2, 3]) [2, 3] tYesE (eCall 2 (R_is n) (aCons (eVar 2) (aCons (eVar 3) aNil)))) [some (.d (.tup l)), some (.d (.tup l')), none, none] M = .ok (.d (.lst ((zipL l l').map fun _ => .bl true))) M := by
      simp only [eF, lc, bnd]
    rw [q_B (q_cons e1 rfl)]
    simp [bAll, blsOf, lstOf, tb]
  rw [S_is, q_rt (d := .bl true) (M' := M) (by rw [q_if1 t1, q_nx (q_skip (by rw [q_or0 t3]; exact t4)), q_ret (x := bv true) (by rw [q_eand1 t5 rfl]; exact t6) rfl])]
  rfl
theorem is_lst (n : Nat) (l l' : List D) (M : Mem) (hl : l.length = l'.length) (hm : l.length ≤ most) (h : ∀ p ∈ l.zip l', R_is n [.d p.1, .d p.2] M = .ok (.bl true) M) : R_is (n + 1) [.d (.lst l), .d (.lst l')] M = .ok (.bl true) M := by
  have lc : fLc (iO (zip2 true) (aCons (eVar 0) (aCons (eVar 1) aNil))) (.many [2, 3]) [2, 3] tYesE (eCall 2 (R_is n) (aCons (eVar 2) (aCons (eVar 3) aNil))) [some (.d (.lst l)), some (.d (.lst l')), none, none] M = .ok ((zipL l l').map fun _ => .bl true) M := by
    have e1 : iO (zip2 true) (aCons (eVar 0) (aCons (eVar 1) aNil)) [some (.d (.lst l)), some (.d (.lst l')), none, none] M = .ok (zipL l l') M := by
      simp [iO, aCons, aNil, eVar, look, bnd, zip2, itemsOf, optR]
    have hz : (zipL l l').length ≤ most := by rw [zipL_len]; omega
    simp only [fLc, e1, bnd, if_pos hz]
    refine lcL_map _ _ fun x hx => ?_
    unfold zipL at hx
    obtain ⟨p, hp, rfl⟩ := List.mem_map.mp hx
    refine ⟨[some (.d (.lst l)), some (.d (.lst l')), some (.d p.1), some (.d p.2)], by simp [tgE, wipeE, setAllE], ?_⟩
    simp [eCall, aCons, aNil, eVar, look, bnd, passL, pass1, h p hp]
  have tb : ∀ m : List D, toBls (m.map fun _ => D.bl true) = some (m.map fun _ => true) := by
    intro m
    induction m with
    | nil => rfl
    | cons x m ih => simp [toBls, ih]
  show fnOf 4 (S_is (R_is n)) _ _ = _
  rw [fnOf_eq]
  have v0 : eVar 0 [some (.d (.lst l)), some (.d (.lst l')), none, none] M = .ok (.d (.lst l)) M := rfl
  have v1 : eVar 1 [some (.d (.lst l)), some (.d (.lst l')), none, none] M = .ok (.d (.lst l')) M := rfl
  have t1 := truV (isi2 (b := "tuple") (c := "list") v1 (a := "list") rfl (by decide) (by decide))
  have t3 := neB (isi1 (b := "tuple") v0 (a := "list") rfl (by decide)) (isi1 (b := "tuple") v1 (a := "list") rfl (by decide))
  have t4 := neB (isi1 (b := "list") v0 (a := "list") rfl (by decide)) (isi1 (b := "list") v1 (a := "list") rfl (by decide))
  rw [show (isOf "list" "tuple" || isOf "list" "list") = true by decide] at t1
  rw [show (!decide (isOf "list" "tuple" = isOf "list" "tuple")) = false by decide] at t3
  rw [show (!decide (isOf "list" "list" = isOf "list" "list")) = false by decide] at t4
  have t5 : eBin (opEq false) (eB bLen (aCons (eVar 0) aNil)) (eB bLen (aCons (eVar 1) aNil)) [some (.d (.lst l)), some (.d (.lst l')), none, none] M = .ok (bv true) M := by
    simp [eBin, eB, aCons, aNil, v0, v1, bnd, bLen, seqOf, opEq, eqR, hl]
  show fnEnd (S_is (R_is n) [some (.d (.lst l)), some (.d (.lst l')), none, none] M) = _
  have t6 : eB bAll (aCons (eF (fLc (iO (zip2 true) (aCons (eVar 0) (aCons (eVar 1) aNil))) (.many [2, 3]) [2, 3] tYesE (eCall 2 (R_is n) (aCons (eVar 2) (aCons (eVar 3) aNil))))) aNil) [some (.d (.lst l)), some (.d (.lst l')), none, none] M = .ok (bv true) M := by
    have e1 : eF (fLc (iO (zip2 true) (aCons (eVar 0) (aCons (eVar 1) aNil))) (.many [2, 3]) [2, 3] tYesE (eCall 2 (R_is n) (aCons (eVar 2) (aCons (eVar 3) aNil)))) [some (.d (.lst l)), some (.d (.lst l')), none, none] M = .ok (.d (.lst ((zipL l l').map fun _ => .bl true))) M := by
      simp only [eF, lc, bnd]
    rw [q_B (q_cons e1 rfl)]
    simp [bAll, blsOf, lstOf, tb]
  rw [S_is, q_rt (d := .bl true) (M' := M) (by rw [q_if1 t1, q_nx (q_skip (by rw [q_or0 t3]; exact t4)), q_ret (x := bv true) (by rw [q_eand1 t5 rfl]; exact t6) rfl])]
  rfl
end DL

set_option Elab.async false
set_option linter.all false
set_option maxRecDepth 100000
set_option maxHeartbeats 2000000
/-! law k64: its text's defs over the data layer. -/
namespace K64
open PySem PySem.Spec PyProof.Rows L2 DL
abbrev LW : PySem.W.OpenLaw := PySem.Challenge.rw_stuckloses_k64_whole_ends_of_rows
def top (i : Nat) : Stmt := LW.prog.main.body.getD i (.Pass ⟨0, 0, 0, 0⟩)
/-- what the text tells of names -/
structure Fx (K : PySem.W.Frag) (mg : Str → Option Value) : Prop where
  z_abs : mg "abs" = none
  z_all : mg "all" = none
  z_bool : mg "bool" = none
  z_enumerate : mg "enumerate" = none
  z_int : mg "int" = none
  z_isinstance : mg "isinstance" = none
  z_len : mg "len" = none
  z_list : mg "list" = none
  z_max : mg "max" = none
  z_range : mg "range" = none
  z_sorted : mg "sorted" = none
  z_str : mg "str" = none
  z_tuple : mg "tuple" = none
  z_zip : mg "zip" = none
  xc_BadNumber : XC K mg "BadNumber"
def tbl (c : Str) : Option Bool := if c = "BadNumber" then some true else none
theorem sc_is_integer : FnScope ["thing"] ["thing"] (defScope (top 1)) := ⟨rfl, rfl, rfl, by decide +kernel, rfl, by decide +kernel, by decide +kernel⟩
def T1_is_integer : Ss := (sRet (eAnd (eB bIsi (aCons (eVar 0) (aCons (eC (.ty "int")) aNil))) (eNot (eB bIsi (aCons (eVar 0) (aCons (eC (.ty "bool")) aNil))))))
def S_is_integer : Ss := T1_is_integer
def F_is_integer : Fn := fnOf 1 S_is_integer
theorem sc_is_within : FnScope ["thing", "low", "high"] ["thing", "low", "high"] (defScope (top 2)) := ⟨rfl, rfl, rfl, by decide +kernel, rfl, by decide +kernel, by decide +kernel⟩
def T1_is_within : Ss := (sRet (eAnd (eCall 1 F_is_integer (aCons (eVar 0) aNil)) (eChain opLe opLe (eVar 1) (eVar 0) (eVar 2))))
def S_is_within : Ss := T1_is_within
def F_is_within : Fn := fnOf 3 S_is_within
theorem sc_ends_row : FnScope ["values", "many", "best", "size", "at", "first", "found", "end", "one"] ["values"] (defScope (top 7)) := ⟨rfl, rfl, rfl, by decide +kernel, rfl, by decide +kernel, by decide +kernel⟩
def T1_ends_row : Ss := (sIf (bOr (bNot (tTru (eB bIsi (aCons (eVar 0) (aCons (eC (.ty "tuple")) aNil))))) (tCmpE opGt (eB bLen (aCons (eVar 0) aNil)) (eC (.int 60)))) (sRaise "BadNumber") sNext)
def T2_ends_row : Ss := (sIf (bNot (tTru (eB bAll (aCons (eF (fLc (iSeq true (eVar 0)) (.one 8) [8] tYesE (eCall 3 F_is_within (aCons (eVar 8) (aCons (eUn unNeg (eBin opPow (eC (.int 10)) (eC (.int 9)))) (aCons (eBin opPow (eC (.int 10)) (eC (.int 9))) aNil)))))) aNil)))) (sRaise "BadNumber") sNext)
def T3_ends_row : Ss := (sAsg 1 (eB bLen (aCons (eVar 0) aNil)))
def T4_ends_row : Ss := (sSetN 2 (nRows (iO rng1 (aCons (eBin opAdd (eVar 1) (eC (.int 1))) aNil)) (.one 4) [4] (fMul (eLst (aCons (eC (.int 0)) aNil)) (eBin opAdd (eVar 1) (eC (.int 1))))))
def B5_ends_row : Ss := (sSeq (sAsg 5 (eBin opSub (eBin opIx (eVar 0) (eVar 4)) (eBin opIx (eBin opIx (eVar 2) (eBin opAdd (eVar 4) (eC (.int 1)))) (eBin opAdd (eVar 4) (eVar 3))))) (sPutR 2 (eVar 4) (eBin opAdd (eVar 4) (eVar 3)) (eB bMax (aCons (eVar 5) (aCons (eBin opSub (eBin opIx (eVar 0) (eBin opSub (eBin opAdd (eVar 4) (eVar 3)) (eC (.int 1)))) (eBin opIx (eBin opIx (eVar 2) (eVar 4)) (eBin opSub (eBin opAdd (eVar 4) (eVar 3)) (eC (.int 1))))) aNil)))))
def B6_ends_row : Ss := (sFor (iO rng1 (aCons (eBin opAdd (eBin opSub (eVar 1) (eVar 3)) (eC (.int 1))) aNil)) (.one 4) B5_ends_row)
def T7_ends_row : Ss := (sFor (iO rng2 (aCons (eC (.int 1)) (aCons (eBin opAdd (eVar 1) (eC (.int 1))) aNil))) (.one 3) B6_ends_row)
def T8_ends_row : Ss := (sParN [6, 4, 7] (nCons (nF (fLst aNil)) (nCons (nE (eC (.int 0))) (nCons (nE (eVar 1)) nNil))))
def B9_ends_row : Ss := (sIf (tCmpE (opEq false) (eBin opSub (eBin opIx (eVar 0) (eVar 4)) (eBin opIx (eBin opIx (eVar 2) (eBin opAdd (eVar 4) (eC (.int 1)))) (eVar 7))) (eBin opIx (eBin opIx (eVar 2) (eVar 4)) (eVar 7))) (sSeq (sApp 6 (eVar 4)) (sAsg 4 (eBin opAdd (eVar 4) (eC (.int 1))))) (sSeq (sAsg 7 (eBin opSub (eVar 7) (eC (.int 1)))) (sApp 6 (eVar 7))))
def T10_ends_row : Ss := (sWhile (tCmpE opLt (eVar 4) (eVar 7)) B9_ends_row 100)
def T11_ends_row : Ss := (sRet (eTup (aCons (eBin opIx (eBin opIx (eVar 2) (eC (.int 0))) (eVar 1)) (aCons (eB bTup (aCons (eVar 6) aNil)) aNil))))
def S_ends_row : Ss := (sSeq T1_ends_row (sSeq T2_ends_row (sSeq T3_ends_row (sSeq T4_ends_row (sSeq T7_ends_row (sSeq T8_ends_row (sSeq T10_ends_row T11_ends_row)))))))
def F_ends_row : Fn := fnOf 9 S_ends_row
theorem sc__law_hand : FnScope ["script", "cells", "cell"] ["script"] (defScope (top 9)) := ⟨rfl, rfl, rfl, by decide +kernel, rfl, by decide +kernel, by decide +kernel⟩
def T1__law_hand : Ss := (sSetN 1 (nE (eF (fLc (iSeq true (eSl (eVar 0) oNone (oSome (eC (.int 63))))) (.one 2) [2] tYesE (eB bAbs (aCons (eB bInt (aCons (eVar 2) aNil)) aNil))))))
def T2__law_hand : Ss := (sRet (eLst (aCons (eVar 1) (aCons (eC (.int 0)) (aCons (eC (.int 0)) (aCons (eBin opAdd (eC (.int 47)) (eBin opMulA (eC (.int 7)) (eB bLen (aCons (eVar 1) aNil)))) (aCons (eC (.int 0)) aNil)))))))
def S__law_hand : Ss := (sSeq T1__law_hand T2__law_hand)
def F__law_hand : Fn := fnOf 3 S__law_hand
theorem sc__law_draw : FnScope ["hand", "many", "cell", "digit", "number"] ["hand", "many"] (defScope (top 10)) := ⟨rfl, rfl, rfl, by decide +kernel, rfl, by decide +kernel, by decide +kernel⟩
def T1__law_draw : Ss := (sIf (bAnd (tCmpE (opEq false) (eBin opIx (eVar 0) (eC (.int 2))) (eC (.int 0))) (tCmpE opLt (eBin opIx (eVar 0) (eC (.int 1))) (eB bLen (aCons (eBin opIx (eVar 0) (eC (.int 0))) aNil)))) (sSeq (sAsg 2 (eBin opIx (eBin opIx (eVar 0) (eC (.int 0))) (eBin opIx (eVar 0) (eC (.int 1))))) (sSeq (sPut 0 (eC (.int 1)) (eBin opAdd (eBin opIx (eVar 0) (eC (.int 1))) (eC (.int 1)))) (sSeq (sPut 0 (eC (.int 3)) (eBin opMod (eB bInt (aCons (eBin opAdd (eBin opAdd (eBin opMulA (eBin opIx (eVar 0) (eC (.int 3))) (eC (.int 69621))) (eBin opMulA (eVar 2) (eC (.int 40692)))) (eC (.int 23))) aNil)) (eC (.int 2147483629)))) (sIf (tCmpE opGe (eVar 2) (eBin opPow (eC (.int 10)) (eC (.int 18)))) (sPut 0 (eC (.int 2)) (eVar 2)) sNext)))) sNext)
def T2__law_draw : Ss := (sIf (tCmpE opGt (eBin opIx (eVar 0) (eC (.int 2))) (eC (.int 0))) (sSeq (sAsg 3 (eBin opMod (eB bInt (aCons (eBin opIx (eVar 0) (eC (.int 2))) aNil)) (eVar 1))) (sSeq (sPut 0 (eC (.int 2)) (eBin opDiv (eBin opIx (eVar 0) (eC (.int 2))) (eVar 1))) (sRet (eVar 3)))) sNext)
def T3__law_draw : Ss := (sPut 0 (eC (.int 4)) (eBin opAdd (eBin opIx (eVar 0) (eC (.int 4))) (eC (.int 1))))
def T4__law_draw : Ss := (sAsg 4 (eBin opMod (eB bInt (aCons (eBin opMulA (eB bInt (aCons (eBin opAdd (eBin opIx (eVar 0) (eC (.int 3))) (eBin opMulA (eC (.int 7919)) (eBin opIx (eVar 0) (eC (.int 4))))) aNil)) (eC (.int 48271))) aNil)) (eC (.int 2147483647))))
def T5__law_draw : Ss := (sAsg 4 (eBin opMod (eB bInt (aCons (eBin opMulA (eVar 4) (eBin opAdd (eBin opDiv (eVar 4) (eC (.int 1009))) (eC (.int 69621)))) aNil)) (eC (.int 2147483647))))
def T6__law_draw : Ss := (sAsg 4 (eBin opMod (eB bInt (aCons (eBin opMulA (eVar 4) (eBin opAdd (eBin opDiv (eVar 4) (eC (.int 2003))) (eC (.int 40014)))) aNil)) (eC (.int 2147483563))))
def T7__law_draw : Ss := (sRet (eBin opMod (eB bInt (aCons (eBin opDiv (eVar 4) (eC (.int 16))) aNil)) (eVar 1)))
def S__law_draw : Ss := (sSeq T1__law_draw (sSeq T2__law_draw (sSeq T3__law_draw (sSeq T4__law_draw (sSeq T5__law_draw (sSeq T6__law_draw T7__law_draw))))))
def F__law_draw : Fn := fnOf 5 S__law_draw
theorem sc__law_any : FnScope ["hand", "some"] ["hand", "some"] (defScope (top 11)) := ⟨rfl, rfl, rfl, by decide +kernel, rfl, by decide +kernel, by decide +kernel⟩
def T1__law_any : Ss := (sRet (eBin opIx (eVar 1) (eCall 2 F__law_draw (aCons (eVar 0) (aCons (eB bLen (aCons (eVar 1) aNil)) aNil)))))
def S__law_any : Ss := T1__law_any
def F__law_any : Fn := fnOf 2 S__law_any
theorem sc__law_is : FnScope ["said", "due", "one", "other"] ["said", "due"] (defScope (top 12)) := ⟨rfl, rfl, rfl, by decide +kernel, rfl, by decide +kernel, by decide +kernel⟩
def S__law_is (Fr : Fn) : Ss := (sSeq (sIf (tTru (eB bIsi (aCons (eVar 1) (aCons (eTup (aCons (eC (.ty "tuple")) (aCons (eC (.ty "list")) aNil))) aNil)))) (sSeq (sIf (bOr (tCmpE (opEq true) (eB bIsi (aCons (eVar 0) (aCons (eC (.ty "tuple")) aNil))) (eB bIsi (aCons (eVar 1) (aCons (eC (.ty "tuple")) aNil)))) (tCmpE (opEq true) (eB bIsi (aCons (eVar 0) (aCons (eC (.ty "list")) aNil))) (eB bIsi (aCons (eVar 1) (aCons (eC (.ty "list")) aNil))))) (sRet (eC (.bl false))) sNext) (sRet (eAnd (eBin (opEq false) (eB bLen (aCons (eVar 0) aNil)) (eB bLen (aCons (eVar 1) aNil))) (eB bAll (aCons (eF (fLc (iO (zip2 true) (aCons (eVar 0) (aCons (eVar 1) aNil))) (.many [2, 3]) [2, 3] tYesE (eCall 2 Fr (aCons (eVar 2) (aCons (eVar 3) aNil))))) aNil))))) sNext) (sSeq (sIf (bOr (tCmpE (opIs false) (eVar 1) (eC .non)) (tCmpE (opIs false) (eVar 0) (eC .non))) (sRet (eAnd (eBin (opIs false) (eVar 1) (eC .non)) (eBin (opIs false) (eVar 0) (eC .non)))) sNext) (sSeq (sIf (bOr (tCmpE (opEq true) (eB bIsi (aCons (eVar 0) (aCons (eC (.ty "bool")) aNil))) (eB bIsi (aCons (eVar 1) (aCons (eC (.ty "bool")) aNil)))) (tCmpE (opEq true) (eB bIsi (aCons (eVar 0) (aCons (eC (.ty "int")) aNil))) (eB bIsi (aCons (eVar 1) (aCons (eC (.ty "int")) aNil))))) (sRet (eC (.bl false))) sNext) (sRet (eAnd (eBin (opEq false) (eB bIsi (aCons (eVar 0) (aCons (eC (.ty "str")) aNil))) (eB bIsi (aCons (eVar 1) (aCons (eC (.ty "str")) aNil)))) (eBin (opEq false) (eVar 0) (eVar 1)))))))
def R__law_is : Nat → Fn
  | 0 => fun _ _ => .stuck
  | n + 1 => fnOf 4 (S__law_is (R__law_is n))
def F__law_is : Fn := R__law_is 4
theorem sc__law_more : FnScope ["values", "many", "found", "size", "begin", "end", "first", "last", "at"] ["values"] (defScope (top 13)) := ⟨rfl, rfl, rfl, by decide +kernel, rfl, by decide +kernel, by decide +kernel⟩
def T1__law_more : Ss := (sAsg 1 (eB bLen (aCons (eVar 0) aNil)))
def T2__law_more : Ss := (sSetN 2 (nRows (iO rng1 (aCons (eBin opAdd (eVar 1) (eC (.int 1))) aNil)) (.one 8) [8] (fMul (eLst (aCons (eC (.int 0)) aNil)) (eBin opAdd (eVar 1) (eC (.int 1))))))
def B3__law_more : Ss := (sSeq (sAsg 5 (eBin opAdd (eVar 4) (eVar 3))) (sSeq (sPar [6, 7] (aCons (eBin opSub (eBin opIx (eVar 0) (eVar 4)) (eBin opIx (eBin opIx (eVar 2) (eBin opAdd (eVar 4) (eC (.int 1)))) (eVar 5))) (aCons (eBin opSub (eBin opIx (eVar 0) (eBin opSub (eVar 5) (eC (.int 1)))) (eBin opIx (eBin opIx (eVar 2) (eVar 4)) (eBin opSub (eVar 5) (eC (.int 1))))) aNil))) (sPutR 2 (eVar 4) (eVar 5) (eB bMax (aCons (eVar 6) (aCons (eVar 7) aNil))))))
def B4__law_more : Ss := (sFor (iO rng1 (aCons (eBin opAdd (eBin opSub (eVar 1) (eVar 3)) (eC (.int 1))) aNil)) (.one 4) B3__law_more)
def T5__law_more : Ss := (sFor (iO rng2 (aCons (eC (.int 1)) (aCons (eBin opAdd (eVar 1) (eC (.int 1))) aNil))) (.one 3) B4__law_more)
def T6__law_more : Ss := (sRet (eVar 2))
def S__law_more : Ss := (sSeq T1__law_more (sSeq T2__law_more (sSeq T5__law_more T6__law_more)))
def F__law_more : Fn := fnOf 9 S__law_more
theorem sc__law_play : FnScope ["values", "found", "begin", "end", "row", "first"] ["values", "found"] (defScope (top 14)) := ⟨rfl, rfl, rfl, by decide +kernel, rfl, by decide +kernel, by decide +kernel⟩
def T1__law_play : Ss := (sParN [2, 3, 4] (nCons (nE (eC (.int 0))) (nCons (nE (eB bLen (aCons (eVar 0) aNil))) (nCons (nF (fLst aNil)) nNil))))
def B2__law_play : Ss := (sSeq (sAsg 5 (eBin opSub (eBin opIx (eVar 0) (eVar 2)) (eBin opIx (eBin opIx (eVar 1) (eBin opAdd (eVar 2) (eC (.int 1)))) (eVar 3)))) (sIf (tCmpE (opEq false) (eVar 5) (eBin opIx (eBin opIx (eVar 1) (eVar 2)) (eVar 3))) (sSeq (sApp 4 (eVar 2)) (sAsg 2 (eBin opAdd (eVar 2) (eC (.int 1))))) (sSeq (sAsg 3 (eBin opSub (eVar 3) (eC (.int 1)))) (sApp 4 (eVar 3)))))
def T3__law_play : Ss := (sWhile (tCmpE opLt (eVar 2) (eVar 3)) B2__law_play 100)
def T4__law_play : Ss := (sRet (eB bTup (aCons (eVar 4) aNil)))
def S__law_play : Ss := (sSeq T1__law_play (sSeq T3__law_play T4__law_play))
def F__law_play : Fn := fnOf 6 S__law_play
theorem sc__law_by_play : FnScope ["values"] ["values"] (defScope (top 15)) := ⟨rfl, rfl, rfl, by decide +kernel, rfl, by decide +kernel, by decide +kernel⟩
def S__law_by_play (Fr : Fn) : Ss := (sSeq (sIf (tCmpE (opEq false) (eB bLen (aCons (eVar 0) aNil)) (eC (.int 0))) (sRet (eC (.int 0))) sNext) (sRet (eB bMax (aCons (eBin opSub (eBin opIx (eVar 0) (eC (.int 0))) (eCall 1 Fr (aCons (eSl (eVar 0) (oSome (eC (.int 1))) oNone) aNil))) (aCons (eBin opSub (eBin opIx (eVar 0) (eUn unNeg (eC (.int 1)))) (eCall 1 Fr (aCons (eSl (eVar 0) oNone (oSome (eUn unNeg (eC (.int 1))))) aNil))) aNil)))))
def R__law_by_play : Nat → Fn
  | 0 => fun _ _ => .stuck
  | n + 1 => fnOf 1 (S__law_by_play (R__law_by_play n))
def F__law_by_play : Fn := R__law_by_play 10
theorem sc__law_row_right : FnScope ["values", "found", "due", "told", "left", "total", "turn", "at", "by", "one"] ["values"] (defScope (top 16)) := ⟨rfl, rfl, rfl, by decide +kernel, rfl, by decide +kernel, by decide +kernel⟩
def T1__law_row_right : Ss := (sAsg 1 (eCall 1 F__law_more (aCons (eVar 0) aNil)))
def T2__law_row_right : Ss := (sAsg 2 (eBin opIx (eBin opIx (eVar 1) (eC (.int 0))) (eB bLen (aCons (eVar 0) aNil))))
def T3__law_row_right : Ss := (sAsg 3 (eCall 1 F_ends_row (aCons (eVar 0) aNil)))
def T4__law_row_right : Ss := (sIf (bOr (bNot (tTru (eCall 2 F__law_is (aCons (eVar 3) (aCons (eTup (aCons (eVar 2) (aCons (eCall 2 F__law_play (aCons (eVar 0) (aCons (eVar 1) aNil))) aNil))) aNil))))) (tCmpE (opEq true) (eBin opIx (eCall 1 F_ends_row (aCons (eRev (eVar 0)) aNil)) (eC (.int 0))) (eVar 2))) (sRet (eC (.bl false))) sNext)
def T5__law_row_right : Ss := (sIf (bAnd (tCmpE opLe (eB bLen (aCons (eVar 0) aNil)) (eC (.int 8))) (tCmpE (opEq true) (eCall 1 F__law_by_play (aCons (eVar 0) aNil)) (eVar 2))) (sRet (eC (.bl false))) sNext)
def T6__law_row_right : Ss := (sParN [4, 5] (nCons (nF (fLst (aCons (eC (.int 0)) (aCons (eB bLen (aCons (eVar 0) aNil)) aNil)))) (nCons (nE (eC (.int 0))) nNil)))
def B7__law_row_right : Ss := (sSeq (sIf (tCmpE (opEq false) (eVar 7) (eBin opIx (eVar 4) (eC (.int 0)))) (sPut 4 (eC (.int 0)) (eBin opAdd (eVar 7) (eC (.int 1)))) (sIf (tCmpE (opEq false) (eVar 7) (eBin opSub (eBin opIx (eVar 4) (eC (.int 1))) (eC (.int 1)))) (sPut 4 (eC (.int 1)) (eVar 7)) (sRet (eC (.bl false))))) (sAsg 5 (eBin opAdd (eVar 5) (eIf (tCmpE (opEq false) (eVar 6) (eBin opMulA (eC (.int 2)) (eBin opDiv (eVar 6) (eC (.int 2))))) (eBin opIx (eVar 0) (eVar 7)) (eBin opSub (eC (.int 0)) (eBin opIx (eVar 0) (eVar 7)))))))
def T8__law_row_right : Ss := (sFor (iO (enumA false) (aCons (eBin opIx (eVar 3) (eC (.int 1))) aNil)) (.many [6, 7]) B7__law_row_right)
def T9__law_row_right : Ss := (sIf (bOr (tCmpE (opEq true) (eBin opIx (eVar 4) (eC (.int 0))) (eBin opIx (eVar 4) (eC (.int 1)))) (bOr (tCmpE (opEq true) (eVar 5) (eVar 2)) (tCmpE (opEq true) (eB bLen (aCons (eBin opIx (eVar 3) (eC (.int 1))) aNil)) (eB bLen (aCons (eVar 0) aNil))))) (sRet (eC (.bl false))) sNext)
def T10__law_row_right : Ss := (sIf (tCmpE (opEq false) (eB bLen (aCons (eVar 0) aNil)) (eBin opMulA (eC (.int 2)) (eBin opDiv (eB bLen (aCons (eVar 0) aNil)) (eC (.int 2))))) (sSeq (sAsg 8 (eIf (tCmpE opLt (eB bMax (aCons (eBin opAdd (eF (fLc (iSeq true (eVar 0)) (.one 9) [9] tYesE (eB bAbs (aCons (eVar 9) aNil)))) (eLst (aCons (eC (.int 0)) aNil))) aNil)) (eBin opPow (eC (.int 10)) (eC (.int 8)))) (eC (.int 5)) (eC (.int 0)))) (sRet (eAnd (eBin opGe (eVar 2) (eC (.int 0))) (eBin (opEq false) (eBin opIx (eCall 1 F_ends_row (aCons (eB bTup (aCons (eF (fLc (iSeq true (eVar 0)) (.one 9) [9] tYesE (eBin opAdd (eVar 9) (eVar 8)))) aNil)) aNil)) (eC (.int 0))) (eVar 2))))) sNext)
def T11__law_row_right : Ss := (sRet (eC (.bl true)))
def S__law_row_right : Ss := (sSeq T1__law_row_right (sSeq T2__law_row_right (sSeq T3__law_row_right (sSeq T4__law_row_right (sSeq T5__law_row_right (sSeq T6__law_row_right (sSeq T8__law_row_right (sSeq T9__law_row_right (sSeq T10__law_row_right T11__law_row_right)))))))))
def F__law_row_right : Fn := fnOf 10 S__law_row_right
def B1_law : Ss := (sSeq (sAsg 3 (eCall 2 F__law_any (aCons (eVar 1) (aCons (eLst (aCons (eC (.int 2)) (aCons (eC (.int 10)) (aCons (eBin opPow (eC (.int 10)) (eC (.int 9))) aNil)))) aNil)))) (sSeq (sAsg 4 (eB bTup (aCons (eF (fLc (iO rng1 (aCons (eCall 2 F__law_draw (aCons (eVar 1) (aCons (eBin opAdd (eVar 2) (eC (.int 1))) aNil))) aNil)) (.one 9) [9] tYesE (eBin opSub (eCall 2 F__law_draw (aCons (eVar 1) (aCons (eBin opAdd (eBin opMulA (eC (.int 2)) (eVar 3)) (eC (.int 1))) aNil))) (eVar 3)))) aNil))) (sSeq (sAsg 4 (eCall 2 F__law_any (aCons (eVar 1) (aCons (eLst (aCons (eVar 4) (aCons (eVar 4) (aCons (eB bTup (aCons (eB bSorted (aCons (eVar 4) aNil)) aNil)) (aCons (eBin opMulA (eSl (eVar 4) oNone (oSome (eC (.int 1)))) (eB bLen (aCons (eVar 4) aNil))) aNil))))) aNil)))) (sSeq (sIf (bNot (tTru (eCall 1 F__law_row_right (aCons (eVar 4) aNil)))) (sRet (eC (.bl false))) sNext) (sSeq (sAsg 5 (eCall 2 F__law_draw (aCons (eVar 1) (aCons (eBin opAdd (eB bLen (aCons (eVar 4) aNil)) (eC (.int 1))) aNil)))) (sSeq (sAsg 6 (eCall 2 F__law_any (aCons (eVar 1) (aCons (eLst (aCons (eC .non) (aCons (eC (.bl true)) (aCons (eC (.str "3")) (aCons (eTup (aCons (eC (.int 1)) aNil)) (aCons (eBin opAdd (eBin opPow (eC (.int 10)) (eC (.int 9))) (eC (.int 1))) (aCons (eBin opSub (eUn unNeg (eBin opPow (eC (.int 10)) (eC (.int 9)))) (eC (.int 1))) (aCons (eTup (aCons (eC (.int 1)) (aCons (eC (.int 2)) aNil))) aNil)))))))) aNil)))) (sSeq (sAsg 7 (eLst (aCons (eBin opAdd (eBin opAdd (eSl (eVar 4) oNone (oSome (eVar 5))) (eTup (aCons (eVar 6) aNil))) (eSl (eVar 4) (oSome (eVar 5)) oNone)) (aCons (eB bLst (aCons (eVar 4) aNil)) (aCons (eC .non) (aCons (eC (.int 0)) (aCons eDk (aCons (eC (.str "12")) (aCons (eBin opMulA (eTup (aCons (eC (.int 0)) aNil)) (eC (.int 61))) aNil))))))))) (sSeq (sAsg 8 (eCall 2 F__law_any (aCons (eVar 1) (aCons (eVar 7) aNil)))) (sIf (bNot (tTru (eRaised tbl (eCall 1 F_ends_row (aCons (eVar 8) aNil))))) (sRet (eC (.bl false))) sNext)))))))))
def T2_law : Ss := (sFor (iSeq false (eTup (aCons (eC (.int 4)) (aCons (eC (.int 9)) (aCons (eC (.int 60)) (aCons (eC (.int 60)) aNil)))))) (.one 2) B1_law)
def T3_law : Ss := (sRet (eCall 2 F__law_is (aCons (eLst (aCons (eCall 1 F_ends_row (aCons (eTup aNil) aNil)) (aCons (eCall 1 F_ends_row (aCons (eTup (aCons (eC (.int 7)) aNil)) aNil)) (aCons (eCall 1 F_ends_row (aCons (eTup (aCons (eC (.int 3)) (aCons (eC (.int 9)) (aCons (eC (.int 1)) (aCons (eC (.int 2)) aNil))))) aNil)) aNil)))) (aCons (eLst (aCons (eTup (aCons (eC (.int 0)) (aCons (eTup aNil) aNil))) (aCons (eTup (aCons (eC (.int 7)) (aCons (eTup (aCons (eC (.int 0)) aNil)) aNil))) (aCons (eTup (aCons (eC (.int 7)) (aCons (eTup (aCons (eC (.int 3)) (aCons (eC (.int 0)) (aCons (eC (.int 1)) (aCons (eC (.int 2)) aNil))))) aNil))) aNil)))) aNil))))
def S_law1 : Sm Ev := (eCall 1 F__law_hand (aCons (eVar 0) aNil))
def S_law : Ss := (sSeq T2_law T3_law)
theorem sc_law : FnScope ["script", "hand", "most", "wide", "values", "at", "odd", "bad", "thing", "turn"] ["script"] (defScope (top 18)) := ⟨rfl, rfl, rfl, by decide +kernel, rfl, by decide +kernel, by decide +kernel⟩
theorem sc__law_raised : FnScope ["call", "e"] ["call"] (defScope (top 17)) := ⟨rfl, rfl, rfl, by decide +kernel, rfl, by decide +kernel, by decide +kernel⟩
end K64

set_option Elab.async false
set_option linter.all false
set_option maxRecDepth 100000
set_option maxHeartbeats 4000000
/-! law k64: each def holds what its reading tells. -/
namespace K64
open PySem PySem.Spec PyProof.Rows L2 DL
theorem ok_is_integer {P : Program} {w : World} {K : PySem.W.Frag} {mg : Str → Option Value} {base : Heap} {T : List (Addr × Str)} {f : Addr} {fd : FuncData} (fx : Fx K mg) (F : FunD K "is_integer" "is_integer" (defArgs (top 1)) (defBody (top 1)) (defScope (top 1)) [] [] f fd) (hx : mg "is_integer" = some (.ref f))  : Dn P w K mg base T 1 "is_integer" 1 F_is_integer := by
  refine dn_ofD (k := 0) (N := ["thing"]) (ps := ["thing"]) (g := S_is_integer) F hx (F.bindsN (ps := ["thing"]) fun _ _ _ _ _ _ us hl => match us, hl with | [_], _ => rfl) sc_is_integer fun cdv A outer s H E hr => ?_
  exact (dss_one (ds_ret (de_and (de_B bi_isi (by rfl) fx.z_isinstance bo_isinstance (da_cons (de_var 0) (da_cons (de_ty (by rfl) fx.z_int bo_int) da_nil))) (de_one (de_not (de_B bi_isi (by rfl) fx.z_isinstance bo_isinstance (da_cons (de_var 0) (da_cons (de_ty (by rfl) fx.z_bool bo_bool) da_nil))))))))
theorem ok_is_within {P : Program} {w : World} {K : PySem.W.Frag} {mg : Str → Option Value} {base : Heap} {T : List (Addr × Str)} {f : Addr} {fd : FuncData} (fx : Fx K mg) (F : FunD K "is_within" "is_within" (defArgs (top 2)) (defBody (top 2)) (defScope (top 2)) [] [] f fd) (hx : mg "is_within" = some (.ref f)) (G_is_integer : Dn P w K mg base T 1 "is_integer" 1 F_is_integer) : Dn P w K mg base T 2 "is_within" 3 F_is_within := by
  refine dn_ofD (k := 1) (N := ["thing", "low", "high"]) (ps := ["thing", "low", "high"]) (g := S_is_within) F hx (F.bindsN (ps := ["thing", "low", "high"]) fun _ _ _ _ _ _ us hl => match us, hl with | [_, _, _], _ => rfl) sc_is_within fun cdv A outer s H E hr => ?_
  exact (dss_one (ds_ret (de_and (de_call G_is_integer (hr.mono (by omega)) (by rfl) (takes_of rfl rfl rfl rfl) (da_cons (de_var 0) da_nil)) (de_one (de_chain ci_le ci_le (de_var 1) (de_var 0) (de_var 2))))))
theorem ok_ends_row {P : Program} {w : World} {K : PySem.W.Frag} {mg : Str → Option Value} {base : Heap} {T : List (Addr × Str)} {f : Addr} {fd : FuncData} (fx : Fx K mg) (F : FunD K "ends_row" "ends_row" (defArgs (top 7)) (defBody (top 7)) (defScope (top 7)) [] [] f fd) (hx : mg "ends_row" = some (.ref f)) (G_is_within : Dn P w K mg base T 2 "is_within" 3 F_is_within) : Dn P w K mg base T 3 "ends_row" 1 F_ends_row := by
  refine dn_ofD (k := 2) (N := ["values", "many", "best", "size", "at", "first", "found", "end", "one"]) (ps := ["values"]) (g := S_ends_row) F hx (F.bindsN (ps := ["values"]) fun _ _ _ _ _ _ us hl => match us, hl with | [_], _ => rfl) sc_ends_row fun cdv A outer s H E hr => ?_
  exact (dss_cons (ds_if ((dw_or (dt_not (dt_val (de_B bi_isi (by rfl) fx.z_isinstance bo_isinstance (da_cons (de_var 0) (da_cons (de_ty (by rfl) fx.z_tuple bo_tuple) da_nil))))) (dw_or1 (dt_cmp ci_gt (de_B bi_len (by rfl) fx.z_len bo_len (da_cons (de_var 0) da_nil)) de_int)))).pt (dss_one (ds_raise rfl (takes_of rfl rfl rfl rfl) fx.xc_BadNumber (by rfl))) dss_nil) (dss_cons (ds_if (dt_not (dt_val (de_B (bi_all rfl) (by rfl) fx.z_all bo_all (da_cons (de_F (df_lc (own := [("one", 8)]) rfl sc_ends_row.nd (di_seq (de_var 0)) (blkOk_by (by show blkC ["values", "many", "best", "size", "at", "first", "found", "end", "one"] (defScope (top 7)) _ _ = true; decide +kernel)) (fun _ _ _ _ _ => (pg_name (i := 8) sc_ends_row.nd rfl (by first | exact Or.inl rfl | exact Or.inr rfl))) (fun _ _ _ _ _ => dts_nil) (fun _ _ _ _ _ => (de_call G_is_within (hr.mono (by omega)) (by rfl) takes0 (da_cons (de_var 8) (da_cons (de_neg (de_pow de_int de_int)) (da_cons (de_pow de_int de_int) da_nil))))))) da_nil)))) (dss_one (ds_raise rfl (takes_of rfl rfl rfl rfl) fx.xc_BadNumber (by rfl))) dss_nil) (dss_cons (ds_set (i := 1) sc_ends_row.nd (de_B bi_len (by rfl) fx.z_len bo_len (da_cons (de_var 0) da_nil))) (dss_cons (ds_rows (i := 2) (own := [("at", 4)]) rfl sc_ends_row.nd (di_rng1 (by rfl) fx.z_range (da_cons (de_add (de_var 1) de_int) da_nil)) (blkOk_by (by show blkC ["values", "many", "best", "size", "at", "first", "found", "end", "one"] (defScope (top 7)) _ _ = true; decide +kernel)) (fun _ _ _ _ _ => (pg_name (i := 4) sc_ends_row.nd rfl (by first | exact Or.inl rfl | exact Or.inr rfl))) (fun _ _ _ _ _ => (df_mul (de_lst (da_cons de_int da_nil)) (de_add (de_var 1) de_int))) (sw_true rfl rfl rfl rfl)) (dss_cons (ds_for (passes_of rfl) rfl (di_rng2 (by rfl) fx.z_range (da_cons de_int (da_cons (de_add (de_var 1) de_int) da_nil))) (pg_name (i := 3) sc_ends_row.nd rfl (by first | exact Or.inl rfl | exact Or.inr rfl)) (dss_one (ds_for (passes_of rfl) rfl (di_rng1 (by rfl) fx.z_range (da_cons (de_add (de_sub (de_var 1) (de_var 3)) de_int) da_nil)) (pg_name (i := 4) sc_ends_row.nd rfl (by first | exact Or.inl rfl | exact Or.inr rfl)) (dss_cons (ds_set (i := 5) sc_ends_row.nd (de_sub (de_ix (de_var 0) (de_var 4)) (de_ix (de_ix (de_var 2) (de_add (de_var 4) de_int)) (de_add (de_var 4) (de_var 3))))) (dss_one (ds_putR (j := 2) (de_var 4) (de_B (bi_max rfl) (by rfl) fx.z_max bo_max (da_cons (de_var 5) (da_cons (de_sub (de_ix (de_var 0) (de_sub (de_add (de_var 4) (de_var 3)) de_int)) (de_ix (de_ix (de_var 2) (de_var 4)) (de_sub (de_add (de_var 4) (de_var 3)) de_int))) da_nil))) (de_add (de_var 4) (de_var 3)))))))) (dss_cons (ds_parN3 (i := 6) (j := 4) (l := 7) rfl sc_ends_row.nd (dns_cons (dn_F (df_lst da_nil)) (dns_cons (dn_E de_int) (dns_cons (dn_E (de_var 1)) dns_nil)))) (dss_cons (ds_while (n := 100) (passes_of rfl) (dt_cmp (ci_lt hr.units) (de_var 4) (de_var 7)) (dss_one (ds_if (dt_cmp (ci_eq hr.units) (de_sub (de_ix (de_var 0) (de_var 4)) (de_ix (de_ix (de_var 2) (de_add (de_var 4) de_int)) (de_var 7))) (de_ix (de_ix (de_var 2) (de_var 4)) (de_var 7))) (dss_cons (ds_append (j := 6) (de_var 4)) (dss_one (ds_set (i := 4) sc_ends_row.nd (de_add (de_var 4) de_int)))) (dss_cons (ds_set (i := 7) sc_ends_row.nd (de_sub (de_var 7) de_int)) (dss_one (ds_append (j := 6) (de_var 7))))))) (dss_one (ds_ret (de_tup (da_cons (de_ix (de_ix (de_var 2) de_int) (de_var 1)) (da_cons (de_BT bi_tup (by rfl) fx.z_tuple bo_tuple (da_cons (de_var 6) da_nil)) da_nil))))))))))))
theorem ok__law_hand {P : Program} {w : World} {K : PySem.W.Frag} {mg : Str → Option Value} {base : Heap} {T : List (Addr × Str)} {f : Addr} {fd : FuncData} (fx : Fx K mg) (F : FunD K "_law_hand" "_law_hand" (defArgs (top 9)) (defBody (top 9)) (defScope (top 9)) [] [] f fd) (hx : mg "_law_hand" = some (.ref f))  : Dn P w K mg base T 1 "_law_hand" 1 F__law_hand := by
  refine dn_ofD (k := 0) (N := ["script", "cells", "cell"]) (ps := ["script"]) (g := S__law_hand) F hx (F.bindsN (ps := ["script"]) fun _ _ _ _ _ _ us hl => match us, hl with | [_], _ => rfl) sc__law_hand fun cdv A outer s H E hr => ?_
  exact (dss_cons (ds_setLc (i := 1) (own := [("cell", 2)]) rfl sc__law_hand.nd (di_seq (de_sl (de_var 0) do_none (do_some de_int))) (blkOk_by (by show blkC ["script", "cells", "cell"] (defScope (top 9)) _ _ = true; decide +kernel)) (fun _ _ _ _ _ => (pg_name (i := 2) sc__law_hand.nd rfl (by first | exact Or.inl rfl | exact Or.inr rfl))) (fun _ _ _ _ _ => dts_nil) (fun _ _ _ _ _ => (de_B bi_abs (by rfl) fx.z_abs bo_abs (da_cons (de_BT bi_int (by rfl) fx.z_int bo_int (da_cons (de_var 2) da_nil)) da_nil))) hn_dat (sw_true rfl rfl rfl rfl)) (dss_one (ds_ret (de_lst (da_cons (de_var 1) (da_cons de_int (da_cons de_int (da_cons (de_add de_int (de_mulA de_int (de_B bi_len (by rfl) fx.z_len bo_len (da_cons (de_var 1) da_nil)))) (da_cons de_int da_nil)))))))))
theorem ok__law_draw {P : Program} {w : World} {K : PySem.W.Frag} {mg : Str → Option Value} {base : Heap} {T : List (Addr × Str)} {f : Addr} {fd : FuncData} (fx : Fx K mg) (F : FunD K "_law_draw" "_law_draw" (defArgs (top 10)) (defBody (top 10)) (defScope (top 10)) [] [] f fd) (hx : mg "_law_draw" = some (.ref f))  : Dn P w K mg base T 1 "_law_draw" 2 F__law_draw := by
  refine dn_ofD (k := 0) (N := ["hand", "many", "cell", "digit", "number"]) (ps := ["hand", "many"]) (g := S__law_draw) F hx (F.bindsN (ps := ["hand", "many"]) fun _ _ _ _ _ _ us hl => match us, hl with | [_, _], _ => rfl) sc__law_draw fun cdv A outer s H E hr => ?_
  exact (dss_cons (ds_if ((dw_and (dt_cmp (ci_eq hr.units) (de_ix (de_var 0) de_int) de_int) (dw_and1 (dt_cmp (ci_lt hr.units) (de_ix (de_var 0) de_int) (de_B bi_len (by rfl) fx.z_len bo_len (da_cons (de_ix (de_var 0) de_int) da_nil)))))).pt (dss_cons (ds_set (i := 2) sc__law_draw.nd (de_ix (de_ix (de_var 0) de_int) (de_ix (de_var 0) de_int))) (dss_cons (ds_put (j := 0) (de_add (de_ix (de_var 0) de_int) de_int) de_int) (dss_cons (ds_put (j := 0) (de_mod (de_BT bi_int (by rfl) fx.z_int bo_int (da_cons (de_add (de_add (de_mulA (de_ix (de_var 0) de_int) de_int) (de_mulA (de_var 2) de_int)) de_int) da_nil)) de_int) de_int) (dss_one (ds_if (dt_cmp ci_ge (de_var 2) (de_pow de_int de_int)) (dss_one (ds_put (j := 0) (de_var 2) de_int)) dss_nil))))) dss_nil) (dss_cons (ds_if (dt_cmp ci_gt (de_ix (de_var 0) de_int) de_int) (dss_cons (ds_set (i := 3) sc__law_draw.nd (de_mod (de_BT bi_int (by rfl) fx.z_int bo_int (da_cons (de_ix (de_var 0) de_int) da_nil)) (de_var 1))) (dss_cons (ds_put (j := 0) (de_div (de_ix (de_var 0) de_int) (de_var 1)) de_int) (dss_one (ds_ret (de_var 3))))) dss_nil) (dss_cons (ds_put (j := 0) (de_add (de_ix (de_var 0) de_int) de_int) de_int) (dss_cons (ds_set (i := 4) sc__law_draw.nd (de_mod (de_BT bi_int (by rfl) fx.z_int bo_int (da_cons (de_mulA (de_BT bi_int (by rfl) fx.z_int bo_int (da_cons (de_add (de_ix (de_var 0) de_int) (de_mulA de_int (de_ix (de_var 0) de_int))) da_nil)) de_int) da_nil)) de_int)) (dss_cons (ds_set (i := 4) sc__law_draw.nd (de_mod (de_BT bi_int (by rfl) fx.z_int bo_int (da_cons (de_mulA (de_var 4) (de_add (de_div (de_var 4) de_int) de_int)) da_nil)) de_int)) (dss_cons (ds_set (i := 4) sc__law_draw.nd (de_mod (de_BT bi_int (by rfl) fx.z_int bo_int (da_cons (de_mulA (de_var 4) (de_add (de_div (de_var 4) de_int) de_int)) da_nil)) de_int)) (dss_one (ds_ret (de_mod (de_BT bi_int (by rfl) fx.z_int bo_int (da_cons (de_div (de_var 4) de_int) da_nil)) (de_var 1))))))))))
theorem ok__law_any {P : Program} {w : World} {K : PySem.W.Frag} {mg : Str → Option Value} {base : Heap} {T : List (Addr × Str)} {f : Addr} {fd : FuncData} (fx : Fx K mg) (F : FunD K "_law_any" "_law_any" (defArgs (top 11)) (defBody (top 11)) (defScope (top 11)) [] [] f fd) (hx : mg "_law_any" = some (.ref f)) (G__law_draw : Dn P w K mg base T 1 "_law_draw" 2 F__law_draw) : Dn P w K mg base T 2 "_law_any" 2 F__law_any := by
  refine dn_ofD (k := 1) (N := ["hand", "some"]) (ps := ["hand", "some"]) (g := S__law_any) F hx (F.bindsN (ps := ["hand", "some"]) fun _ _ _ _ _ _ us hl => match us, hl with | [_, _], _ => rfl) sc__law_any fun cdv A outer s H E hr => ?_
  exact (dss_one (ds_ret (de_ix (de_var 1) (de_call G__law_draw (hr.mono (by omega)) (by rfl) (takes_of rfl rfl rfl rfl) (da_cons (de_var 0) (da_cons (de_B bi_len (by rfl) fx.z_len bo_len (da_cons (de_var 1) da_nil)) da_nil))))))
theorem okr__law_is {P : Program} {w : World} {K : PySem.W.Frag} {mg : Str → Option Value} {base : Heap} {T : List (Addr × Str)} {f : Addr} {fd : FuncData} (fx : Fx K mg) (F : FunD K "_law_is" "_law_is" (defArgs (top 12)) (defBody (top 12)) (defScope (top 12)) [] [] f fd) (hx : mg "_law_is" = some (.ref f))  : ∀ n, Dn P w K mg base T (0 + n) "_law_is" 2 (R__law_is n)
  | 0 => dn_zeroD (ps := ["said", "due"]) F hx (F.bindsN (ps := ["said", "due"]) fun _ _ _ _ _ _ us hl => match us, hl with | [_, _], _ => rfl)
  | n + 1 => by
    have GR := okr__law_is (P := P) (w := w) (base := base) (T := T) fx F hx  n
    refine dn_ofD (N := ["said", "due", "one", "other"]) (ps := ["said", "due"]) (g := S__law_is (R__law_is n)) F hx (F.bindsN (ps := ["said", "due"]) fun _ _ _ _ _ _ us hl => match us, hl with | [_, _], _ => rfl) sc__law_is fun cdv A outer s H E hr => ?_
    have hr : Room (0 + n) _ := hr
    exact (dss_cons (ds_if (dt_val (de_B bi_isi (by rfl) fx.z_isinstance bo_isinstance (da_cons (de_var 1) (da_cons (de_tup (da_cons (de_ty (by rfl) fx.z_tuple bo_tuple) (da_cons (de_ty (by rfl) fx.z_list bo_list) da_nil))) da_nil)))) (dss_cons (ds_if ((dw_or (dt_cmp (ci_ne hr.units) (de_B bi_isi (by rfl) fx.z_isinstance bo_isinstance (da_cons (de_var 0) (da_cons (de_ty (by rfl) fx.z_tuple bo_tuple) da_nil))) (de_B bi_isi (by rfl) fx.z_isinstance bo_isinstance (da_cons (de_var 1) (da_cons (de_ty (by rfl) fx.z_tuple bo_tuple) da_nil)))) (dw_or1 (dt_cmp (ci_ne hr.units) (de_B bi_isi (by rfl) fx.z_isinstance bo_isinstance (da_cons (de_var 0) (da_cons (de_ty (by rfl) fx.z_list bo_list) da_nil))) (de_B bi_isi (by rfl) fx.z_isinstance bo_isinstance (da_cons (de_var 1) (da_cons (de_ty (by rfl) fx.z_list bo_list) da_nil))))))).pt (dss_one (ds_ret de_bl)) dss_nil) (dss_one (ds_ret (de_and (de_cmp (ci_eq hr.units) (de_B bi_len (by rfl) fx.z_len bo_len (da_cons (de_var 0) da_nil)) (de_B bi_len (by rfl) fx.z_len bo_len (da_cons (de_var 1) da_nil))) (de_one (de_B (bi_all rfl) (by rfl) fx.z_all bo_all (da_cons (de_F (df_lc (own := [("one", 2), ("other", 3)]) rfl sc__law_is.nd (di_zip (by rfl) fx.z_zip (da_cons (de_var 0) (da_cons (de_var 1) da_nil))) (blkOk_by (by show blkC ["said", "due", "one", "other"] (defScope (top 12)) _ _ = true; decide +kernel)) (fun _ _ _ _ _ => (show PG _ _ (tgG _ (.many [2, 3])) from pg_tup rfl (pgs_cons (pg_name (i := 2) sc__law_is.nd rfl (by first | exact Or.inl rfl | exact Or.inr rfl)) (pgs_cons (pg_name (i := 3) sc__law_is.nd rfl (by first | exact Or.inl rfl | exact Or.inr rfl)) pgs_nil)))) (fun _ _ _ _ _ => dts_nil) (fun _ _ _ _ _ => (de_call GR (hr.mono (by omega)) (by rfl) takes0 (da_cons (de_var 2) (da_cons (de_var 3) da_nil)))))) da_nil))))))) dss_nil) (dss_cons (ds_if ((dw_or (dt_cmp ci_is (de_var 1) de_non) (dw_or1 (dt_cmp ci_is (de_var 0) de_non)))).pt (dss_one (ds_ret (de_and (de_cmp ci_is (de_var 1) de_non) (de_one (de_cmp ci_is (de_var 0) de_non))))) dss_nil) (dss_cons (ds_if ((dw_or (dt_cmp (ci_ne hr.units) (de_B bi_isi (by rfl) fx.z_isinstance bo_isinstance (da_cons (de_var 0) (da_cons (de_ty (by rfl) fx.z_bool bo_bool) da_nil))) (de_B bi_isi (by rfl) fx.z_isinstance bo_isinstance (da_cons (de_var 1) (da_cons (de_ty (by rfl) fx.z_bool bo_bool) da_nil)))) (dw_or1 (dt_cmp (ci_ne hr.units) (de_B bi_isi (by rfl) fx.z_isinstance bo_isinstance (da_cons (de_var 0) (da_cons (de_ty (by rfl) fx.z_int bo_int) da_nil))) (de_B bi_isi (by rfl) fx.z_isinstance bo_isinstance (da_cons (de_var 1) (da_cons (de_ty (by rfl) fx.z_int bo_int) da_nil))))))).pt (dss_one (ds_ret de_bl)) dss_nil) (dss_one (ds_ret (de_and (de_cmp (ci_eq hr.units) (de_B bi_isi (by rfl) fx.z_isinstance bo_isinstance (da_cons (de_var 0) (da_cons (de_ty (by rfl) fx.z_str bo_str) da_nil))) (de_B bi_isi (by rfl) fx.z_isinstance bo_isinstance (da_cons (de_var 1) (da_cons (de_ty (by rfl) fx.z_str bo_str) da_nil)))) (de_one (de_cmp (ci_eq hr.units) (de_var 0) (de_var 1)))))))))
theorem ok__law_is {P : Program} {w : World} {K : PySem.W.Frag} {mg : Str → Option Value} {base : Heap} {T : List (Addr × Str)} {f : Addr} {fd : FuncData} (fx : Fx K mg) (F : FunD K "_law_is" "_law_is" (defArgs (top 12)) (defBody (top 12)) (defScope (top 12)) [] [] f fd) (hx : mg "_law_is" = some (.ref f))  : Dn P w K mg base T 5 "_law_is" 2 F__law_is := dn_mono (okr__law_is fx F hx  4) (by omega)
theorem ok__law_more {P : Program} {w : World} {K : PySem.W.Frag} {mg : Str → Option Value} {base : Heap} {T : List (Addr × Str)} {f : Addr} {fd : FuncData} (fx : Fx K mg) (F : FunD K "_law_more" "_law_more" (defArgs (top 13)) (defBody (top 13)) (defScope (top 13)) [] [] f fd) (hx : mg "_law_more" = some (.ref f))  : Dn P w K mg base T 1 "_law_more" 1 F__law_more := by
  refine dn_ofD (k := 0) (N := ["values", "many", "found", "size", "begin", "end", "first", "last", "at"]) (ps := ["values"]) (g := S__law_more) F hx (F.bindsN (ps := ["values"]) fun _ _ _ _ _ _ us hl => match us, hl with | [_], _ => rfl) sc__law_more fun cdv A outer s H E hr => ?_
  exact (dss_cons (ds_set (i := 1) sc__law_more.nd (de_B bi_len (by rfl) fx.z_len bo_len (da_cons (de_var 0) da_nil))) (dss_cons (ds_rows (i := 2) (own := [("at", 8)]) rfl sc__law_more.nd (di_rng1 (by rfl) fx.z_range (da_cons (de_add (de_var 1) de_int) da_nil)) (blkOk_by (by show blkC ["values", "many", "found", "size", "begin", "end", "first", "last", "at"] (defScope (top 13)) _ _ = true; decide +kernel)) (fun _ _ _ _ _ => (pg_name (i := 8) sc__law_more.nd rfl (by first | exact Or.inl rfl | exact Or.inr rfl))) (fun _ _ _ _ _ => (df_mul (de_lst (da_cons de_int da_nil)) (de_add (de_var 1) de_int))) (sw_true rfl rfl rfl rfl)) (dss_cons (ds_for (passes_of rfl) rfl (di_rng2 (by rfl) fx.z_range (da_cons de_int (da_cons (de_add (de_var 1) de_int) da_nil))) (pg_name (i := 3) sc__law_more.nd rfl (by first | exact Or.inl rfl | exact Or.inr rfl)) (dss_one (ds_for (passes_of rfl) rfl (di_rng1 (by rfl) fx.z_range (da_cons (de_add (de_sub (de_var 1) (de_var 3)) de_int) da_nil)) (pg_name (i := 4) sc__law_more.nd rfl (by first | exact Or.inl rfl | exact Or.inr rfl)) (dss_cons (ds_set (i := 5) sc__law_more.nd (de_add (de_var 4) (de_var 3))) (dss_cons (ds_par (i := 6) (j := 7) rfl sc__law_more.nd (da_cons (de_sub (de_ix (de_var 0) (de_var 4)) (de_ix (de_ix (de_var 2) (de_add (de_var 4) de_int)) (de_var 5))) (da_cons (de_sub (de_ix (de_var 0) (de_sub (de_var 5) de_int)) (de_ix (de_ix (de_var 2) (de_var 4)) (de_sub (de_var 5) de_int))) da_nil))) (dss_one (ds_putR (j := 2) (de_var 4) (de_B (bi_max rfl) (by rfl) fx.z_max bo_max (da_cons (de_var 6) (da_cons (de_var 7) da_nil))) (de_var 5)))))))) (dss_one (ds_ret (de_var 2))))))
theorem ok__law_play {P : Program} {w : World} {K : PySem.W.Frag} {mg : Str → Option Value} {base : Heap} {T : List (Addr × Str)} {f : Addr} {fd : FuncData} (fx : Fx K mg) (F : FunD K "_law_play" "_law_play" (defArgs (top 14)) (defBody (top 14)) (defScope (top 14)) [] [] f fd) (hx : mg "_law_play" = some (.ref f))  : Dn P w K mg base T 1 "_law_play" 2 F__law_play := by
  refine dn_ofD (k := 0) (N := ["values", "found", "begin", "end", "row", "first"]) (ps := ["values", "found"]) (g := S__law_play) F hx (F.bindsN (ps := ["values", "found"]) fun _ _ _ _ _ _ us hl => match us, hl with | [_, _], _ => rfl) sc__law_play fun cdv A outer s H E hr => ?_
  exact (dss_cons (ds_parN3 (i := 2) (j := 3) (l := 4) rfl sc__law_play.nd (dns_cons (dn_E de_int) (dns_cons (dn_E (de_B bi_len (by rfl) fx.z_len bo_len (da_cons (de_var 0) da_nil))) (dns_cons (dn_F (df_lst da_nil)) dns_nil)))) (dss_cons (ds_while (n := 100) (passes_of rfl) (dt_cmp (ci_lt hr.units) (de_var 2) (de_var 3)) (dss_cons (ds_set (i := 5) sc__law_play.nd (de_sub (de_ix (de_var 0) (de_var 2)) (de_ix (de_ix (de_var 1) (de_add (de_var 2) de_int)) (de_var 3)))) (dss_one (ds_if (dt_cmp (ci_eq hr.units) (de_var 5) (de_ix (de_ix (de_var 1) (de_var 2)) (de_var 3))) (dss_cons (ds_append (j := 4) (de_var 2)) (dss_one (ds_set (i := 2) sc__law_play.nd (de_add (de_var 2) de_int)))) (dss_cons (ds_set (i := 3) sc__law_play.nd (de_sub (de_var 3) de_int)) (dss_one (ds_append (j := 4) (de_var 3)))))))) (dss_one (ds_ret (de_BT bi_tup (by rfl) fx.z_tuple bo_tuple (da_cons (de_var 4) da_nil))))))
theorem okr__law_by_play {P : Program} {w : World} {K : PySem.W.Frag} {mg : Str → Option Value} {base : Heap} {T : List (Addr × Str)} {f : Addr} {fd : FuncData} (fx : Fx K mg) (F : FunD K "_law_by_play" "_law_by_play" (defArgs (top 15)) (defBody (top 15)) (defScope (top 15)) [] [] f fd) (hx : mg "_law_by_play" = some (.ref f))  : ∀ n, Dn P w K mg base T (0 + n) "_law_by_play" 1 (R__law_by_play n)
  | 0 => dn_zeroD (ps := ["values"]) F hx (F.bindsN (ps := ["values"]) fun _ _ _ _ _ _ us hl => match us, hl with | [_], _ => rfl)
  | n + 1 => by
    have GR := okr__law_by_play (P := P) (w := w) (base := base) (T := T) fx F hx  n
    refine dn_ofD (N := ["values"]) (ps := ["values"]) (g := S__law_by_play (R__law_by_play n)) F hx (F.bindsN (ps := ["values"]) fun _ _ _ _ _ _ us hl => match us, hl with | [_], _ => rfl) sc__law_by_play fun cdv A outer s H E hr => ?_
    have hr : Room (0 + n) _ := hr
    exact (dss_cons (ds_if (dt_cmp (ci_eq hr.units) (de_B bi_len (by rfl) fx.z_len bo_len (da_cons (de_var 0) da_nil)) de_int) (dss_one (ds_ret de_int)) dss_nil) (dss_one (ds_ret (de_B (bi_max rfl) (by rfl) fx.z_max bo_max (da_cons (de_sub (de_ix (de_var 0) de_int) (de_call GR (hr.mono (by omega)) (by rfl) (takes_of rfl rfl rfl rfl) (da_cons (de_sl (de_var 0) (do_some de_int) do_none) da_nil))) (da_cons (de_sub (de_ix (de_var 0) (de_neg de_int)) (de_call GR (hr.mono (by omega)) (by rfl) (takes_of rfl rfl rfl rfl) (da_cons (de_sl (de_var 0) do_none (do_some (de_neg de_int))) da_nil))) da_nil))))))
theorem ok__law_by_play {P : Program} {w : World} {K : PySem.W.Frag} {mg : Str → Option Value} {base : Heap} {T : List (Addr × Str)} {f : Addr} {fd : FuncData} (fx : Fx K mg) (F : FunD K "_law_by_play" "_law_by_play" (defArgs (top 15)) (defBody (top 15)) (defScope (top 15)) [] [] f fd) (hx : mg "_law_by_play" = some (.ref f))  : Dn P w K mg base T 11 "_law_by_play" 1 F__law_by_play := dn_mono (okr__law_by_play fx F hx  10) (by omega)
theorem ok__law_row_right {P : Program} {w : World} {K : PySem.W.Frag} {mg : Str → Option Value} {base : Heap} {T : List (Addr × Str)} {f : Addr} {fd : FuncData} (fx : Fx K mg) (F : FunD K "_law_row_right" "_law_row_right" (defArgs (top 16)) (defBody (top 16)) (defScope (top 16)) [] [] f fd) (hx : mg "_law_row_right" = some (.ref f)) (G_ends_row : Dn P w K mg base T 3 "ends_row" 1 F_ends_row) (G__law_is : Dn P w K mg base T 5 "_law_is" 2 F__law_is) (G__law_more : Dn P w K mg base T 1 "_law_more" 1 F__law_more) (G__law_play : Dn P w K mg base T 1 "_law_play" 2 F__law_play) (G__law_by_play : Dn P w K mg base T 11 "_law_by_play" 1 F__law_by_play) : Dn P w K mg base T 12 "_law_row_right" 1 F__law_row_right := by
  refine dn_ofD (k := 11) (N := ["values", "found", "due", "told", "left", "total", "turn", "at", "by", "one"]) (ps := ["values"]) (g := S__law_row_right) F hx (F.bindsN (ps := ["values"]) fun _ _ _ _ _ _ us hl => match us, hl with | [_], _ => rfl) sc__law_row_right fun cdv A outer s H E hr => ?_
  exact (dss_cons (ds_set (i := 1) sc__law_row_right.nd (de_call G__law_more (hr.mono (by omega)) (by rfl) (takes_of rfl rfl rfl rfl) (da_cons (de_var 0) da_nil))) (dss_cons (ds_set (i := 2) sc__law_row_right.nd (de_ix (de_ix (de_var 1) de_int) (de_B bi_len (by rfl) fx.z_len bo_len (da_cons (de_var 0) da_nil)))) (dss_cons (ds_set (i := 3) sc__law_row_right.nd (de_call G_ends_row (hr.mono (by omega)) (by rfl) (takes_of rfl rfl rfl rfl) (da_cons (de_var 0) da_nil))) (dss_cons (ds_if ((dw_or (dt_not (dt_val (de_call G__law_is (hr.mono (by omega)) (by rfl) (takes_of rfl rfl rfl rfl) (da_cons (de_var 3) (da_cons (de_tup (da_cons (de_var 2) (da_cons (de_call G__law_play (hr.mono (by omega)) (by rfl) (takes_of rfl rfl rfl rfl) (da_cons (de_var 0) (da_cons (de_var 1) da_nil))) da_nil))) da_nil))))) (dw_or1 (dt_cmp (ci_ne hr.units) (de_ix (de_call G_ends_row (hr.mono (by omega)) (by rfl) (takes_of rfl rfl rfl rfl) (da_cons (de_rev (de_var 0)) da_nil)) de_int) (de_var 2))))).pt (dss_one (ds_ret de_bl)) dss_nil) (dss_cons (ds_if ((dw_and (dt_cmp ci_le (de_B bi_len (by rfl) fx.z_len bo_len (da_cons (de_var 0) da_nil)) de_int) (dw_and1 (dt_cmp (ci_ne hr.units) (de_call G__law_by_play (hr.mono (by omega)) (by rfl) (takes_of rfl rfl rfl rfl) (da_cons (de_var 0) da_nil)) (de_var 2))))).pt (dss_one (ds_ret de_bl)) dss_nil) (dss_cons (ds_parN (i := 4) (j := 5) rfl sc__law_row_right.nd (dns_cons (dn_F (df_lst (da_cons de_int (da_cons (de_B bi_len (by rfl) fx.z_len bo_len (da_cons (de_var 0) da_nil)) da_nil)))) (dns_cons (dn_E de_int) dns_nil))) (dss_cons (ds_for (passes_of rfl) rfl (di_enumA (by rfl) fx.z_enumerate (da_cons (de_ix (de_var 3) de_int) da_nil)) (show PG _ _ (tgG _ (.many [6, 7])) from pg_tup rfl (pgs_cons (pg_name (i := 6) sc__law_row_right.nd rfl (by first | exact Or.inl rfl | exact Or.inr rfl)) (pgs_cons (pg_name (i := 7) sc__law_row_right.nd rfl (by first | exact Or.inl rfl | exact Or.inr rfl)) pgs_nil))) (dss_cons (ds_if (dt_cmp (ci_eq hr.units) (de_var 7) (de_ix (de_var 4) de_int)) (dss_one (ds_put (j := 4) (de_add (de_var 7) de_int) de_int)) (dss_one (ds_if (dt_cmp (ci_eq hr.units) (de_var 7) (de_sub (de_ix (de_var 4) de_int) de_int)) (dss_one (ds_put (j := 4) (de_var 7) de_int)) (dss_one (ds_ret de_bl))))) (dss_one (ds_set (i := 5) sc__law_row_right.nd (de_add (de_var 5) (de_if (dt_cmp (ci_eq hr.units) (de_var 6) (de_mulA de_int (de_div (de_var 6) de_int))) (de_ix (de_var 0) (de_var 7)) (de_sub de_int (de_ix (de_var 0) (de_var 7))))))))) (dss_cons (ds_if ((dw_or (dt_cmp (ci_ne hr.units) (de_ix (de_var 4) de_int) (de_ix (de_var 4) de_int)) (dw_or (dt_cmp (ci_ne hr.units) (de_var 5) (de_var 2)) (dw_or1 (dt_cmp (ci_ne hr.units) (de_B bi_len (by rfl) fx.z_len bo_len (da_cons (de_ix (de_var 3) de_int) da_nil)) (de_B bi_len (by rfl) fx.z_len bo_len (da_cons (de_var 0) da_nil))))))).pt (dss_one (ds_ret de_bl)) dss_nil) (dss_cons (ds_if (dt_cmp (ci_eq hr.units) (de_B bi_len (by rfl) fx.z_len bo_len (da_cons (de_var 0) da_nil)) (de_mulA de_int (de_div (de_B bi_len (by rfl) fx.z_len bo_len (da_cons (de_var 0) da_nil)) de_int))) (dss_cons (ds_set (i := 8) sc__law_row_right.nd (de_if (dt_cmp (ci_lt hr.units) (de_B (bi_max rfl) (by rfl) fx.z_max bo_max (da_cons (de_add (de_F (df_lc (own := [("one", 9)]) rfl sc__law_row_right.nd (di_seq (de_var 0)) (blkOk_by (by show blkC ["values", "found", "due", "told", "left", "total", "turn", "at", "by", "one"] (defScope (top 16)) _ _ = true; decide +kernel)) (fun _ _ _ _ _ => (pg_name (i := 9) sc__law_row_right.nd rfl (by first | exact Or.inl rfl | exact Or.inr rfl))) (fun _ _ _ _ _ => dts_nil) (fun _ _ _ _ _ => (de_B bi_abs (by rfl) fx.z_abs bo_abs (da_cons (de_var 9) da_nil))))) (de_lst (da_cons de_int da_nil))) da_nil)) (de_pow de_int de_int)) de_int de_int)) (dss_one (ds_ret (de_and (de_cmp ci_ge (de_var 2) de_int) (de_one (de_cmp (ci_eq hr.units) (de_ix (de_call G_ends_row (hr.mono (by omega)) (by rfl) (takes_of rfl rfl rfl rfl) (da_cons (de_BT bi_tup (by rfl) fx.z_tuple bo_tuple (da_cons (de_F (df_lc (own := [("one", 9)]) rfl sc__law_row_right.nd (di_seq (de_var 0)) (blkOk_by (by show blkC ["values", "found", "due", "told", "left", "total", "turn", "at", "by", "one"] (defScope (top 16)) _ _ = true; decide +kernel)) (fun _ _ _ _ _ => (pg_name (i := 9) sc__law_row_right.nd rfl (by first | exact Or.inl rfl | exact Or.inr rfl))) (fun _ _ _ _ _ => dts_nil) (fun _ _ _ _ _ => (de_add (de_var 9) (de_var 8))))) da_nil)) da_nil)) de_int) (de_var 2))))))) dss_nil) (dss_one (ds_ret de_bl)))))))))))
end K64

set_option Elab.async false
set_option linter.all false
set_option maxRecDepth 100000
set_option maxHeartbeats 4000000
/-! law k64: the law's own def. -/
namespace K64
open PySem PySem.Spec PyProof.Rows L2 DL
def lamq : Str := (PySem.W.envX "law" (defScope (top 18)) 0 0 (.ref 0) []).qual ++ "<lambda>"
structure Rz (K : PySem.W.Frag) (mg : Str → Option Value) : Prop where
  ex : ∃ (g : Addr) (gd : FuncData) (CS CB : Addr), FunD K "_law_raised" "_law_raised" (defArgs (top 17)) (defBody (top 17)) (defScope (top 17)) [] [] g gd ∧ mg "_law_raised" = some (.ref g) ∧ Binds K gd ["call"] [] ∧ mg "PlayError" = some (.ref CS) ∧ mg "BadNumber" = some (.ref CB) ∧
    ∀ c b, tbl c = some b → ∃ Dc, mg c = some (.ref Dc) ∧ ExcC K Dc ∧ PySem.W.exmOne K (.ref Dc) (.ref CS) = some true ∧ PySem.W.kitOne K (.ref Dc) (.ref CB) = some b
theorem ok_law {P : Program} {w : World} {K : PySem.W.Frag} {mg : Str → Option Value} {base : Heap} {f c Pt : Addr} {fd : FuncData} (fx : Fx K mg) (rz : Rz K mg) (F : FunD K "law" "law" (defArgs (top 18)) (defBody (top 18)) (defScope (top 18)) [] [] f fd) (hc : fd.code = .ref c) (TB : LamX.TabB base mg c Pt) (G_ends_row : Dn P w K mg base [(Pt, lamq)] 3 "ends_row" 1 F_ends_row) (G__law_hand : Dn P w K mg base [(Pt, lamq)] 1 "_law_hand" 1 F__law_hand) (G__law_draw : Dn P w K mg base [(Pt, lamq)] 1 "_law_draw" 2 F__law_draw) (G__law_any : Dn P w K mg base [(Pt, lamq)] 2 "_law_any" 2 F__law_any) (G__law_is : Dn P w K mg base [(Pt, lamq)] 5 "_law_is" 2 F__law_is) (G__law_row_right : Dn P w K mg base [(Pt, lamq)] 12 "_law_row_right" 1 F__law_row_right)
    (plain : ∀ ns : List Int, ns.length ≤ 63 → (∀ z ∈ ns, Builtin.Int.intBits z ≤ 1048576) → ∃ (cells : List Int) (k : Int), (∀ d, (d = .sc ns ∨ d = .lst (ns.map D.int)) → S_law1 (some (.d d) :: List.replicate 9 none) [] = .ok (.d (.lst [.lst (cells.map D.int), .int 0, .int 0, .int k, .int 0])) []) ∧
      ∃ M', S_law (none :: some (.d (.ob 0)) :: List.replicate 8 none) [.lst [.ob 1, .int 0, .int 0, .int k, .int 0], .lst (cells.map D.int)] = .rt (.bl true) M') :
    FnOk P w K mg base (L2.CX P w) 15 f fd ["script"] (spLaw K Pt) := by
  refine fnOk_code (k := 14) (N := ["script", "hand", "most", "wide", "values", "at", "odd", "bad", "thing", "turn"]) F hc sc_law (fun vs H Q E h => ?_) fun A outer s H vs Q E hr h => ?_
  · obtain ⟨a, ns, rfl, _⟩ := h
    rfl
  · obtain ⟨a, ns, rfl, hS, hl, hz, hP, hQ⟩ := h
    obtain ⟨cells, k, p1, p2⟩ := plain ns hl hz
    refine ⟨tSeq (tAsg (tE ⟨K, mg, [(Pt, lamq)], wE E⟩ S_law1) (gName 1)) (tS ⟨K, mg, [(Pt, lamq)], wE E⟩ S_law), ?_, law_run (C := ⟨K, mg, [(Pt, lamq)], wE E⟩) (n := 8) rfl hP hS p1 p2 hQ⟩
    obtain ⟨g, gd, CS, CB, Fr, r1, r2, r3, r4, r5⟩ := rz.ex
    exact (pss_cons (ps_set (i := 1) sc_law.nd rfl (by first | exact Or.inl rfl | exact Or.inr rfl) (de_call G__law_hand (hr.mono (by omega)) (by rfl) (takes_of rfl rfl rfl rfl) (da_cons (de_var 0) da_nil))) (dss_cons (ds_for (passes_of rfl) rfl (di_seq (de_tup (da_cons de_int (da_cons de_int (da_cons de_int (da_cons de_int da_nil)))))) (pg_name (i := 2) sc_law.nd rfl (by first | exact Or.inl rfl | exact Or.inr rfl)) (dss_cons (ds_set (i := 3) sc_law.nd (de_call G__law_any (hr.mono (by omega)) (by rfl) (takes_of rfl rfl rfl rfl) (da_cons (de_var 1) (da_cons (de_lst (da_cons de_int (da_cons de_int (da_cons (de_pow de_int de_int) da_nil)))) da_nil)))) (dss_cons (ds_set (i := 4) sc_law.nd (de_BT bi_tup (by rfl) fx.z_tuple bo_tuple (da_cons (de_F (df_lc (own := [("turn", 9)]) rfl sc_law.nd (di_rng1 (by rfl) fx.z_range (da_cons (de_call G__law_draw (hr.mono (by omega)) (by rfl) (takes_of rfl rfl rfl rfl) (da_cons (de_var 1) (da_cons (de_add (de_var 2) de_int) da_nil))) da_nil)) (blkOk_by (by show blkC ["script", "hand", "most", "wide", "values", "at", "odd", "bad", "thing", "turn"] (defScope (top 18)) _ _ = true; decide +kernel)) (fun _ _ _ _ _ => (pg_name (i := 9) sc_law.nd rfl (by first | exact Or.inl rfl | exact Or.inr rfl))) (fun _ _ _ _ _ => dts_nil) (fun _ _ _ _ _ => (de_sub (de_call G__law_draw (hr.mono (by omega)) (by rfl) takes0 (da_cons (de_var 1) (da_cons (de_add (de_mulA de_int (de_var 3)) de_int) da_nil))) (de_var 3))))) da_nil))) (dss_cons (ds_set (i := 4) sc_law.nd (de_call G__law_any (hr.mono (by omega)) (by rfl) (takes_of rfl rfl rfl rfl) (da_cons (de_var 1) (da_cons (de_lst (da_cons (de_var 4) (da_cons (de_var 4) (da_cons (de_BT bi_tup (by rfl) fx.z_tuple bo_tuple (da_cons (de_B bi_sorted (by rfl) fx.z_sorted bo_sorted (da_cons (de_var 4) da_nil)) da_nil)) (da_cons (de_mulA (de_sl (de_var 4) do_none (do_some de_int)) (de_B bi_len (by rfl) fx.z_len bo_len (da_cons (de_var 4) da_nil))) da_nil))))) da_nil)))) (dss_cons (ds_if (dt_not (dt_val (de_call G__law_row_right (hr.mono (by omega)) (by rfl) (takes_of rfl rfl rfl rfl) (da_cons (de_var 4) da_nil)))) (dss_one (ds_ret de_bl)) dss_nil) (dss_cons (ds_set (i := 5) sc_law.nd (de_call G__law_draw (hr.mono (by omega)) (by rfl) (takes_of rfl rfl rfl rfl) (da_cons (de_var 1) (da_cons (de_add (de_B bi_len (by rfl) fx.z_len bo_len (da_cons (de_var 4) da_nil)) de_int) da_nil)))) (dss_cons (ds_set (i := 6) sc_law.nd (de_call G__law_any (hr.mono (by omega)) (by rfl) (takes_of rfl rfl rfl rfl) (da_cons (de_var 1) (da_cons (de_lst (da_cons de_non (da_cons de_bl (da_cons de_str (da_cons (de_tup (da_cons de_int da_nil)) (da_cons (de_add (de_pow de_int de_int) de_int) (da_cons (de_sub (de_neg (de_pow de_int de_int)) de_int) (da_cons (de_tup (da_cons de_int (da_cons de_int da_nil))) da_nil)))))))) da_nil)))) (dss_cons (ds_set (i := 7) sc_law.nd (de_lst (da_cons (de_add (de_add (de_sl (de_var 4) do_none (do_some (de_var 5))) (de_tup (da_cons (de_var 6) da_nil))) (de_sl (de_var 4) (do_some (de_var 5)) do_none)) (da_cons (de_BT bi_lst (by rfl) fx.z_list bo_list (da_cons (de_var 4) da_nil)) (da_cons de_non (da_cons de_int (da_cons de_dk (da_cons de_str (da_cons (de_mulA (de_tup (da_cons de_int da_nil)) de_int) da_nil))))))))) (dss_cons (ds_set (i := 8) sc_law.nd (de_call G__law_any (hr.mono (by omega)) (by rfl) (takes_of rfl rfl rfl rfl) (da_cons (de_var 1) (da_cons (de_var 7) da_nil)))) (dss_one (ds_if (dt_not (dt_val (de_raised (pe := "PlayError") (bn := "BadNumber") (tb := tbl) (k := 12) Fr r1 r2 rfl sc__law_raised rfl r3 rfl fx.z_isinstance rfl r4 rfl rfl r5 TB rfl rfl hr (by rfl) (fun A outer s H E f c' hr => (de_call G_ends_row (hr.mono (by omega)) (by rfl) (takes_of rfl rfl rfl rfl) (da_cons (de_var 8) da_nil))) (LamX.lamS_by (by show LamX.lamSB (defScope (top 18)) _ = true; decide +kernel))))) (dss_one (ds_ret de_bl)) dss_nil))))))))))) (dss_one (ds_ret (de_call G__law_is (hr.mono (by omega)) (by rfl) (takes_of rfl rfl rfl rfl) (da_cons (de_lst (da_cons (de_call G_ends_row (hr.mono (by omega)) (by rfl) (takes_of rfl rfl rfl rfl) (da_cons (de_tup da_nil) da_nil)) (da_cons (de_call G_ends_row (hr.mono (by omega)) (by rfl) (takes_of rfl rfl rfl rfl) (da_cons (de_tup (da_cons de_int da_nil)) da_nil)) (da_cons (de_call G_ends_row (hr.mono (by omega)) (by rfl) (takes_of rfl rfl rfl rfl) (da_cons (de_tup (da_cons de_int (da_cons de_int (da_cons de_int (da_cons de_int da_nil))))) da_nil)) da_nil)))) (da_cons (de_lst (da_cons (de_tup (da_cons de_int (da_cons (de_tup da_nil) da_nil))) (da_cons (de_tup (da_cons de_int (da_cons (de_tup (da_cons de_int da_nil)) da_nil))) (da_cons (de_tup (da_cons de_int (da_cons (de_tup (da_cons de_int (da_cons de_int (da_cons de_int (da_cons de_int da_nil))))) da_nil))) da_nil)))) da_nil)))))))
end K64

set_option linter.all false
/-! the game of the row's ends, plainly -/
namespace K64
/-- what the one at turn gets more, of s things from place i on -/
def gm (v : Nat → Int) : Nat → Nat → Int
  | 0, _ => 0
  | s + 1, i => max (v i - gm v s (i + 1)) (v (i + s) - gm v s i)
theorem gm_congr {v u : Nat → Int} : ∀ (s i j : Nat), (∀ k, k < s → v (i + k) = u (j + k)) → gm v s i = gm u s j
  | 0, _, _, _ => rfl
  | s + 1, i, j, h => by
    have h0 : v i = u j := by simpa using h 0 (by omega)
    have h1 : v (i + s) = u (j + s) := h s (by omega)
    have e1 : gm v s (i + 1) = gm u s (j + 1) := gm_congr s (i + 1) (j + 1) fun k hk => by
      have := h (k + 1) (by omega)
      rw [show i + 1 + k = i + (k + 1) by omega, show j + 1 + k = j + (k + 1) by omega]; exact this
    have e2 : gm v s i = gm u s j := gm_congr s i j fun k hk => h k (by omega)
    show max (v i - gm v s (i + 1)) (v (i + s) - gm v s i) = max (u j - gm u s (j + 1)) (u (j + s) - gm u s j)
    rw [h0, h1, e1, e2]
theorem gm_rev {v u : Nat → Int} (n : Nat) (h : ∀ k, k < n → u k = v (n - 1 - k)) : ∀ (s i : Nat), i + s ≤ n → gm u s i = gm v s (n - i - s)
  | 0, _, _ => rfl
  | s + 1, i, hi => by
    have e1 := gm_rev n h s (i + 1) (by omega)
    have e2 := gm_rev n h s i (by omega)
    have h1 := h i (by omega)
    have h2 := h (i + s) (by omega)
    show max (u i - gm u s (i + 1)) (u (i + s) - gm u s i) = max (v (n - i - (s + 1)) - gm v s (n - i - (s + 1) + 1)) (v (n - i - (s + 1) + s) - gm v s (n - i - (s + 1)))
    rw [e1, e2, h1, h2, show n - (i + 1) - s = n - i - (s + 1) by omega, show n - i - s = n - i - (s + 1) + 1 by omega, show n - 1 - i = n - i - (s + 1) + s by omega, show n - 1 - (i + s) = n - i - (s + 1) by omega]
    omega
/-- signs in turn -/
def alt (v : Nat → Int) : Nat → Nat → Int
  | 0, _ => 0
  | s + 1, i => v i - alt v s (i + 1)
theorem alt_last (v : Nat → Int) : ∀ (s i : Nat), alt v (s + 1) i = alt v s i + (if s % 2 = 0 then v (i + s) else 0 - v (i + s))
  | 0, i => by simp [alt]
  | s + 1, i => by
    show v i - alt v (s + 1) (i + 1) = v i - alt v s (i + 1) + _
    rw [alt_last v s (i + 1), show i + 1 + s = i + (s + 1) by omega]
    by_cases h : s % 2 = 0
    · have : (s + 1) % 2 ≠ 0 := by omega
      rw [if_pos h, if_neg this]; omega
    · have : (s + 1) % 2 = 0 := by omega
      rw [if_neg h, if_pos this]; omega
theorem gm_alt (v : Nat → Int) : ∀ (s i : Nat), (s % 2 = 0 → alt v s i ≤ gm v s i ∧ 0 - alt v s i ≤ gm v s i) ∧ (s % 2 = 1 → gm v s i ≤ alt v s i)
  | 0, i => ⟨fun _ => ⟨by simp [alt, gm], by simp [alt, gm]⟩, fun h => by omega⟩
  | s + 1, i => by
    have ih1 := gm_alt v s (i + 1)
    have ih2 := gm_alt v s i
    have hl := alt_last v s i
    have hf : alt v (s + 1) i = v i - alt v s (i + 1) := rfl
    have hg : gm v (s + 1) i = max (v i - gm v s (i + 1)) (v (i + s) - gm v s i) := rfl
    refine ⟨fun h => ?_, fun h => ?_⟩
    · have o : s % 2 = 1 := by omega
      rw [if_neg (by omega)] at hl
      have a1 := ih1.2 o
      have a2 := ih2.2 o
      rw [hg]
      refine ⟨?_, ?_⟩ <;> omega
    · have o : s % 2 = 0 := by omega
      rw [if_pos o] at hl
      have a1 := (ih1.1 o)
      have a2 := (ih2.1 o)
      rw [hg]
      omega
theorem gm_even (v : Nat → Int) (s i : Nat) (h : s % 2 = 0) : 0 ≤ gm v s i := by
  have := (gm_alt v s i).1 h
  omega
theorem gm_add (v : Nat → Int) (c : Int) : ∀ (s i : Nat), gm (fun k => v k + c) s i = gm v s i + (if s % 2 = 0 then 0 else c)
  | 0, _ => by simp [gm]
  | s + 1, i => by
    have e1 := gm_add v c s (i + 1)
    have e2 := gm_add v c s i
    show max (v i + c - gm (fun k => v k + c) s (i + 1)) (v (i + s) + c - gm (fun k => v k + c) s i) = max (v i - gm v s (i + 1)) (v (i + s) - gm v s i) + _
    rw [e1, e2]
    by_cases h : s % 2 = 0
    · rw [if_pos h, if_neg (by omega)]; omega
    · rw [if_neg h, if_pos (by omega)]; omega
/-- how the best play goes: the places taken -/
def play (v : Nat → Int) : Nat → Nat → List Nat
  | 0, _ => []
  | s + 1, i => if v i - gm v s (i + 1) = gm v (s + 1) i then i :: play v s (i + 1) else (i + s) :: play v s i
theorem play_len (v : Nat → Int) : ∀ s i, (play v s i).length = s
  | 0, _ => rfl
  | s + 1, i => by
    unfold play
    split
    · rw [List.length_cons, play_len v s (i + 1)]
    · rw [List.length_cons, play_len v s i]
end K64

set_option Elab.async false
set_option linter.all false
set_option maxRecDepth 100000
set_option maxHeartbeats 2000000
/-! law k64, plainly: the tables. -/
namespace K64
open PySem PySem.Spec PyProof.Rows L2 DL
def vf (vs : List Int) : Nat → Int := fun k => vs.getD k 0
def mkr (n : Nat) (t : Nat → Nat → Int) (i : Nat) : List D := (List.range (n + 1)).map fun j => D.int (t i j)
def mk (n : Nat) (t : Nat → Nat → Int) : List (List D) := (List.range (n + 1)).map (mkr n t)
def up (t : Nat → Nat → Int) (a b : Nat) (x : Int) : Nat → Nat → Int := fun i j => if i = a ∧ j = b then x else t i j
theorem mkr_len (n t i) : (mkr n t i).length = n + 1 := by simp [mkr]
theorem mk_len (n t) : (mk n t).length = n + 1 := by simp [mk]
theorem mkr_get {n t i j} (h : j ≤ n) : (mkr n t i)[j]? = some (.int (t i j)) := by
  unfold mkr; rw [List.getElem?_map, List.getElem?_range (by omega)]; rfl
theorem mk_get {n t i} (h : i ≤ n) : (mk n t)[i]? = some (mkr n t i) := by
  unfold mk; rw [List.getElem?_map, List.getElem?_range (by omega)]; rfl
theorem mk_set {n t a b x} (ha : a ≤ n) (hb : b ≤ n) : (mk n t).set a ((mkr n t a).set b (.int x)) = mk n (up t a b x) := by
  apply List.ext_getElem?
  intro i
  by_cases hi : i ≤ n
  · rw [mk_get hi]
    by_cases e : i = a
    · subst e
      rw [List.getElem?_set_self (by rw [mk_len]; omega)]
      congr 1
      apply List.ext_getElem?
      intro j
      by_cases hj : j ≤ n
      · rw [mkr_get hj]
        by_cases e : j = b
        · subst e
          rw [List.getElem?_set_self (by rw [mkr_len]; omega)]
          simp [up]
        · rw [List.getElem?_set_ne (fun z => e z.symm), mkr_get hj]
          simp [up, e]
      · rw [List.getElem?_eq_none (by rw [List.length_set, mkr_len]; omega), List.getElem?_eq_none (by rw [mkr_len]; omega)]
    · rw [List.getElem?_set_ne (fun z => e z.symm), mk_get hi]
      congr 1
      unfold mkr
      apply List.map_congr_left
      intro j _
      simp [up, e]
  · rw [List.getElem?_eq_none (by rw [List.length_set, mk_len]; omega), List.getElem?_eq_none (by rw [mk_len]; omega)]
theorem vf_get {vs : List Int} {i : Nat} (h : i < vs.length) : vs[i]? = some (vf vs i) := by
  unfold vf; rw [List.getElem?_eq_getElem h]; simp [List.getD, h]
variable {vs : List Int} {n : Nat} {t : Nat → Nat → Int} {M : Mem}
theorem ixV {i : Nat} (h : i < vs.length) : opIx (.d (.tup (vs.map D.int))) (.d (.int (i : Int))) M = .ok (.d (.int (vf vs i))) M := by
  have : atI (vs.map D.int) (i : Int) = some (.int (vf vs i)) := by rw [atI_get', List.getElem?_map, vf_get h]; rfl
  simp [opIx, seqOf, this]
theorem ixR {i : Nat} (h : i ≤ n) : opIx (.rw .vw (mk n t)) (.d (.int (i : Int))) M = .ok (.ls .vw (mkr n t i)) M := by
  have : atI (mk n t) (i : Int) = some (mkr n t i) := by rw [atI_get', mk_get h]
  simp [opIx, this]
theorem ixC {i j : Nat} (h : j ≤ n) : opIx (.ls .vw (mkr n t i)) (.d (.int (j : Int))) M = .ok (.d (.int (t i j))) M := by
  have : atI (mkr n t i) (j : Int) = some (.int (t i j)) := by rw [atI_get', mkr_get h]
  simp [opIx, seqOf, this]
theorem ixR' {i : Nat} (h : i ≤ n) : opIx (.d (.lst ((mk n t).map D.lst))) (.d (.int (i : Int))) M = .ok (.d (.lst (mkr n t i))) M := by
  have : atI ((mk n t).map D.lst) (i : Int) = some (.lst (mkr n t i)) := by rw [atI_get', List.getElem?_map, mk_get h]; rfl
  simp [opIx, seqOf, this]
theorem ixC' {i j : Nat} (h : j ≤ n) : opIx (.d (.lst (mkr n t i))) (.d (.int (j : Int))) M = .ok (.d (.int (t i j))) M := by
  have : atI (mkr n t i) (j : Int) = some (.int (t i j)) := by rw [atI_get', mkr_get h]
  simp [opIx, seqOf, this]
theorem put_at {ρ : DL.Env} {j a b : Nat} {x : Int} (ha : a ≤ n) (hb : b ≤ n) : putR ρ M j a (mkr n t a) (mk n t) (.d (.int x)) (.d (.int (b : Int))) = .nx (ρ.set j (some (.rw .own (mk n (up t a b x))))) M := by
  have : ixN (mkr n t a).length (b : Int) = some b := ixN_nat (by rw [mkr_len]; omega)
  simp only [putR, this, mk_set ha hb]
theorem mx (a b : Int) : (if b > a then b else a) = max a b := by omega
/-- what the table holds when all shorter stretches are done, of this length those before place a -/
def Tb (v : Nat → Int) (n s a : Nat) (t : Nat → Nat → Int) : Prop := ∀ i j, i ≤ j → j ≤ n → (j - i < s ∨ (j - i = s ∧ i < a)) → t i j = gm v (j - i) i
theorem Tb.step {v n s a t} (h : Tb v n s a t) (hs : 1 ≤ s) (ha : a + s ≤ n) : Tb v n s (a + 1) (up t a (a + s) (max (v a - t (a + 1) (a + s)) (v (a + s - 1) - t a (a + s - 1)))) := by
  intro i j hij hj hc
  unfold up
  by_cases e : i = a ∧ j = a + s
  · rw [if_pos e]
    obtain ⟨rfl, rfl⟩ := e
    have e1 := h (i + 1) (i + s) (by omega) hj (.inl (by omega))
    have e2 := h i (i + s - 1) (by omega) (by omega) (.inl (by omega))
    rw [e1, e2]
    obtain ⟨s', rfl⟩ : ∃ s', s = s' + 1 := ⟨s - 1, by omega⟩
    rw [show i + (s' + 1) - i = s' + 1 by omega, show i + (s' + 1) - (i + 1) = s' by omega, show i + (s' + 1) - 1 - i = s' by omega, show i + (s' + 1) - 1 = i + s' by omega]
    rfl
  · rw [if_neg e]
    exact h i j hij hj (by omega)
theorem Tb.next {v n s t} (h : Tb v n s (n - s + 1) t) : Tb v n (s + 1) 0 t := fun i j hij hj hc => h i j hij hj (by omega)
/-- the frame of a table that is filled -/
structure En (ρ : DL.Env) (vs : List Int) (t : Nat → Nat → Int) : Prop where
  len : ρ.length = 9
  a0 : At ρ 0 (.d (.tup (vs.map D.int)))
  a1 : At ρ 1 (.d (.int (vs.length : Int)))
  a2 : At ρ 2 (.rw .own (mk vs.length t))
theorem body_ends {ρ : DL.Env} {s a : Nat} (h : En ρ vs t) (h3 : At ρ 3 (.d (.int (s : Int)))) (h4 : At ρ 4 (.d (.int (a : Int)))) (hs : 1 ≤ s) (ha : a + s ≤ vs.length) : ∃ ρ', B5_ends_row ρ M = .nx ρ' M ∧ En ρ' vs (up t a (a + s) (max (vf vs a - t (a + 1) (a + s)) (vf vs (a + s - 1) - t a (a + s - 1)))) ∧ At ρ' 3 (.d (.int (s : Int))) := by
  have i1 : ∀ {ρ : DL.Env}, At ρ 4 (.d (.int (a : Int))) → eBin opAdd (eVar 4) (eC (.int 1)) ρ M = .ok (.d (.int ((a + 1 : Nat) : Int))) M := fun h4 => (q_bin h4.v rfl).trans rfl
  have i2 : ∀ {ρ : DL.Env}, At ρ 3 (.d (.int (s : Int))) → At ρ 4 (.d (.int (a : Int))) → eBin opAdd (eVar 4) (eVar 3) ρ M = .ok (.d (.int ((a + s : Nat) : Int))) M := fun h3 h4 => (q_bin h4.v h3.v).trans rfl
  have i3 : ∀ {ρ : DL.Env}, At ρ 3 (.d (.int (s : Int))) → At ρ 4 (.d (.int (a : Int))) → eBin opSub (eBin opAdd (eVar 4) (eVar 3)) (eC (.int 1)) ρ M = .ok (.d (.int ((a + s - 1 : Nat) : Int))) M := fun h3 h4 => by
    refine (q_bin (i2 h3 h4) (x := .d (.int ((a + s : Nat) : Int))) (y := .d (.int 1)) rfl).trans ?_
    rw [show ((a + s - 1 : Nat) : Int) = ((a + s : Nat) : Int) - 1 by omega]; rfl
  have e1 : eBin opIx (eVar 0) (eVar 4) ρ M = .ok (.d (.int (vf vs a))) M := (q_bin h.a0.v h4.v).trans (ixV (by omega))
  have e2 : eBin opIx (eBin opIx (eVar 2) (eBin opAdd (eVar 4) (eC (.int 1)))) (eBin opAdd (eVar 4) (eVar 3)) ρ M = .ok (.d (.int (t (a + 1) (a + s)))) M :=
    (q_bin ((q_bin h.a2.v (i1 h4)).trans (ixR (by omega))) (i2 h3 h4)).trans (ixC (by omega))
  have s1 := q_set (i := 5) ((q_bin e1 e2).trans rfl : eBin opSub _ _ ρ M = .ok (.d (.int (vf vs a - t (a + 1) (a + s)))) M) rfl (by rw [h.len]; decide)
  generalize hρ : ρ.set 5 (some (.d (.int (vf vs a - t (a + 1) (a + s))))) = ρ1 at s1
  have g : En ρ1 vs t ∧ At ρ1 3 (.d (.int (s : Int))) ∧ At ρ1 4 (.d (.int (a : Int))) ∧ At ρ1 5 (.d (.int (vf vs a - t (a + 1) (a + s)))) := by
    rw [← hρ]
    exact ⟨⟨by rw [List.length_set]; exact h.len, h.a0.ne (by decide), h.a1.ne (by decide), h.a2.ne (by decide)⟩, h3.ne (by decide), h4.ne (by decide), At.eq (by rw [h.len]; decide)⟩
  obtain ⟨g, g3, g4, g5⟩ := g
  have f1 : eBin opIx (eVar 0) (eBin opSub (eBin opAdd (eVar 4) (eVar 3)) (eC (.int 1))) ρ1 M = .ok (.d (.int (vf vs (a + s - 1)))) M := (q_bin g.a0.v (i3 g3 g4)).trans (ixV (by omega))
  have f2 : eBin opIx (eBin opIx (eVar 2) (eVar 4)) (eBin opSub (eBin opAdd (eVar 4) (eVar 3)) (eC (.int 1))) ρ1 M = .ok (.d (.int (t a (a + s - 1)))) M :=
    (q_bin ((q_bin g.a2.v g4.v).trans (ixR (by omega))) (i3 g3 g4)).trans (ixC (by omega))
  have f3 : eB bMax (aCons (eVar 5) (aCons (eBin opSub (eBin opIx (eVar 0) (eBin opSub (eBin opAdd (eVar 4) (eVar 3)) (eC (.int 1)))) (eBin opIx (eBin opIx (eVar 2) (eVar 4)) (eBin opSub (eBin opAdd (eVar 4) (eVar 3)) (eC (.int 1))))) aNil)) ρ1 M = .ok (.d (.int (max (vf vs a - t (a + 1) (a + s)) (vf vs (a + s - 1) - t a (a + s - 1))))) M := by
    rw [q_B (q_cons g5.v (q_cons ((q_bin f1 f2).trans rfl : eBin opSub _ _ ρ1 M = .ok (.d (.int (vf vs (a + s - 1) - t a (a + s - 1)))) M) rfl)), ← mx]
    rfl
  have s2 : sPutR 2 (eVar 4) (eBin opAdd (eVar 4) (eVar 3)) (eB bMax (aCons (eVar 5) (aCons (eBin opSub (eBin opIx (eVar 0) (eBin opSub (eBin opAdd (eVar 4) (eVar 3)) (eC (.int 1)))) (eBin opIx (eBin opIx (eVar 2) (eVar 4)) (eBin opSub (eBin opAdd (eVar 4) (eVar 3)) (eC (.int 1))))) aNil))) ρ1 M = .nx (ρ1.set 2 (some (.rw .own (mk vs.length (up t a (a + s) (max (vf vs a - t (a + 1) (a + s)) (vf vs (a + s - 1) - t a (a + s - 1)))))))) M := by
    have k1 : ixN (mk vs.length t).length (a : Int) = some a := ixN_nat (by rw [mk_len]; omega)
    have k2 : ρ1[2]? = some (some (.rw .own (mk vs.length t))) := g.a2
    simp only [sPutR, f3, sE, k2, g4.v, look, k1, mk_get (show a ≤ vs.length by omega), i2 g3 g4]
    exact put_at (by omega) (by omega)
  refine ⟨_, by rw [B5_ends_row, q_nx s1, s2], ⟨by rw [List.length_set]; exact g.len, g.a0.ne (by decide), g.a1.ne (by decide), At.eq (by rw [g.len]; decide)⟩, g3.ne (by decide)⟩
end K64

set_option Elab.async false
set_option linter.all false
set_option maxRecDepth 100000
set_option maxHeartbeats 2000000
/-! law k64, plainly: the told row. -/
namespace K64
open PySem PySem.Spec PyProof.Rows L2 DL
variable {vs : List Int} {t : Nat → Nat → Int} {M : Mem}
theorem st1 {ρ : DL.Env} {s i : Nat} (h : En ρ vs t) (h3 : At ρ 3 (.d (.int (s : Int)))) (hs : 1 ≤ s) (hi : i < vs.length - s + 1) (hs2 : s ≤ vs.length) (ht : Tb (vf vs) vs.length s i t) :
   ∃ ρ1 ρ' t', tgE (.one 4) ρ (.int (i : Int)) = some ρ1 ∧ B5_ends_row ρ1 M = .nx ρ' M ∧ En ρ' vs t' ∧ At ρ' 3 (.d (.int (s : Int))) ∧ Tb (vf vs) vs.length s (i + 1) t' := by
  have gl : 4 < ρ.length := by rw [h.len]; decide
  obtain ⟨ρ', k1, k2, k3⟩ := body_ends (ρ := ρ.set 4 (some (.d (.int (i : Int))))) (s := s) (a := i) (M := M) ⟨by rw [List.length_set]; exact h.len, h.a0.ne (by decide), h.a1.ne (by decide), h.a2.ne (by decide)⟩ (h3.ne (by decide)) (At.eq gl) hs (by omega)
  exact ⟨_, ρ', _, tg1 gl, k1, k2, k3, ht.step hs (by omega)⟩
theorem st2 {ρ : DL.Env} {s : Nat} (h : En ρ vs t) (h3 : At ρ 3 (.d (.int (s : Int)))) (hs : 1 ≤ s) (hs2 : s ≤ vs.length) (ht : Tb (vf vs) vs.length s 0 t) : ∃ ρ' t', forL (.one 4) B5_ends_row (rangeL 0 (vs.length - s + 1) 1) ρ M = .nx ρ' M ∧ En ρ' vs t' ∧ Tb (vf vs) vs.length s (vs.length - s + 1) t' := by
  obtain ⟨ρ', M', e, t', e1, g1, g2, g3⟩ := forL_inv (g := .one 4) (f := B5_ends_row) (fun i ρ M' => ∃ t', M' = M ∧ En ρ vs t' ∧ At ρ 3 (.d (.int (s : Int))) ∧ Tb (vf vs) vs.length s i t') (rangeL 0 (vs.length - s + 1) 1) 0 ρ M
    (fun i d ρ M1 hd hi => by
      obtain ⟨t', e1, g1, g2, g3⟩ := hi
      obtain ⟨hi, e2⟩ := rangeL_get hd
      have e0 : (0 + (i : Int) * 1) = (i : Int) := by omega
      rw [e2, e0, e1]
      rw [Nat.zero_add] at g3
      obtain ⟨ρ1, ρ', t2, k1, k2, k3, k4, k5⟩ := st1 (M := M) g1 g2 hs hi hs2 g3
      exact ⟨ρ1, ρ', M, k1, k2, t2, rfl, k3, k4, by rw [Nat.zero_add]; exact k5⟩) ⟨t, rfl, h, h3, ht⟩
  rw [rangeL_len, Nat.zero_add] at g3
  exact ⟨ρ', t', by rw [e, e1], g1, g3⟩
theorem inner_ends {ρ : DL.Env} {s : Nat} (h : En ρ vs t) (h3 : At ρ 3 (.d (.int (s : Int)))) (hL : vs.length ≤ 60) (hs : 1 ≤ s) (hs2 : s ≤ vs.length) (ht : Tb (vf vs) vs.length s 0 t) : ∃ ρ' t', B6_ends_row ρ M = .nx ρ' M ∧ En ρ' vs t' ∧ Tb (vf vs) vs.length (s + 1) 0 t' := by
  have e : eBin opAdd (eBin opSub (eVar 1) (eVar 3)) (eC (.int 1)) ρ M = .ok (.d (.int ((vs.length - s + 1 : Nat) : Int))) M := by
    refine (q_bin ((q_bin h.a1.v h3.v).trans rfl : eBin opSub (eVar 1) (eVar 3) ρ M = .ok (.d (.int ((vs.length : Int) - (s : Int)))) M) rfl).trans ?_
    rw [show ((vs.length - s + 1 : Nat) : Int) = (vs.length : Int) - (s : Int) + 1 by omega]; rfl
  obtain ⟨ρ', t', k1, k2, k3⟩ := st2 (M := M) h h3 hs hs2 ht
  exact ⟨ρ', t', q_for (q_rng1 (by omega) e) k1, k2, k3.next⟩
theorem outer_ends {ρ : DL.Env} (h : En ρ vs t) (hL : vs.length ≤ 60) (ht : Tb (vf vs) vs.length 1 0 t) : ∃ ρ' t', T7_ends_row ρ M = .nx ρ' M ∧ En ρ' vs t' ∧ Tb (vf vs) vs.length (vs.length + 1) 0 t' := by
  have e : eBin opAdd (eVar 1) (eC (.int 1)) ρ M = .ok (.d (.int ((vs.length + 1 : Nat) : Int))) M := (q_bin h.a1.v rfl).trans rfl
  obtain ⟨ρ', M', k, t', e1, g1, g3⟩ := forL_inv (g := .one 3) (f := B6_ends_row) (fun i ρ M' => ∃ t', M' = M ∧ En ρ vs t' ∧ Tb (vf vs) vs.length (i + 1) 0 t') (rangeL ((1 : Nat) : Int) (vs.length + 1 - 1) 1) 0 ρ M
    (fun i d ρ M1 hd hi => by
      obtain ⟨t', e1, g1, g3⟩ := hi
      obtain ⟨hi, e2⟩ := rangeL_get hd
      rw [e2, show (((1 : Nat) : Int) + (i : Int) * 1) = ((i + 1 : Nat) : Int) by omega, e1]
      have gl : 3 < ρ.length := by rw [g1.len]; decide
      rw [Nat.zero_add] at g3
      obtain ⟨ρ', t2, k1, k2, k3⟩ := inner_ends (ρ := ρ.set 3 (some (.d (.int ((i + 1 : Nat) : Int))))) (s := i + 1) (M := M) ⟨by rw [List.length_set]; exact g1.len, g1.a0.ne (by decide), g1.a1.ne (by decide), g1.a2.ne (by decide)⟩ (At.eq gl) hL (by omega) (by omega) g3
      exact ⟨_, ρ', M, tg1 gl, k1, t2, rfl, k2, by rw [Nat.zero_add]; exact k3⟩) ⟨t, rfl, h, ht⟩
  rw [rangeL_len, Nat.zero_add] at g3
  rw [e1] at k
  exact ⟨ρ', t', q_for (q_rng2 (a := 1) (by omega) (by omega) rfl e) k, g1, by rw [show vs.length + 1 - 1 + 1 = vs.length + 1 by omega] at g3; exact g3⟩
end K64

set_option Elab.async false
set_option linter.all false
set_option maxRecDepth 100000
set_option maxHeartbeats 2000000
/-! law k64, plainly: the told row, its beginning and end. -/
namespace K64
open PySem PySem.Spec PyProof.Rows L2 DL
variable {vs : List Int} {t : Nat → Nat → Int} {M : Mem}
theorem rows0 (n : Nat) : List.replicate (n + 1) (List.replicate (n + 1) (D.int 0)) = mk n (fun _ _ => 0) := by
  unfold mk mkr
  simp [List.map_const']
theorem q_mul0 {e : Sm Ev} {ρ : DL.Env} {n : Nat} (hn : n ≤ 1000) (h : e ρ M = .ok (.d (.int (n : Int))) M) : fMul (eLst (aCons (eC (.int 0)) aNil)) e ρ M = .ok (List.replicate n (D.int 0)) M := by
  have k1 : eLst (aCons (eC (.int 0)) aNil) ρ M = .ok (.d (.lst [.int 0])) M := by simp [eLst, aCons, aNil, eC, bnd, datas, most]
  have hm : -1000000 ≤ (n : Int) ∧ (n : Int) ≤ 1000000 ∧ ([D.int 0].length) * (n : Int).toNat ≤ most := by
    refine ⟨by omega, by omega, ?_⟩
    simp [most]; omega
  have k2 : mulL (.d (.lst [.int 0])) (.d (.int (n : Int))) = some (List.replicate n (D.int 0)) := by
    simp only [mulL, lstOf, if_pos hm]
    simp
  simp only [fMul, k1, bnd, h, k2, optR]
theorem T34 {n j : Nat} {ρ : DL.Env} {e : Sm Ev} (hn : n ≤ 60) (hj : j < ρ.length) (hj1 : j ≠ 1) (h2 : 2 < ρ.length) (a1 : At ρ 1 (.d (.int (n : Int)))) (he : ∀ {ρ : DL.Env}, At ρ 1 (.d (.int (n : Int))) → e ρ M = .ok (.d (.int ((n + 1 : Nat) : Int))) M) :
    sSetN 2 (nRows (iO rng1 (aCons e aNil)) (.one j) [j] (fMul (eLst (aCons (eC (.int 0)) aNil)) e)) ρ M = .nx (ρ.set 2 (some (.rw .own (mk n fun _ _ => 0)))) M := by
  have lc := lcR_map (g := .one j) (vs := [j]) (f := fMul (eLst (aCons (eC (.int 0)) aNil)) e) (ρ := ρ) (M := M) (List.replicate (n + 1) (D.int 0)) (rangeL 0 (n + 1) 1) [] (fun d hd => by
    have gl : j < (wipeE ρ [j]).length := by simpa [wipeE] using hj
    refine ⟨_, tg1 gl, q_mul0 (by omega) (he ?_)⟩
    refine At.ne ?_ hj1
    show At (ρ.set j none) 1 _
    exact a1.ne hj1)
  have hm : n + 1 ≤ most := by unfold most; omega
  have i1 := q_rng1 (n := n + 1) (by omega) (he a1)
  refine q_setN ?_ h2
  rw [rangeL_len, List.nil_append, rows0] at lc
  simp only [nRows, i1, bnd, rangeL_len, if_pos hm, lc]
/-- the walk along the table -/
structure Wa (ρ : DL.Env) (vs : List Int) (t : Nat → Nat → Int) (pre : List Nat) (i j : Nat) : Prop where
  len : ρ.length = 9
  a0 : At ρ 0 (.d (.tup (vs.map D.int)))
  a1 : At ρ 1 (.d (.int (vs.length : Int)))
  a2 : At ρ 2 (.rw .own (mk vs.length t))
  a4 : At ρ 4 (.d (.int (i : Int)))
  a6 : At ρ 6 (.ls .own (pre.map fun (k : Nat) => D.int (k : Int)))
  a7 : At ρ 7 (.d (.int (j : Int)))
theorem app_own {ρ : DL.Env} {j : Nat} {l : List D} {e : Sm Ev} {d : D} (h : At ρ j (.ls .own l)) (hl : l.length < 1000) (he : e ρ M = .ok (.d d) M) : sApp j e ρ M = .nx (ρ.set j (some (.ls .own (l ++ [d])))) M := by
  have h' : ρ[j]? = some (some (.ls .own l)) := h
  have hm : l.length < most := by unfold most; omega
  have w : wrt ρ M j = true := by simp only [wrt, h']
  simp only [sApp, w, if_true, he, sE, appO, h', if_pos hm]
theorem step_ends {ρ : DL.Env} {pre : List Nat} {i s : Nat} (h : Wa ρ vs t pre i (i + (s + 1))) (hp : pre.length < 900) (hj : i + (s + 1) ≤ vs.length) (ht : Tb (vf vs) vs.length (vs.length + 1) 0 t) :
    ∃ ρ', B9_ends_row ρ M = .nx ρ' M ∧ ((vf vs i - gm (vf vs) s (i + 1) = gm (vf vs) (s + 1) i ∧ Wa ρ' vs t (pre ++ [i]) (i + 1) (i + (s + 1))) ∨ (¬ (vf vs i - gm (vf vs) s (i + 1) = gm (vf vs) (s + 1) i) ∧ Wa ρ' vs t (pre ++ [i + s]) i (i + s))) := by
  have g1 : t (i + 1) (i + (s + 1)) = gm (vf vs) s (i + 1) := by rw [ht (i + 1) (i + (s + 1)) (by omega) hj (.inl (by omega))]; congr 1; omega
  have g2 : t i (i + (s + 1)) = gm (vf vs) (s + 1) i := by rw [ht i (i + (s + 1)) (by omega) hj (.inl (by omega))]; congr 1; omega
  have i1 : eBin opAdd (eVar 4) (eC (.int 1)) ρ M = .ok (.d (.int ((i + 1 : Nat) : Int))) M := (q_bin h.a4.v rfl).trans rfl
  have e1 : eBin opIx (eVar 0) (eVar 4) ρ M = .ok (.d (.int (vf vs i))) M := (q_bin h.a0.v h.a4.v).trans (ixV (by omega))
  have e2 : eBin opIx (eBin opIx (eVar 2) (eBin opAdd (eVar 4) (eC (.int 1)))) (eVar 7) ρ M = .ok (.d (.int (gm (vf vs) s (i + 1)))) M := by
    rw [← g1]; exact (q_bin ((q_bin h.a2.v i1).trans (ixR (by omega))) h.a7.v).trans (ixC (by omega))
  have e3 : eBin opIx (eBin opIx (eVar 2) (eVar 4)) (eVar 7) ρ M = .ok (.d (.int (gm (vf vs) (s + 1) i))) M := by
    rw [← g2]; exact (q_bin ((q_bin h.a2.v h.a4.v).trans (ixR (by omega))) h.a7.v).trans (ixC (by omega))
  have e4 : tCmpE (opEq false) (eBin opSub (eBin opIx (eVar 0) (eVar 4)) (eBin opIx (eBin opIx (eVar 2) (eBin opAdd (eVar 4) (eC (.int 1)))) (eVar 7))) (eBin opIx (eBin opIx (eVar 2) (eVar 4)) (eVar 7)) ρ M = .ok (decide (vf vs i - gm (vf vs) s (i + 1) = gm (vf vs) (s + 1) i)) M :=
    q_cmp ((q_bin ((q_bin e1 e2).trans rfl : eBin opSub _ _ ρ M = .ok (.d (.int (vf vs i - gm (vf vs) s (i + 1)))) M) e3).trans rfl)
  have pl : (pre.map fun (k : Nat) => D.int (k : Int)).length < 1000 := by rw [List.length_map]; omega
  have pm : ∀ k : Nat, (pre.map fun (k : Nat) => D.int (k : Int)) ++ [.int (k : Int)] = (pre ++ [k]).map fun (k : Nat) => D.int (k : Int) := fun k => by rw [List.map_append]; rfl
  by_cases hc : vf vs i - gm (vf vs) s (i + 1) = gm (vf vs) (s + 1) i
  · rw [decide_eq_true hc] at e4
    have s1 := app_own (M := M) h.a6 pl h.a4.v
    rw [pm] at s1
    generalize hρ : ρ.set 6 (some (.ls .own ((pre ++ [i]).map fun (k : Nat) => D.int (k : Int)))) = ρ1 at s1
    have l1 : ρ1.length = 9 := by rw [← hρ, List.length_set]; exact h.len
    have b0 : At ρ1 0 (.d (.tup (vs.map D.int))) := by rw [← hρ]; exact h.a0.ne (by decide)
    have b1 : At ρ1 1 (.d (.int (vs.length : Int))) := by rw [← hρ]; exact h.a1.ne (by decide)
    have b2 : At ρ1 2 (.rw .own (mk vs.length t)) := by rw [← hρ]; exact h.a2.ne (by decide)
    have b4 : At ρ1 4 (.d (.int (i : Int))) := by rw [← hρ]; exact h.a4.ne (by decide)
    have b6 : At ρ1 6 (.ls .own ((pre ++ [i]).map fun (k : Nat) => D.int (k : Int))) := by rw [← hρ]; exact At.eq (by rw [h.len]; decide)
    have b7 : At ρ1 7 (.d (.int ((i + (s + 1) : Nat) : Int))) := by rw [← hρ]; exact h.a7.ne (by decide)
    have s2 := q_set (i := 4) (M := M) (M' := M) (ρ := ρ1) (e := eBin opAdd (eVar 4) (eC (.int 1))) (x := .d (.int ((i + 1 : Nat) : Int))) ((q_bin b4.v rfl).trans rfl) rfl (by rw [l1]; decide)
    refine ⟨_, by rw [B9_ends_row, q_if1 e4, q_nx s1, s2], .inl ⟨hc, ?_⟩⟩
    exact ⟨by rw [List.length_set]; exact l1, b0.ne (by decide), b1.ne (by decide), b2.ne (by decide), At.eq (by rw [l1]; decide), b6.ne (by decide), b7.ne (by decide)⟩
  · rw [decide_eq_false hc] at e4
    have d1 : eBin opSub (eVar 7) (eC (.int 1)) ρ M = .ok (.d (.int ((i + s : Nat) : Int))) M := by
      refine (q_bin h.a7.v (y := .d (.int 1)) rfl).trans ?_
      rw [show ((i + s : Nat) : Int) = ((i + (s + 1) : Nat) : Int) - 1 by omega]; rfl
    have s1 := q_set (i := 7) d1 rfl (by rw [h.len]; decide)
    generalize hρ : ρ.set 7 (some (.d (.int ((i + s : Nat) : Int)))) = ρ1 at s1
    have l1 : ρ1.length = 9 := by rw [← hρ, List.length_set]; exact h.len
    have b0 : At ρ1 0 (.d (.tup (vs.map D.int))) := by rw [← hρ]; exact h.a0.ne (by decide)
    have b1 : At ρ1 1 (.d (.int (vs.length : Int))) := by rw [← hρ]; exact h.a1.ne (by decide)
    have b2 : At ρ1 2 (.rw .own (mk vs.length t)) := by rw [← hρ]; exact h.a2.ne (by decide)
    have b4 : At ρ1 4 (.d (.int (i : Int))) := by rw [← hρ]; exact h.a4.ne (by decide)
    have b6 : At ρ1 6 (.ls .own (pre.map fun (k : Nat) => D.int (k : Int))) := by rw [← hρ]; exact h.a6.ne (by decide)
    have b7 : At ρ1 7 (.d (.int ((i + s : Nat) : Int))) := by rw [← hρ]; exact At.eq (by rw [h.len]; decide)
    have s2 := app_own (M := M) b6 pl b7.v
    rw [pm] at s2
    refine ⟨_, by rw [B9_ends_row, q_if0 e4, q_nx s1, s2], .inr ⟨hc, ?_⟩⟩
    exact ⟨by rw [List.length_set]; exact l1, b0.ne (by decide), b1.ne (by decide), b2.ne (by decide), b4.ne (by decide), At.eq (by rw [l1]; decide), b7.ne (by decide)⟩
end K64

set_option Elab.async false
set_option linter.all false
set_option maxRecDepth 100000
set_option maxHeartbeats 2000000
/-! law k64, plainly: the told row, whole. -/
namespace K64
open PySem PySem.Spec PyProof.Rows L2 DL
variable {vs : List Int} {t : Nat → Nat → Int} {M : Mem}
def pd (l : List Nat) : List D := l.map fun (k : Nat) => D.int (k : Int)
theorem walk_ends {ρ : DL.Env} (h : Wa ρ vs t [] 0 vs.length) (hL : vs.length ≤ 60) (ht : Tb (vf vs) vs.length (vs.length + 1) 0 t) :
    ∃ ρ', T10_ends_row ρ M = .nx ρ' M ∧ At ρ' 1 (.d (.int (vs.length : Int))) ∧ At ρ' 2 (.rw .own (mk vs.length t)) ∧ At ρ' 6 (.ls .own (pd (play (vf vs) vs.length 0))) := by
  obtain ⟨ρ', M', e, hp⟩ := sWhile_inv (tc := tCmpE opLt (eVar 4) (eVar 7)) (f := B9_ends_row)
    (fun m ρ M' => M' = M ∧ ∃ pre i, Wa ρ vs t pre i (i + m) ∧ i + m ≤ vs.length ∧ pre ++ play (vf vs) m i = play (vf vs) vs.length 0)
    (fun ρ M' => M' = M ∧ At ρ 1 (.d (.int (vs.length : Int))) ∧ At ρ 2 (.rw .own (mk vs.length t)) ∧ At ρ 6 (.ls .own (pd (play (vf vs) vs.length 0))))
    (fun m ρ M' hi => by
      obtain ⟨rfl, pre, i, w, hj, hpl⟩ := hi
      have tt : tCmpE opLt (eVar 4) (eVar 7) ρ M' = .ok (decide ((i : Int) < ((i + m : Nat) : Int))) M' := q_cmp ((q_bin w.a4.v w.a7.v).trans rfl)
      cases m with
      | zero =>
        rw [decide_eq_false (by omega)] at tt
        refine .inl ⟨M', tt, rfl, w.a1, w.a2, ?_⟩
        have : pre = play (vf vs) vs.length 0 := by simpa [play] using hpl
        rw [← this]; exact w.a6
      | succ s =>
        rw [decide_eq_true (by omega)] at tt
        have hlen : pre.length < 900 := by
          have := congrArg List.length hpl
          rw [List.length_append, play_len, play_len] at this
          omega
        obtain ⟨ρ', k1, k2⟩ := step_ends (M := M') w hlen hj ht
        refine .inr ⟨M', ρ', M', s, tt, k1, Nat.lt_succ_self s, rfl, ?_⟩
        rcases k2 with ⟨hc, w'⟩ | ⟨hc, w'⟩
        · refine ⟨pre ++ [i], i + 1, by rw [show i + 1 + s = i + (s + 1) by omega]; exact w', by omega, ?_⟩
          rw [← hpl, List.append_assoc]
          congr 1
          conv => rhs; unfold play
          rw [if_pos hc]; rfl
        · refine ⟨pre ++ [i + s], i, w', by omega, ?_⟩
          rw [← hpl, List.append_assoc]
          congr 1
          conv => rhs; unfold play
          rw [if_neg hc]; rfl) 100 vs.length ρ M (by omega) ⟨rfl, [], 0, by rw [Nat.zero_add]; exact h, by omega, rfl⟩
  obtain ⟨e1, h1, h2, h6⟩ := hp
  rw [e1] at e
  exact ⟨ρ', e, h1, h2, h6⟩
/-- is_within of ints -/
theorem integer_int (i : Int) : F_is_integer [.d (.int i)] M = .ok (.bl true) M := by
  unfold F_is_integer
  rw [fnOf_eq]
  show fnEnd (S_is_integer [some (.d (.int i))] M) = _
  have v0 : eVar 0 [some (.d (.int i))] M = .ok (.d (.int i)) M := rfl
  have t1 := isi1 (b := "int") v0 (a := "int") rfl (by decide)
  have t2 := isi1 (b := "bool") v0 (a := "int") rfl (by decide)
  rw [show isOf "int" "int" = true by decide] at t1
  rw [show isOf "int" "bool" = false by decide] at t2
  have t3 : eNot (eB bIsi (aCons (eVar 0) (aCons (eC (.ty "bool")) aNil))) [some (.d (.int i))] M = .ok (bv true) M := by simp only [eNot, t2, bnd, truth]; rfl
  rw [S_is_integer, T1_is_integer, q_ret (x := bv true) (by rw [q_eand1 t1 rfl]; exact t3) rfl]
  rfl
theorem within_int (i lo hi : Int) : F_is_within [.d (.int i), .d (.int lo), .d (.int hi)] M = .ok (.bl (decide (lo ≤ i) && decide (i ≤ hi))) M := by
  unfold F_is_within
  rw [fnOf_eq]
  show fnEnd (S_is_within [some (.d (.int i)), some (.d (.int lo)), some (.d (.int hi))] M) = _
  have t1 : eCall 1 F_is_integer (aCons (eVar 0) aNil) [some (.d (.int i)), some (.d (.int lo)), some (.d (.int hi))] M = .ok (bv true) M := q_call (q_cons1 (e := eVar 0) (x := .d (.int i)) (M' := M) rfl) (ys := [.d (.int i)]) rfl rfl (integer_int i)
  have t2 : eChain opLe opLe (eVar 1) (eVar 0) (eVar 2) [some (.d (.int i)), some (.d (.int lo)), some (.d (.int hi))] M = .ok (bv (decide (lo ≤ i) && decide (i ≤ hi))) M := by
    by_cases h : lo ≤ i
    · simp [eChain, eVar, look, bnd, opLe, opI2, h]
    · simp [eChain, eVar, look, bnd, opLe, opI2, h]
  rw [S_is_within, T1_is_within, q_ret (x := bv (decide (lo ≤ i) && decide (i ≤ hi))) (by rw [q_eand1 t1 rfl]; exact t2) rfl]
  rfl
theorem ten9 {ρ : DL.Env} : eBin opPow (eC (.int 10)) (eC (.int 9)) ρ M = .ok (.d (.int 1000000000)) M := by
  have e3 : CPow 10 9 := ⟨by omega, by omega, by decide⟩
  simp [eBin, eC, bnd, opI2, e3]
theorem pre_ends (hL : vs.length ≤ 60) (hb : ∀ z ∈ vs, -1000000000 ≤ z ∧ z ≤ 1000000000) : T1_ends_row (some (.d (.tup (vs.map D.int))) :: List.replicate 8 none) M = .nx (some (.d (.tup (vs.map D.int))) :: List.replicate 8 none) M ∧
    T2_ends_row (some (.d (.tup (vs.map D.int))) :: List.replicate 8 none) M = .nx (some (.d (.tup (vs.map D.int))) :: List.replicate 8 none) M := by
  generalize hρ : (some (Ev.d (.tup (vs.map D.int))) :: List.replicate 8 none : DL.Env) = ρ
  have a0 : At ρ 0 (.d (.tup (vs.map D.int))) := by rw [← hρ]; rfl
  have l9 : ρ.length = 9 := by rw [← hρ]; simp
  refine ⟨?_, ?_⟩
  · have t1 := q_not (truV (isi1 (b := "tuple") (a0.v (M := M)) (a := "tuple") rfl (by decide)))
    rw [show (!isOf "tuple" "tuple") = false by decide] at t1
    have e1 : eB bLen (aCons (eVar 0) aNil) ρ M = .ok (.d (.int (vs.length : Int))) M := by
      rw [q_B (q_cons1 a0.v)]
      simp [bLen, look, seqOf]
    have t2 : tCmpE opGt (eB bLen (aCons (eVar 0) aNil)) (eC (.int 60)) ρ M = .ok (decide ((60 : Int) < (vs.length : Int))) M := q_cmp ((q_bin e1 (y := .d (.int 60)) rfl).trans rfl)
    rw [decide_eq_false (by omega)] at t2
    exact q_skip (by rw [q_or0 t1]; exact t2)
  · have i1 : iSeq true (eVar 0) ρ M = .ok (vs.map D.int) M := by simp only [iSeq, a0.v, look, bnd, itemsOf]
    have hm : (vs.map D.int).length ≤ most := by rw [List.length_map]; unfold most; omega
    have lc : fLc (iSeq true (eVar 0)) (.one 8) [8] tYesE (eCall 3 F_is_within (aCons (eVar 8) (aCons (eUn unNeg (eBin opPow (eC (.int 10)) (eC (.int 9)))) (aCons (eBin opPow (eC (.int 10)) (eC (.int 9))) aNil)))) ρ M = .ok ((vs.map D.int).map fun _ => .bl true) M := by
      simp only [fLc, i1, bnd, if_pos hm]
      refine lcL_map _ _ fun x hx => ?_
      obtain ⟨z, hz, rfl⟩ := List.mem_map.mp hx
      have gl : 8 < (wipeE ρ [8]).length := by simp [wipeE, l9]
      have v8 : eVar 8 ((wipeE ρ [8]).set 8 (some (.d (.int z)))) M = .ok (.d (.int z)) M := (At.eq gl).v
      have hb' := hb z hz
      refine ⟨_, tg1 gl, q_call (q_cons v8 (q_cons (show eUn unNeg (eBin opPow (eC (.int 10)) (eC (.int 9))) _ M = .ok (.d (.int (-1000000000))) M by simp only [eUn, ten9, bnd, unNeg]) (q_cons1 ten9))) (ys := [.d (.int z), .d (.int (-1000000000)), .d (.int 1000000000)]) rfl rfl ?_⟩
      rw [within_int, decide_eq_true hb'.1, decide_eq_true hb'.2]; rfl
    have tb : ∀ m : List D, toBls (m.map fun _ => D.bl true) = some (m.map fun _ => true) := by
      intro m
      induction m with
      | nil => rfl
      | cons x m ih => simp [toBls, ih]
    have t1 : eB bAll (aCons (eF (fLc (iSeq true (eVar 0)) (.one 8) [8] tYesE (eCall 3 F_is_within (aCons (eVar 8) (aCons (eUn unNeg (eBin opPow (eC (.int 10)) (eC (.int 9)))) (aCons (eBin opPow (eC (.int 10)) (eC (.int 9))) aNil)))))) aNil) ρ M = .ok (bv true) M := by
      have e1 : eF (fLc (iSeq true (eVar 0)) (.one 8) [8] tYesE (eCall 3 F_is_within (aCons (eVar 8) (aCons (eUn unNeg (eBin opPow (eC (.int 10)) (eC (.int 9)))) (aCons (eBin opPow (eC (.int 10)) (eC (.int 9))) aNil))))) ρ M = .ok (.d (.lst ((vs.map D.int).map fun _ => .bl true))) M := by
        simp only [eF, lc, bnd]
      rw [q_B (q_cons1 e1)]
      simp only [bAll, blsOf, lstOf, Option.bind, tb]
      simp
    exact q_skip (q_not (truV t1))
theorem ends_ok (hL : vs.length ≤ 60) (hb : ∀ z ∈ vs, -1000000000 ≤ z ∧ z ≤ 1000000000) :
    F_ends_row [.d (.tup (vs.map D.int))] M = .ok (.tup [.int (gm (vf vs) vs.length 0), .tup (pd (play (vf vs) vs.length 0))]) M := by
  unfold F_ends_row
  rw [fnOf_eq]
  show fnEnd (S_ends_row (some (.d (.tup (vs.map D.int))) :: List.replicate 8 none) M) = _
  obtain ⟨p1, p2⟩ := pre_ends (M := M) hL hb
  have p3 : T3_ends_row (some (.d (.tup (vs.map D.int))) :: List.replicate 8 none) M = .nx ((some (.d (.tup (vs.map D.int))) :: List.replicate 8 none : DL.Env).set 1 (some (.d (.int (vs.length : Int))))) M := by
    refine q_set (x := .d (.int (vs.length : Int))) ?_ rfl (by simp)
    rw [q_B (q_cons1 (x := .d (.tup (vs.map D.int))) (M' := M) rfl)]
    simp [bLen, seqOf]
  generalize hρ : (some (Ev.d (.tup (vs.map D.int))) :: List.replicate 8 none : DL.Env).set 1 (some (.d (.int (vs.length : Int)))) = ρ at p3
  have l9 : ρ.length = 9 := by rw [← hρ]; simp
  have a0 : At ρ 0 (.d (.tup (vs.map D.int))) := by rw [← hρ]; rfl
  have a1 : At ρ 1 (.d (.int (vs.length : Int))) := by rw [← hρ]; rfl
  have p4 : T4_ends_row ρ M = _ := T34 (M := M) (n := vs.length) (j := 4) (e := eBin opAdd (eVar 1) (eC (.int 1))) hL (by rw [l9]; decide) (by decide) (by rw [l9]; decide) a1 fun a1 => (q_bin a1.v rfl).trans rfl
  have en : En (ρ.set 2 (some (.rw .own (mk vs.length fun _ _ => 0)))) vs (fun _ _ => 0) := ⟨by rw [List.length_set]; exact l9, a0.ne (by decide), a1.ne (by decide), At.eq (by rw [l9]; decide)⟩
  obtain ⟨ρ', t', p5, en', ht⟩ := outer_ends (M := M) en hL (fun i j hij hj hc => by
    have : j - i = 0 := by omega
    rw [this]; rfl)
  have p6 : T8_ends_row ρ' M = .nx (((ρ'.set 6 (some (.ls .own []))).set 4 (some (.d (.int 0)))).set 7 (some (.d (.int (vs.length : Int))))) M := by
    have : ∀ i ∈ [6, 4, 7], i < ρ'.length := by rw [en'.len]; decide
    have v1 : nE (eVar 1) ρ' M = .ok (.d (.int (vs.length : Int))) M := by simp only [nE, en'.a1.v, look, bnd, stor, optR]
    have e0 : nCons (nF (fLst aNil)) (nCons (nE (eC (.int 0))) (nCons (nE (eVar 1)) nNil)) ρ' M = .ok [.ls .own [], .d (.int 0), .d (.int (vs.length : Int))] M := by
      have f0 : nF (fLst aNil) ρ' M = .ok (.ls .own []) M := by simp [nF, fLst, aNil, bnd, datas, most, optR]
      have f1 : nE (eC (.int 0)) ρ' M = .ok (.d (.int 0)) M := rfl
      simp only [nCons, f0, f1, v1, bnd, nNil]
    simp only [T8_ends_row, sParN, e0, sE]
    rw [if_pos ⟨rfl, this⟩]
    rfl
  have wa : Wa (((ρ'.set 6 (some (.ls .own []))).set 4 (some (.d (.int 0)))).set 7 (some (.d (.int (vs.length : Int))))) vs t' [] 0 vs.length :=
    ⟨by simp only [List.length_set]; exact en'.len, ((en'.a0.ne (by decide)).ne (by decide)).ne (by decide), ((en'.a1.ne (by decide)).ne (by decide)).ne (by decide), ((en'.a2.ne (by decide)).ne (by decide)).ne (by decide), (At.eq (by rw [List.length_set, en'.len]; decide)).ne (by decide), ((At.eq (by rw [en'.len]; decide)).ne (by decide)).ne (by decide), At.eq (by simp only [List.length_set]; rw [en'.len]; decide)⟩
  obtain ⟨ρ2, p7, b1, b2, b6⟩ := walk_ends (M := M) wa hL ht
  have r1 : eBin opIx (eBin opIx (eVar 2) (eC (.int 0))) (eVar 1) ρ2 M = .ok (.d (.int (gm (vf vs) vs.length 0))) M := by
    have := ht 0 vs.length (by omega) (by omega) (.inl (by omega))
    rw [Nat.sub_zero] at this
    rw [← this]
    exact (q_bin ((q_bin b2.v (y := .d (.int ((0 : Nat) : Int))) rfl).trans (ixR (by omega))) b1.v).trans (ixC (by omega))
  have r2 : eB bTup (aCons (eVar 6) aNil) ρ2 M = .ok (.d (.tup (pd (play (vf vs) vs.length 0)))) M := by
    rw [q_B (q_cons1 b6.v)]
    simp [bTup, look, lstOf]
  have r3 : T11_ends_row ρ2 M = .rt (.tup [.int (gm (vf vs) vs.length 0), .tup (pd (play (vf vs) vs.length 0))]) M := by
    refine q_ret (x := .d (.tup [.int (gm (vf vs) vs.length 0), .tup (pd (play (vf vs) vs.length 0))])) ?_ rfl
    have e := q_cons2 r1 r2
    have d2 : datas [.d (.int (gm (vf vs) vs.length 0)), .d (.tup (pd (play (vf vs) vs.length 0)))] = some [.int (gm (vf vs) vs.length 0), .tup (pd (play (vf vs) vs.length 0))] := rfl
    simp only [eTup, e, bnd, d2]
    rw [if_pos (show [D.int (gm (vf vs) vs.length 0), D.tup (pd (play (vf vs) vs.length 0))].length ≤ most by simp [most])]
  rw [S_ends_row, q_nx p1, q_nx p2, q_nx p3, q_nx p4, q_nx p5, q_nx p6, q_nx p7, r3]
  rfl
end K64

set_option Elab.async false
set_option linter.all false
set_option maxRecDepth 100000
set_option maxHeartbeats 2000000
/-! law k64, plainly: the law's own table and walk. -/
namespace K64
open PySem PySem.Spec PyProof.Rows L2 DL
variable {vs : List Int} {t : Nat → Nat → Int} {M : Mem}
theorem body_more {ρ : DL.Env} {s a : Nat} (h : En ρ vs t) (h3 : At ρ 3 (.d (.int (s : Int)))) (h4 : At ρ 4 (.d (.int (a : Int)))) (hs : 1 ≤ s) (ha : a + s ≤ vs.length) : ∃ ρ', B3__law_more ρ M = .nx ρ' M ∧ En ρ' vs (up t a (a + s) (max (vf vs a - t (a + 1) (a + s)) (vf vs (a + s - 1) - t a (a + s - 1)))) ∧ At ρ' 3 (.d (.int (s : Int))) := by
  have s1 := q_set (i := 5) (M := M) (M' := M) (ρ := ρ) (e := eBin opAdd (eVar 4) (eVar 3)) (x := .d (.int ((a + s : Nat) : Int))) ((q_bin h4.v h3.v).trans rfl) rfl (by rw [h.len]; decide)
  generalize hρ : ρ.set 5 (some (.d (.int ((a + s : Nat) : Int)))) = ρ1 at s1
  have g : En ρ1 vs t ∧ At ρ1 3 (.d (.int (s : Int))) ∧ At ρ1 4 (.d (.int (a : Int))) ∧ At ρ1 5 (.d (.int ((a + s : Nat) : Int))) := by
    rw [← hρ]
    exact ⟨⟨by rw [List.length_set]; exact h.len, h.a0.ne (by decide), h.a1.ne (by decide), h.a2.ne (by decide)⟩, h3.ne (by decide), h4.ne (by decide), At.eq (by rw [h.len]; decide)⟩
  obtain ⟨g, g3, g4, g5⟩ := g
  have i1 : eBin opAdd (eVar 4) (eC (.int 1)) ρ1 M = .ok (.d (.int ((a + 1 : Nat) : Int))) M := (q_bin g4.v rfl).trans rfl
  have i3 : eBin opSub (eVar 5) (eC (.int 1)) ρ1 M = .ok (.d (.int ((a + s - 1 : Nat) : Int))) M := by
    refine (q_bin g5.v (y := .d (.int 1)) rfl).trans ?_
    rw [show ((a + s - 1 : Nat) : Int) = ((a + s : Nat) : Int) - 1 by omega]; rfl
  have e1 : eBin opIx (eVar 0) (eVar 4) ρ1 M = .ok (.d (.int (vf vs a))) M := (q_bin g.a0.v g4.v).trans (ixV (by omega))
  have e2 : eBin opIx (eBin opIx (eVar 2) (eBin opAdd (eVar 4) (eC (.int 1)))) (eVar 5) ρ1 M = .ok (.d (.int (t (a + 1) (a + s)))) M :=
    (q_bin ((q_bin g.a2.v i1).trans (ixR (by omega))) g5.v).trans (ixC (by omega))
  have f1 : eBin opIx (eVar 0) (eBin opSub (eVar 5) (eC (.int 1))) ρ1 M = .ok (.d (.int (vf vs (a + s - 1)))) M := (q_bin g.a0.v i3).trans (ixV (by omega))
  have f2 : eBin opIx (eBin opIx (eVar 2) (eVar 4)) (eBin opSub (eVar 5) (eC (.int 1))) ρ1 M = .ok (.d (.int (t a (a + s - 1)))) M :=
    (q_bin ((q_bin g.a2.v g4.v).trans (ixR (by omega))) i3).trans (ixC (by omega))
  have p1 := q_cons2 ((q_bin e1 e2).trans rfl : eBin opSub _ _ ρ1 M = .ok (.d (.int (vf vs a - t (a + 1) (a + s)))) M) ((q_bin f1 f2).trans rfl : eBin opSub _ _ ρ1 M = .ok (.d (.int (vf vs (a + s - 1) - t a (a + s - 1)))) M)
  have s2 : sPar [6, 7] (aCons (eBin opSub (eBin opIx (eVar 0) (eVar 4)) (eBin opIx (eBin opIx (eVar 2) (eBin opAdd (eVar 4) (eC (.int 1)))) (eVar 5))) (aCons (eBin opSub (eBin opIx (eVar 0) (eBin opSub (eVar 5) (eC (.int 1)))) (eBin opIx (eBin opIx (eVar 2) (eVar 4)) (eBin opSub (eVar 5) (eC (.int 1))))) aNil)) ρ1 M =
      .nx ((ρ1.set 6 (some (.d (.int (vf vs a - t (a + 1) (a + s)))))).set 7 (some (.d (.int (vf vs (a + s - 1) - t a (a + s - 1)))))) M := by
    have hi : ∀ i ∈ [6, 7], i < ρ1.length := by rw [g.len]; decide
    simp only [sPar, p1, sE]
    show (if ([Ev.d _, Ev.d _] : List Ev).length = [6, 7].length ∧ _ then _ else _) = _
    rw [if_pos ⟨rfl, hi⟩]
    rfl
  generalize hρ2 : (ρ1.set 6 (some (.d (.int (vf vs a - t (a + 1) (a + s)))))).set 7 (some (.d (.int (vf vs (a + s - 1) - t a (a + s - 1))))) = ρ2 at s2
  have k : En ρ2 vs t ∧ At ρ2 3 (.d (.int (s : Int))) ∧ At ρ2 4 (.d (.int (a : Int))) ∧ At ρ2 5 (.d (.int ((a + s : Nat) : Int))) ∧ At ρ2 6 (.d (.int (vf vs a - t (a + 1) (a + s)))) ∧ At ρ2 7 (.d (.int (vf vs (a + s - 1) - t a (a + s - 1)))) := by
    rw [← hρ2]
    exact ⟨⟨by simp only [List.length_set]; exact g.len, (g.a0.ne (by decide)).ne (by decide), (g.a1.ne (by decide)).ne (by decide), (g.a2.ne (by decide)).ne (by decide)⟩, (g3.ne (by decide)).ne (by decide), (g4.ne (by decide)).ne (by decide), (g5.ne (by decide)).ne (by decide), (At.eq (by rw [g.len]; decide)).ne (by decide), At.eq (by rw [List.length_set, g.len]; decide)⟩
  obtain ⟨k, k3, k4, k5, k6, k7⟩ := k
  have f3 : eB bMax (aCons (eVar 6) (aCons (eVar 7) aNil)) ρ2 M = .ok (.d (.int (max (vf vs a - t (a + 1) (a + s)) (vf vs (a + s - 1) - t a (a + s - 1))))) M := by
    rw [q_B (q_cons2 k6.v k7.v), ← mx]
    rfl
  have s3 : sPutR 2 (eVar 4) (eVar 5) (eB bMax (aCons (eVar 6) (aCons (eVar 7) aNil))) ρ2 M = .nx (ρ2.set 2 (some (.rw .own (mk vs.length (up t a (a + s) (max (vf vs a - t (a + 1) (a + s)) (vf vs (a + s - 1) - t a (a + s - 1)))))))) M := by
    have w1 : ixN (mk vs.length t).length (a : Int) = some a := ixN_nat (by rw [mk_len]; omega)
    have w2 : ρ2[2]? = some (some (.rw .own (mk vs.length t))) := k.a2
    simp only [sPutR, f3, sE, w2, k4.v, look, w1, mk_get (show a ≤ vs.length by omega), k5.v]
    exact put_at (by omega) (by omega)
  refine ⟨_, by rw [B3__law_more, q_nx s1, q_nx s2, s3], ⟨by rw [List.length_set]; exact k.len, k.a0.ne (by decide), k.a1.ne (by decide), At.eq (by rw [k.len]; decide)⟩, k3.ne (by decide)⟩
theorem inner_more {ρ : DL.Env} {s : Nat} (h : En ρ vs t) (h3 : At ρ 3 (.d (.int (s : Int)))) (hL : vs.length ≤ 60) (hs : 1 ≤ s) (hs2 : s ≤ vs.length) (ht : Tb (vf vs) vs.length s 0 t) : ∃ ρ' t', B4__law_more ρ M = .nx ρ' M ∧ En ρ' vs t' ∧ Tb (vf vs) vs.length (s + 1) 0 t' := by
  have e : eBin opAdd (eBin opSub (eVar 1) (eVar 3)) (eC (.int 1)) ρ M = .ok (.d (.int ((vs.length - s + 1 : Nat) : Int))) M := by
    refine (q_bin ((q_bin h.a1.v h3.v).trans rfl : eBin opSub (eVar 1) (eVar 3) ρ M = .ok (.d (.int ((vs.length : Int) - (s : Int)))) M) rfl).trans ?_
    rw [show ((vs.length - s + 1 : Nat) : Int) = (vs.length : Int) - (s : Int) + 1 by omega]; rfl
  obtain ⟨ρ', M', k, t', e1, g1, g2, g3⟩ := forL_inv (g := .one 4) (f := B3__law_more) (fun i ρ M' => ∃ t', M' = M ∧ En ρ vs t' ∧ At ρ 3 (.d (.int (s : Int))) ∧ Tb (vf vs) vs.length s i t') (rangeL 0 (vs.length - s + 1) 1) 0 ρ M
    (fun i d ρ M1 hd hi => by
      obtain ⟨t', e1, g1, g2, g3⟩ := hi
      obtain ⟨hi, e2⟩ := rangeL_get hd
      have e0 : (0 + (i : Int) * 1) = (i : Int) := by omega
      rw [e2, e0, e1]
      rw [Nat.zero_add] at g3
      have gl : 4 < ρ.length := by rw [g1.len]; decide
      obtain ⟨ρ', k1, k2, k3⟩ := body_more (ρ := ρ.set 4 (some (.d (.int (i : Int))))) (s := s) (a := i) (M := M) ⟨by rw [List.length_set]; exact g1.len, g1.a0.ne (by decide), g1.a1.ne (by decide), g1.a2.ne (by decide)⟩ (g2.ne (by decide)) (At.eq gl) hs (by omega)
      exact ⟨_, ρ', M, tg1 gl, k1, _, rfl, k2, k3, by rw [Nat.zero_add]; exact g3.step hs (by omega)⟩) ⟨t, rfl, h, h3, ht⟩
  rw [rangeL_len, Nat.zero_add] at g3
  rw [e1] at k
  exact ⟨ρ', t', q_for (q_rng1 (by omega) e) k, g1, g3.next⟩
theorem outer_more {ρ : DL.Env} (h : En ρ vs t) (hL : vs.length ≤ 60) (ht : Tb (vf vs) vs.length 1 0 t) : ∃ ρ' t', T5__law_more ρ M = .nx ρ' M ∧ En ρ' vs t' ∧ Tb (vf vs) vs.length (vs.length + 1) 0 t' := by
  have e : eBin opAdd (eVar 1) (eC (.int 1)) ρ M = .ok (.d (.int ((vs.length + 1 : Nat) : Int))) M := (q_bin h.a1.v rfl).trans rfl
  obtain ⟨ρ', M', k, t', e1, g1, g3⟩ := forL_inv (g := .one 3) (f := B4__law_more) (fun i ρ M' => ∃ t', M' = M ∧ En ρ vs t' ∧ Tb (vf vs) vs.length (i + 1) 0 t') (rangeL ((1 : Nat) : Int) (vs.length + 1 - 1) 1) 0 ρ M
    (fun i d ρ M1 hd hi => by
      obtain ⟨t', e1, g1, g3⟩ := hi
      obtain ⟨hi, e2⟩ := rangeL_get hd
      rw [e2, show (((1 : Nat) : Int) + (i : Int) * 1) = ((i + 1 : Nat) : Int) by omega, e1]
      have gl : 3 < ρ.length := by rw [g1.len]; decide
      rw [Nat.zero_add] at g3
      obtain ⟨ρ', t2, k1, k2, k3⟩ := inner_more (ρ := ρ.set 3 (some (.d (.int ((i + 1 : Nat) : Int))))) (s := i + 1) (M := M) ⟨by rw [List.length_set]; exact g1.len, g1.a0.ne (by decide), g1.a1.ne (by decide), g1.a2.ne (by decide)⟩ (At.eq gl) hL (by omega) (by omega) g3
      exact ⟨_, ρ', M, tg1 gl, k1, t2, rfl, k2, by rw [Nat.zero_add]; exact k3⟩) ⟨t, rfl, h, ht⟩
  rw [rangeL_len, Nat.zero_add] at g3
  rw [e1] at k
  exact ⟨ρ', t', q_for (q_rng2 (a := 1) (by omega) (by omega) rfl e) k, g1, by rw [show vs.length + 1 - 1 + 1 = vs.length + 1 by omega] at g3; exact g3⟩
theorem more_ok (hL : vs.length ≤ 60) : ∃ t, F__law_more [.d (.tup (vs.map D.int))] M = .ok (.lst ((mk vs.length t).map D.lst)) M ∧ Tb (vf vs) vs.length (vs.length + 1) 0 t := by
  have p3 : T1__law_more (some (.d (.tup (vs.map D.int))) :: List.replicate 8 none) M = .nx ((some (.d (.tup (vs.map D.int))) :: List.replicate 8 none : DL.Env).set 1 (some (.d (.int (vs.length : Int))))) M := by
    refine q_set (x := .d (.int (vs.length : Int))) ?_ rfl (by simp)
    rw [q_B (q_cons1 (x := .d (.tup (vs.map D.int))) (M' := M) rfl)]
    simp [bLen, seqOf]
  generalize hρ : (some (Ev.d (.tup (vs.map D.int))) :: List.replicate 8 none : DL.Env).set 1 (some (.d (.int (vs.length : Int)))) = ρ at p3
  have l9 : ρ.length = 9 := by rw [← hρ]; simp
  have a0 : At ρ 0 (.d (.tup (vs.map D.int))) := by rw [← hρ]; rfl
  have a1 : At ρ 1 (.d (.int (vs.length : Int))) := by rw [← hρ]; rfl
  have p4 : T2__law_more ρ M = _ := T34 (M := M) (n := vs.length) (j := 8) (e := eBin opAdd (eVar 1) (eC (.int 1))) hL (by rw [l9]; decide) (by decide) (by rw [l9]; decide) a1 fun a1 => (q_bin a1.v rfl).trans rfl
  have en : En (ρ.set 2 (some (.rw .own (mk vs.length fun _ _ => 0)))) vs (fun _ _ => 0) := ⟨by rw [List.length_set]; exact l9, a0.ne (by decide), a1.ne (by decide), At.eq (by rw [l9]; decide)⟩
  obtain ⟨ρ', t', p5, en', ht⟩ := outer_more (M := M) en hL (fun i j hij hj hc => by
    have : j - i = 0 := by omega
    rw [this]; rfl)
  refine ⟨t', ?_, ht⟩
  unfold F__law_more
  rw [fnOf_eq]
  show fnEnd (S__law_more (some (.d (.tup (vs.map D.int))) :: List.replicate 8 none) M) = _
  have p6 : T6__law_more ρ' M = .rt (.lst ((mk vs.length t').map D.lst)) M := q_ret (x := .rw .vw (mk vs.length t')) en'.a2.v rfl
  rw [S__law_more, q_nx p3, q_nx p4, q_nx p5, p6]
  rfl
/-! ### the walk -/
structure Wp (ρ : DL.Env) (vs : List Int) (t : Nat → Nat → Int) (pre : List Nat) (i j : Nat) : Prop where
  len : ρ.length = 6
  a0 : At ρ 0 (.d (.tup (vs.map D.int)))
  a1 : At ρ 1 (.d (.lst ((mk vs.length t).map D.lst)))
  a2 : At ρ 2 (.d (.int (i : Int)))
  a3 : At ρ 3 (.d (.int (j : Int)))
  a4 : At ρ 4 (.ls .own (pd pre))
theorem pd_app (pre : List Nat) (k : Nat) : pd pre ++ [.int (k : Int)] = pd (pre ++ [k]) := by unfold pd; rw [List.map_append]; rfl
theorem step_play {ρ : DL.Env} {pre : List Nat} {i s : Nat} (h : Wp ρ vs t pre i (i + (s + 1))) (hp : pre.length < 900) (hj : i + (s + 1) ≤ vs.length) (ht : Tb (vf vs) vs.length (vs.length + 1) 0 t) :
    ∃ ρ', B2__law_play ρ M = .nx ρ' M ∧ ((vf vs i - gm (vf vs) s (i + 1) = gm (vf vs) (s + 1) i ∧ Wp ρ' vs t (pre ++ [i]) (i + 1) (i + (s + 1))) ∨ (¬ (vf vs i - gm (vf vs) s (i + 1) = gm (vf vs) (s + 1) i) ∧ Wp ρ' vs t (pre ++ [i + s]) i (i + s))) := by
  have g1 : t (i + 1) (i + (s + 1)) = gm (vf vs) s (i + 1) := by rw [ht (i + 1) (i + (s + 1)) (by omega) hj (.inl (by omega))]; congr 1; omega
  have g2 : t i (i + (s + 1)) = gm (vf vs) (s + 1) i := by rw [ht i (i + (s + 1)) (by omega) hj (.inl (by omega))]; congr 1; omega
  have i1 : eBin opAdd (eVar 2) (eC (.int 1)) ρ M = .ok (.d (.int ((i + 1 : Nat) : Int))) M := (q_bin h.a2.v rfl).trans rfl
  have e1 : eBin opIx (eVar 0) (eVar 2) ρ M = .ok (.d (.int (vf vs i))) M := (q_bin h.a0.v h.a2.v).trans (ixV (by omega))
  have e2 : eBin opIx (eBin opIx (eVar 1) (eBin opAdd (eVar 2) (eC (.int 1)))) (eVar 3) ρ M = .ok (.d (.int (gm (vf vs) s (i + 1)))) M := by
    rw [← g1]; exact (q_bin ((q_bin h.a1.v i1).trans (ixR' (by omega))) h.a3.v).trans (ixC' (by omega))
  have s1 := q_set (i := 5) ((q_bin e1 e2).trans rfl : eBin opSub _ _ ρ M = .ok (.d (.int (vf vs i - gm (vf vs) s (i + 1)))) M) rfl (by rw [h.len]; decide)
  generalize hρ : ρ.set 5 (some (.d (.int (vf vs i - gm (vf vs) s (i + 1))))) = ρ1 at s1
  have k : Wp ρ1 vs t pre i (i + (s + 1)) ∧ At ρ1 5 (.d (.int (vf vs i - gm (vf vs) s (i + 1)))) := by
    rw [← hρ]
    exact ⟨⟨by rw [List.length_set]; exact h.len, h.a0.ne (by decide), h.a1.ne (by decide), h.a2.ne (by decide), h.a3.ne (by decide), h.a4.ne (by decide)⟩, At.eq (by rw [h.len]; decide)⟩
  obtain ⟨k, k5⟩ := k
  have e3 : eBin opIx (eBin opIx (eVar 1) (eVar 2)) (eVar 3) ρ1 M = .ok (.d (.int (gm (vf vs) (s + 1) i))) M := by
    rw [← g2]; exact (q_bin ((q_bin k.a1.v k.a2.v).trans (ixR' (by omega))) k.a3.v).trans (ixC' (by omega))
  have e4 : tCmpE (opEq false) (eVar 5) (eBin opIx (eBin opIx (eVar 1) (eVar 2)) (eVar 3)) ρ1 M = .ok (decide (vf vs i - gm (vf vs) s (i + 1) = gm (vf vs) (s + 1) i)) M := q_cmp ((q_bin k5.v e3).trans rfl)
  have pl : (pd pre).length < 1000 := by unfold pd; rw [List.length_map]; omega
  by_cases hc : vf vs i - gm (vf vs) s (i + 1) = gm (vf vs) (s + 1) i
  · rw [decide_eq_true hc] at e4
    have s2 := app_own (M := M) k.a4 pl k.a2.v
    rw [pd_app] at s2
    generalize hρ2 : ρ1.set 4 (some (.ls .own (pd (pre ++ [i])))) = ρ2 at s2
    have b : ρ2.length = 6 ∧ At ρ2 0 (.d (.tup (vs.map D.int))) ∧ At ρ2 1 (.d (.lst ((mk vs.length t).map D.lst))) ∧ At ρ2 2 (.d (.int (i : Int))) ∧ At ρ2 3 (.d (.int ((i + (s + 1) : Nat) : Int))) ∧ At ρ2 4 (.ls .own (pd (pre ++ [i]))) := by
      rw [← hρ2]
      exact ⟨by rw [List.length_set]; exact k.len, k.a0.ne (by decide), k.a1.ne (by decide), k.a2.ne (by decide), k.a3.ne (by decide), At.eq (by rw [k.len]; decide)⟩
    obtain ⟨l6, b0, b1, b2, b3, b4⟩ := b
    have s3 := q_set (i := 2) (M := M) (M' := M) (ρ := ρ2) (e := eBin opAdd (eVar 2) (eC (.int 1))) (x := .d (.int ((i + 1 : Nat) : Int))) ((q_bin b2.v rfl).trans rfl) rfl (by rw [l6]; decide)
    refine ⟨_, by rw [B2__law_play, q_nx s1, q_if1 e4, q_nx s2, s3], .inl ⟨hc, by rw [List.length_set]; exact l6, b0.ne (by decide), b1.ne (by decide), At.eq (by rw [l6]; decide), b3.ne (by decide), b4.ne (by decide)⟩⟩
  · rw [decide_eq_false hc] at e4
    have d1 : eBin opSub (eVar 3) (eC (.int 1)) ρ1 M = .ok (.d (.int ((i + s : Nat) : Int))) M := by
      refine (q_bin k.a3.v (y := .d (.int 1)) rfl).trans ?_
      rw [show ((i + s : Nat) : Int) = ((i + (s + 1) : Nat) : Int) - 1 by omega]; rfl
    have s2 := q_set (i := 3) d1 rfl (by rw [k.len]; decide)
    generalize hρ2 : ρ1.set 3 (some (.d (.int ((i + s : Nat) : Int)))) = ρ2 at s2
    have b : ρ2.length = 6 ∧ At ρ2 0 (.d (.tup (vs.map D.int))) ∧ At ρ2 1 (.d (.lst ((mk vs.length t).map D.lst))) ∧ At ρ2 2 (.d (.int (i : Int))) ∧ At ρ2 3 (.d (.int ((i + s : Nat) : Int))) ∧ At ρ2 4 (.ls .own (pd pre)) := by
      rw [← hρ2]
      exact ⟨by rw [List.length_set]; exact k.len, k.a0.ne (by decide), k.a1.ne (by decide), k.a2.ne (by decide), At.eq (by rw [k.len]; decide), k.a4.ne (by decide)⟩
    obtain ⟨l6, b0, b1, b2, b3, b4⟩ := b
    have s3 := app_own (M := M) b4 pl b3.v
    rw [pd_app] at s3
    refine ⟨_, by rw [B2__law_play, q_nx s1, q_if0 e4, q_nx s2, s3], .inr ⟨hc, by rw [List.length_set]; exact l6, b0.ne (by decide), b1.ne (by decide), b2.ne (by decide), b3.ne (by decide), At.eq (by rw [l6]; decide)⟩⟩
theorem play_ok (hL : vs.length ≤ 60) (ht : Tb (vf vs) vs.length (vs.length + 1) 0 t) : F__law_play [.d (.tup (vs.map D.int)), .d (.lst ((mk vs.length t).map D.lst))] M = .ok (.tup (pd (play (vf vs) vs.length 0))) M := by
  unfold F__law_play
  rw [fnOf_eq]
  show fnEnd (S__law_play [some (.d (.tup (vs.map D.int))), some (.d (.lst ((mk vs.length t).map D.lst))), none, none, none, none] M) = _
  generalize hρ : ([some (.d (.tup (vs.map D.int))), some (.d (.lst ((mk vs.length t).map D.lst))), none, none, none, none] : DL.Env) = ρ
  have l6 : ρ.length = 6 := by rw [← hρ]; rfl
  have a0 : At ρ 0 (.d (.tup (vs.map D.int))) := by rw [← hρ]; rfl
  have a1 : At ρ 1 (.d (.lst ((mk vs.length t).map D.lst))) := by rw [← hρ]; rfl
  have p6 : T1__law_play ρ M = .nx (((ρ.set 2 (some (.d (.int 0)))).set 3 (some (.d (.int (vs.length : Int))))).set 4 (some (.ls .own []))) M := by
    have hi : ∀ i ∈ [2, 3, 4], i < ρ.length := by rw [l6]; decide
    have v1 : nE (eB bLen (aCons (eVar 0) aNil)) ρ M = .ok (.d (.int (vs.length : Int))) M := by
      have e1 : eB bLen (aCons (eVar 0) aNil) ρ M = .ok (.d (.int (vs.length : Int))) M := by
        rw [q_B (q_cons1 a0.v)]
        simp [bLen, look, seqOf]
      simp only [nE, e1, bnd, stor, optR]
    have e0 : nCons (nE (eC (.int 0))) (nCons (nE (eB bLen (aCons (eVar 0) aNil))) (nCons (nF (fLst aNil)) nNil)) ρ M = .ok [.d (.int 0), .d (.int (vs.length : Int)), .ls .own []] M := by
      have f0 : nF (fLst aNil) ρ M = .ok (.ls .own []) M := by simp [nF, fLst, aNil, bnd, datas, most, optR]
      have f1 : nE (eC (.int 0)) ρ M = .ok (.d (.int 0)) M := rfl
      simp only [nCons, f0, f1, v1, bnd, nNil]
    simp only [T1__law_play, sParN, e0, sE]
    rw [if_pos ⟨rfl, hi⟩]
    rfl
  have wp : Wp (((ρ.set 2 (some (.d (.int 0)))).set 3 (some (.d (.int (vs.length : Int))))).set 4 (some (.ls .own []))) vs t [] 0 vs.length :=
    ⟨by simp only [List.length_set]; exact l6, ((a0.ne (by decide)).ne (by decide)).ne (by decide), ((a1.ne (by decide)).ne (by decide)).ne (by decide), ((At.eq (by rw [l6]; decide)).ne (by decide)).ne (by decide), (At.eq (by rw [List.length_set, l6]; decide)).ne (by decide), At.eq (by simp only [List.length_set]; rw [l6]; decide)⟩
  obtain ⟨ρ', M', e, hp⟩ := sWhile_inv (tc := tCmpE opLt (eVar 2) (eVar 3)) (f := B2__law_play)
    (fun m ρ M' => M' = M ∧ ∃ pre i, Wp ρ vs t pre i (i + m) ∧ i + m ≤ vs.length ∧ pre ++ play (vf vs) m i = play (vf vs) vs.length 0)
    (fun ρ M' => M' = M ∧ At ρ 4 (.ls .own (pd (play (vf vs) vs.length 0))))
    (fun m ρ M' hi => by
      obtain ⟨rfl, pre, i, w, hj, hpl⟩ := hi
      have tt : tCmpE opLt (eVar 2) (eVar 3) ρ M' = .ok (decide ((i : Int) < ((i + m : Nat) : Int))) M' := q_cmp ((q_bin w.a2.v w.a3.v).trans rfl)
      cases m with
      | zero =>
        rw [decide_eq_false (by omega)] at tt
        refine .inl ⟨M', tt, rfl, ?_⟩
        have : pre = play (vf vs) vs.length 0 := by simpa [play] using hpl
        rw [← this]; exact w.a4
      | succ s =>
        rw [decide_eq_true (by omega)] at tt
        have hlen : pre.length < 900 := by
          have := congrArg List.length hpl
          rw [List.length_append, play_len, play_len] at this
          omega
        obtain ⟨ρ', k1, k2⟩ := step_play (M := M') w hlen hj ht
        refine .inr ⟨M', ρ', M', s, tt, k1, Nat.lt_succ_self s, rfl, ?_⟩
        rcases k2 with ⟨hc, w'⟩ | ⟨hc, w'⟩
        · refine ⟨pre ++ [i], i + 1, by rw [show i + 1 + s = i + (s + 1) by omega]; exact w', by omega, ?_⟩
          rw [← hpl, List.append_assoc]
          congr 1
          conv => rhs; unfold play
          rw [if_pos hc]; rfl
        · refine ⟨pre ++ [i + s], i, w', by omega, ?_⟩
          rw [← hpl, List.append_assoc]
          congr 1
          conv => rhs; unfold play
          rw [if_neg hc]; rfl) 100 vs.length _ M (by omega) ⟨rfl, [], 0, by rw [Nat.zero_add]; exact wp, by omega, rfl⟩
  obtain ⟨e1, h4⟩ := hp
  rw [e1] at e
  have r3 : T4__law_play ρ' M = .rt (.tup (pd (play (vf vs) vs.length 0))) M := by
    refine q_ret (x := .d (.tup (pd (play (vf vs) vs.length 0)))) ?_ rfl
    rw [q_B (q_cons1 h4.v)]
    simp [bTup, look, lstOf]
  have e' : T3__law_play _ M = .nx ρ' M := e
  rw [S__law_play, q_nx p6, q_nx e', r3]
  rfl
end K64

set_option Elab.async false
set_option linter.all false
set_option maxRecDepth 100000
set_option maxHeartbeats 2000000
/-! law k64, plainly: by play; the walk that is judged. -/
namespace K64
open PySem PySem.Spec PyProof.Rows L2 DL
variable {vs : List Int} {t : Nat → Nat → Int} {M : Mem}
theorem vf_drop (k : Nat) : vf (vs.drop 1) k = vf vs (k + 1) := by
  unfold vf; simp [List.getD, Nat.add_comm]
theorem vf_take {n k : Nat} (h : k < n) : vf (vs.take n) k = vf vs k := by
  unfold vf; simp [List.getD, List.getElem?_take, h]
theorem bmax2 (a b : Int) : bMax [.d (.int a), .d (.int b)] M = .ok (.d (.int (max a b))) M := by
  show R.ok (iv (if b > a then b else a)) M = _
  rw [mx]
theorem by_play : ∀ (n : Nat) (vs : List Int), vs.length ≤ n → n ≤ 100 → R__law_by_play (n + 1) [.d (.tup (vs.map D.int))] M = .ok (.int (gm (vf vs) vs.length 0)) M := by
  intro n
  induction n with
  | zero =>
    intro vs h _
    have : vs = [] := List.eq_nil_of_length_eq_zero (by omega)
    subst this
    show fnOf 1 (S__law_by_play (R__law_by_play 0)) _ _ = _
    rw [fnOf_eq]
    show fnEnd (S__law_by_play (R__law_by_play 0) [some (.d (.tup []))] M) = _
    have t1 : tCmpE (opEq false) (eB bLen (aCons (eVar 0) aNil)) (eC (.int 0)) [some (.d (.tup []))] M = .ok true M := rfl
    rw [S__law_by_play, q_rt (d := .int 0) (M' := M) (by rw [q_if1 t1]; rfl)]
    rfl
  | succ n ih =>
    intro vs h hn
    show fnOf 1 (S__law_by_play (R__law_by_play (n + 1))) _ _ = _
    rw [fnOf_eq]
    show fnEnd (S__law_by_play (R__law_by_play (n + 1)) [some (.d (.tup (vs.map D.int)))] M) = _
    generalize hρ : ([some (.d (.tup (vs.map D.int)))] : DL.Env) = ρ
    have a0 : At ρ 0 (.d (.tup (vs.map D.int))) := by rw [← hρ]; rfl
    have e1 : eB bLen (aCons (eVar 0) aNil) ρ M = .ok (.d (.int (vs.length : Int))) M := by
      rw [q_B (q_cons1 a0.v)]
      simp [bLen, look, seqOf]
    have t1 : tCmpE (opEq false) (eB bLen (aCons (eVar 0) aNil)) (eC (.int 0)) ρ M = .ok (decide ((vs.length : Int) = 0)) M := q_cmp ((q_bin e1 (y := .d (.int 0)) rfl).trans rfl)
    by_cases h0 : vs.length = 0
    · rw [decide_eq_true (by omega)] at t1
      rw [S__law_by_play, q_rt (d := .int 0) (M' := M) (by rw [q_if1 t1]; rfl), h0]
      rfl
    · rw [decide_eq_false (by omega)] at t1
      obtain ⟨m, hm⟩ : ∃ m, vs.length = m + 1 := ⟨vs.length - 1, by omega⟩
      have c1 : DL.cutD (vs.map D.int) (some 1) none = (vs.drop 1).map D.int := by
        unfold DL.cutD
        have := HT.sIx_nat vs.length 0 1
        rw [show ((1 : Nat) : Int) = 1 from rfl] at this
        rw [List.length_map, HT.sIx_none, this, show min 1 vs.length = 1 by omega, List.map_drop]
        exact List.take_of_length_le (by simp)
      have c2 : DL.cutD (vs.map D.int) none (some (-1)) = (vs.take m).map D.int := by
        unfold DL.cutD
        have : HT.sIx vs.length vs.length (some (-1)) = m := by
          unfold HT.sIx
          simp only
          rw [if_pos (by omega)]; omega
        rw [List.length_map, HT.sIx_none, this, List.drop_zero, Nat.sub_zero, List.map_take]
      have s1 : eSl (eVar 0) (oSome (eC (.int 1))) oNone ρ M = .ok (.d (.tup ((vs.drop 1).map D.int))) M := by
        have o : oSome (eC (.int 1)) ρ M = .ok (some 1) M := rfl
        have o2 : oNone ρ M = .ok none M := rfl
        simp only [eSl, a0.v, look, bnd, o, o2, opSl, c1]
      have s2 : eSl (eVar 0) oNone (oSome (eUn unNeg (eC (.int 1)))) ρ M = .ok (.d (.tup ((vs.take m).map D.int))) M := by
        have o : oSome (eUn unNeg (eC (.int 1))) ρ M = .ok (some (-1)) M := rfl
        have o2 : oNone ρ M = .ok none M := rfl
        simp only [eSl, a0.v, look, bnd, o, o2, opSl, c2]
      have r1 := ih (vs.drop 1) (by rw [List.length_drop]; omega) (by omega)
      have r2 := ih (vs.take m) (by rw [List.length_take]; omega) (by omega)
      have g1 : gm (vf (vs.drop 1)) (vs.drop 1).length 0 = gm (vf vs) m 1 := by
        rw [List.length_drop, show vs.length - 1 = m by omega]
        exact gm_congr m 0 1 fun k _ => by rw [Nat.zero_add, Nat.add_comm]; exact vf_drop k
      have g2 : gm (vf (vs.take m)) (vs.take m).length 0 = gm (vf vs) m 0 := by
        rw [List.length_take, show min m vs.length = m by omega]
        exact gm_congr m 0 0 fun k hk => by rw [Nat.zero_add]; exact vf_take hk
      rw [g1] at r1
      rw [g2] at r2
      have k1 : eCall 1 (R__law_by_play (n + 1)) (aCons (eSl (eVar 0) (oSome (eC (.int 1))) oNone) aNil) ρ M = .ok (.d (.int (gm (vf vs) m 1))) M := q_call (q_cons1 s1) (ys := [.d (.tup ((vs.drop 1).map D.int))]) rfl rfl r1
      have k2 : eCall 1 (R__law_by_play (n + 1)) (aCons (eSl (eVar 0) oNone (oSome (eUn unNeg (eC (.int 1))))) aNil) ρ M = .ok (.d (.int (gm (vf vs) m 0))) M := q_call (q_cons1 s2) (ys := [.d (.tup ((vs.take m).map D.int))]) rfl rfl r2
      have v1 : eBin opIx (eVar 0) (eC (.int 0)) ρ M = .ok (.d (.int (vf vs 0))) M := (q_bin a0.v (y := .d (.int ((0 : Nat) : Int))) rfl).trans (ixV (by omega))
      have v2 : eBin opIx (eVar 0) (eUn unNeg (eC (.int 1))) ρ M = .ok (.d (.int (vf vs m))) M := by
        refine (q_bin a0.v (y := .d (.int (-1))) rfl).trans ?_
        have : atI (vs.map D.int) (-1) = some (.int (vf vs m)) := by
          unfold atI ixN
          rw [List.length_map, if_neg (by omega), if_pos (by omega)]
          show (vs.map D.int)[((-1 : Int) + (vs.length : Int)).toNat]? = _
          rw [show ((-1 : Int) + (vs.length : Int)).toNat = m by omega, List.getElem?_map, vf_get (by omega)]
          rfl
        show opIx (.d (.tup (vs.map D.int))) (.d (.int (-1))) M = _
        simp only [opIx, seqOf, this]
      have f := q_cons2 ((q_bin v1 k1).trans rfl : eBin opSub _ _ ρ M = .ok (.d (.int (vf vs 0 - gm (vf vs) m 1))) M) ((q_bin v2 k2).trans rfl : eBin opSub _ _ ρ M = .ok (.d (.int (vf vs m - gm (vf vs) m 0))) M)
      have fin : eB bMax (aCons (eBin opSub (eBin opIx (eVar 0) (eC (.int 0))) (eCall 1 (R__law_by_play (n + 1)) (aCons (eSl (eVar 0) (oSome (eC (.int 1))) oNone) aNil))) (aCons (eBin opSub (eBin opIx (eVar 0) (eUn unNeg (eC (.int 1)))) (eCall 1 (R__law_by_play (n + 1)) (aCons (eSl (eVar 0) oNone (oSome (eUn unNeg (eC (.int 1))))) aNil))) aNil)) ρ M = .ok (.d (.int (gm (vf vs) vs.length 0))) M := by
        rw [q_B f, hm, bmax2]
        have : gm (vf vs) (m + 1) 0 = max (vf vs 0 - gm (vf vs) m 1) (vf vs m - gm (vf vs) m 0) := by
          have e : 0 + m = m := Nat.zero_add m
          show max (vf vs 0 - gm (vf vs) m 1) (vf vs (0 + m) - gm (vf vs) m 0) = _
          rw [e]
        rw [this]
      rw [S__law_by_play, q_nx (q_skip t1), q_ret fin rfl]
      rfl
theorem put_own {ρ : DL.Env} {j k : Nat} {l : List D} {d : D} {fi fe : Sm Ev} (h : At ρ j (.ls .own l)) (he : fe ρ M = .ok (.d d) M) (hi : fi ρ M = .ok (.d (.int (k : Int))) M) (hk : k < l.length) : sPut j fi fe ρ M = .nx (ρ.set j (some (.ls .own (l.set k d)))) M := by
  have h' : ρ[j]? = some (some (.ls .own l)) := h
  simp only [sPut, he, sE, h', hi, put2, putO, ixN_nat hk]
theorem ix_own {ρ : DL.Env} {j k : Nat} {l : List D} {d : D} {fi : Sm Ev} (h : At ρ j (.ls .own l)) (hi : fi ρ M = .ok (.d (.int (k : Int))) M) (hd : l[k]? = some d) : eBin opIx (eVar j) fi ρ M = .ok (.d d) M := by
  refine (q_bin h.v hi).trans ?_
  have : atI l (k : Int) = some d := by rw [atI_get', hd]
  simp [look, opIx, seqOf, this]
theorem ix_dat {ρ : DL.Env} {j k : Nat} {l : List D} {d : D} {fi : Sm Ev} (h : At ρ j (.d (.tup l))) (hi : fi ρ M = .ok (.d (.int (k : Int))) M) (hd : l[k]? = some d) : eBin opIx (eVar j) fi ρ M = .ok (.d d) M := by
  refine (q_bin h.v hi).trans ?_
  have : atI l (k : Int) = some d := by rw [atI_get', hd]
  simp [look, opIx, seqOf, this]
/-- the frame of the judge -/
structure Ju (ρ : DL.Env) (vs : List Int) (due : Int) (told : List D) (b e : Nat) (T : Int) : Prop where
  len : ρ.length = 10
  a0 : At ρ 0 (.d (.tup (vs.map D.int)))
  a2 : At ρ 2 (.d (.int due))
  a3 : At ρ 3 (.d (.tup told))
  a4 : At ρ 4 (.ls .own [.int (b : Int), .int (e : Int)])
  a5 : At ρ 5 (.d (.int T))
theorem body_judge {ρ : DL.Env} {due : Int} {told : List D} {b e k p : Nat} {T : Int} (h : Ju ρ vs due told b e T) (h6 : At ρ 6 (.d (.int (k : Int)))) (h7 : At ρ 7 (.d (.int (p : Int)))) (hp : p < vs.length) (hk : k < 1000) (hc : p = b ∨ (p ≠ b ∧ p + 1 = e)) :
    ∃ ρ', B7__law_row_right ρ M = .nx ρ' M ∧ Ju ρ' vs due told (if p = b then p + 1 else b) (if p = b then e else p) (T + (if k % 2 = 0 then vf vs p else 0 - vf vs p)) := by
  have g0 : eBin opIx (eVar 4) (eC (.int 0)) ρ M = .ok (.d (.int (b : Int))) M := ix_own h.a4 (k := 0) rfl rfl
  have t0 : tCmpE (opEq false) (eVar 7) (eBin opIx (eVar 4) (eC (.int 0))) ρ M = .ok (decide ((p : Int) = (b : Int))) M := q_cmp ((q_bin h7.v g0).trans rfl)
  have first : ∃ ρ1, sIf (tCmpE (opEq false) (eVar 7) (eBin opIx (eVar 4) (eC (.int 0)))) (sPut 4 (eC (.int 0)) (eBin opAdd (eVar 7) (eC (.int 1)))) (sIf (tCmpE (opEq false) (eVar 7) (eBin opSub (eBin opIx (eVar 4) (eC (.int 1))) (eC (.int 1)))) (sPut 4 (eC (.int 1)) (eVar 7)) (sRet (eC (.bl false)))) ρ M = .nx ρ1 M ∧
      Ju ρ1 vs due told (if p = b then p + 1 else b) (if p = b then e else p) T ∧ At ρ1 6 (.d (.int (k : Int))) ∧ At ρ1 7 (.d (.int (p : Int))) := by
    by_cases hb : p = b
    · rw [decide_eq_true (by omega)] at t0
      have s1 := put_own (M := M) (k := 0) (fi := eC (.int 0)) (fe := eBin opAdd (eVar 7) (eC (.int 1))) (d := .int ((p + 1 : Nat) : Int)) h.a4 ((q_bin h7.v rfl).trans rfl) rfl (by simp)
      refine ⟨_, by rw [q_if1 t0, s1], ?_, h6.ne (by decide), h7.ne (by decide)⟩
      rw [if_pos hb, if_pos hb]
      exact ⟨by rw [List.length_set]; exact h.len, h.a0.ne (by decide), h.a2.ne (by decide), h.a3.ne (by decide), At.eq (by rw [h.len]; decide), h.a5.ne (by decide)⟩
    · rw [decide_eq_false (by omega)] at t0
      have he : p + 1 = e := by omega
      have g1 : eBin opIx (eVar 4) (eC (.int 1)) ρ M = .ok (.d (.int (e : Int))) M := ix_own h.a4 (k := 1) rfl rfl
      have t1 : tCmpE (opEq false) (eVar 7) (eBin opSub (eBin opIx (eVar 4) (eC (.int 1))) (eC (.int 1))) ρ M = .ok (decide ((p : Int) = (e : Int) - 1)) M := q_cmp ((q_bin h7.v ((q_bin g1 (y := .d (.int 1)) rfl).trans rfl)).trans rfl)
      rw [decide_eq_true (by omega)] at t1
      have s1 := put_own (M := M) (k := 1) (fi := eC (.int 1)) (fe := eVar 7) (d := .int (p : Int)) h.a4 h7.v rfl (by simp)
      refine ⟨_, by rw [q_if0 t0, q_if1 t1, s1], ?_, h6.ne (by decide), h7.ne (by decide)⟩
      rw [if_neg hb, if_neg hb]
      exact ⟨by rw [List.length_set]; exact h.len, h.a0.ne (by decide), h.a2.ne (by decide), h.a3.ne (by decide), At.eq (by rw [h.len]; decide), h.a5.ne (by decide)⟩
  obtain ⟨ρ1, s1, g, g6, g7⟩ := first
  have v1 : eBin opIx (eVar 0) (eVar 7) ρ1 M = .ok (.d (.int (vf vs p))) M := (q_bin g.a0.v g7.v).trans (ixV hp)
  have dv : cDiv (k : Int) 2 := ⟨by omega, by decide⟩
  have cm : cMul 2 ((k : Int) / 2) := cm64 (by omega) (by omega) (by omega) (by omega)
  have w1 : eBin opDiv (eVar 6) (eC (.int 2)) ρ1 M = .ok (.d (.int ((k : Int) / 2))) M := by
    refine (q_bin g6.v (y := .d (.int 2)) rfl).trans ?_
    simp only [look, opDiv, if_pos dv]
  have w2 : eBin opMulA (eC (.int 2)) (eBin opDiv (eVar 6) (eC (.int 2))) ρ1 M = .ok (.d (.int (2 * ((k : Int) / 2)))) M := by
    refine (q_bin (x := .d (.int 2)) rfl w1).trans ?_
    simp only [opMulA, opMul, if_pos cm]
  have w3 : tCmpE (opEq false) (eVar 6) (eBin opMulA (eC (.int 2)) (eBin opDiv (eVar 6) (eC (.int 2)))) ρ1 M = .ok (decide ((k : Int) = 2 * ((k : Int) / 2))) M := q_cmp ((q_bin g6.v w2).trans rfl)
  have w4 : eIf (tCmpE (opEq false) (eVar 6) (eBin opMulA (eC (.int 2)) (eBin opDiv (eVar 6) (eC (.int 2))))) (eBin opIx (eVar 0) (eVar 7)) (eBin opSub (eC (.int 0)) (eBin opIx (eVar 0) (eVar 7))) ρ1 M = .ok (.d (.int (if k % 2 = 0 then vf vs p else 0 - vf vs p))) M := by
    have v2 : eBin opSub (eC (.int 0)) (eBin opIx (eVar 0) (eVar 7)) ρ1 M = .ok (.d (.int (0 - vf vs p))) M := (q_bin (x := .d (.int 0)) rfl v1).trans rfl
    by_cases h2 : k % 2 = 0
    · rw [decide_eq_true (by omega)] at w3
      simp only [eIf, w3, bnd, if_true, v1, if_pos h2]
    · rw [decide_eq_false (by omega)] at w3
      simp only [eIf, w3, bnd, Bool.false_eq_true, if_false, v2, if_neg h2]
  have s2 := q_set (i := 5) ((q_bin g.a5.v w4).trans rfl : eBin opAdd _ _ ρ1 M = .ok (.d (.int (T + (if k % 2 = 0 then vf vs p else 0 - vf vs p)))) M) rfl (by rw [g.len]; decide)
  exact ⟨_, by rw [B7__law_row_right, q_nx s1, s2], by rw [List.length_set]; exact g.len, g.a0.ne (by decide), g.a2.ne (by decide), g.a3.ne (by decide), g.a4.ne (by decide), At.eq (by rw [g.len]; decide)⟩
/-- the judge's walk -/
theorem walk_judge {ρ : DL.Env} {due : Int} (h : Ju ρ vs due [.int due, .tup (pd (play (vf vs) vs.length 0))] 0 vs.length 0) (hL : vs.length ≤ 60) (hd : due = gm (vf vs) vs.length 0) :
    ∃ ρ' b, T8__law_row_right ρ M = .nx ρ' M ∧ Ju ρ' vs due [.int due, .tup (pd (play (vf vs) vs.length 0))] b b due := by
  have it : iO (enumA false) (aCons (eBin opIx (eVar 3) (eC (.int 1))) aNil) ρ M = .ok (pairL (pd (play (vf vs) vs.length 0))) M := by
    have e1 : eBin opIx (eVar 3) (eC (.int 1)) ρ M = .ok (.d (.tup (pd (play (vf vs) vs.length 0)))) M := ix_dat h.a3 (k := 1) rfl rfl
    have e2 := q_cons1 e1
    simp only [iO, e2, bnd, enumA, optR]
  have plen : (pd (play (vf vs) vs.length 0)).length = vs.length := by unfold pd; rw [List.length_map, play_len]
  obtain ⟨ρ', M', e, e1, b, s, T, hs, hb, g, hpl, hT⟩ := forL_inv (g := .many [6, 7]) (f := B7__law_row_right)
    (fun k ρ M' => M' = M ∧ ∃ (b s : Nat) (T : Int), k + s = vs.length ∧ b + s ≤ vs.length ∧ Ju ρ vs due [.int due, .tup (pd (play (vf vs) vs.length 0))] b (b + s) T ∧ play (vf vs) s b = (play (vf vs) vs.length 0).drop k ∧ T + (if k % 2 = 0 then gm (vf vs) s b else 0 - gm (vf vs) s b) = due)
    (pairL (pd (play (vf vs) vs.length 0))) 0 ρ M
    (fun k d ρ M1 hd' hi => by
      obtain ⟨e1, b, s, T, hs, hb, g, hpl, hT⟩ := hi
      rw [Nat.zero_add] at hs hpl hT ⊢
      obtain ⟨x, hx, rfl⟩ := pairL_get hd'
      have hk : k < vs.length := by rw [← plen]; exact (List.getElem?_eq_some_iff.mp hx).1
      obtain ⟨s', rfl⟩ : ∃ s', s = s' + 1 := ⟨s - 1, by omega⟩
      have hx2 : ∃ p : Nat, (play (vf vs) vs.length 0)[k]? = some p ∧ x = .int (p : Int) := by
        unfold pd at hx
        rw [List.getElem?_map] at hx
        cases hq : (play (vf vs) vs.length 0)[k]? with
        | none => rw [hq] at hx; cases hx
        | some p => rw [hq] at hx; exact ⟨p, rfl, (Option.some.inj hx).symm⟩
      obtain ⟨p, hp, rfl⟩ := hx2
      have hp0 : (play (vf vs) (s' + 1) b)[0]? = some p := by rw [hpl, List.getElem?_drop]; simpa using hp
      have gl : ∀ i ∈ [6, 7], i < ρ.length := by rw [g.len]; decide
      have tg : tgE (.many [6, 7]) ρ (.tup [.int (k : Int), .int (p : Int)]) = some ((ρ.set 6 (some (.d (.int (k : Int))))).set 7 (some (.d (.int (p : Int))))) := by
        simp only [tgE]
        rw [if_pos ⟨rfl, gl⟩]
        rfl
      have gj : Ju ((ρ.set 6 (some (.d (.int (k : Int))))).set 7 (some (.d (.int (p : Int))))) vs due [.int due, .tup (pd (play (vf vs) vs.length 0))] b (b + (s' + 1)) T :=
        ⟨by simp only [List.length_set]; exact g.len, (g.a0.ne (by decide)).ne (by decide), (g.a2.ne (by decide)).ne (by decide), (g.a3.ne (by decide)).ne (by decide), (g.a4.ne (by decide)).ne (by decide), (g.a5.ne (by decide)).ne (by decide)⟩
      have gg : gm (vf vs) (s' + 1) b = max (vf vs b - gm (vf vs) s' (b + 1)) (vf vs (b + s') - gm (vf vs) s' b) := rfl
      have par : ∀ x : Int, (if (k + 1) % 2 = 0 then x else 0 - x) = (if k % 2 = 0 then 0 - x else x) := fun x => by
        by_cases h2 : k % 2 = 0
        · rw [if_pos h2, if_neg (by omega)]
        · rw [if_neg h2, if_pos (by omega)]
      by_cases hc : vf vs b - gm (vf vs) s' (b + 1) = gm (vf vs) (s' + 1) b
      · have pe : play (vf vs) (s' + 1) b = b :: play (vf vs) s' (b + 1) := by conv => lhs; unfold play; rw [if_pos hc]
        have ep : p = b := by rw [pe] at hp0; simpa using hp0.symm
        obtain ⟨ρ', k1, k2⟩ := body_judge (M := M) gj ((At.eq (by rw [g.len]; decide)).ne (by decide)) (At.eq (by rw [List.length_set, g.len]; decide)) (by omega) (by omega) (.inl ep)
        rw [if_pos ep, if_pos ep, ep] at k2
        rw [e1, tg]
        refine ⟨_, ρ', M, rfl, k1, rfl, b + 1, s', _, by omega, by omega, by rw [show b + 1 + s' = b + (s' + 1) by omega]; exact k2, ?_, ?_⟩
        · rw [← List.drop_drop, ← hpl, pe]; rfl
        · rw [par]
          by_cases h2 : k % 2 = 0
          · rw [if_pos h2] at hT ⊢; rw [if_pos h2]; omega
          · rw [if_neg h2] at hT ⊢; rw [if_neg h2]; omega
      · have pe : play (vf vs) (s' + 1) b = (b + s') :: play (vf vs) s' b := by conv => lhs; unfold play; rw [if_neg hc]
        have ep : p = b + s' := by rw [pe] at hp0; simpa using hp0.symm
        have ne : p ≠ b := fun z => by
          have : s' = 0 := by omega
          subst this
          apply hc
          rw [gg]
          simp [gm]
        obtain ⟨ρ', k1, k2⟩ := body_judge (M := M) gj ((At.eq (by rw [g.len]; decide)).ne (by decide)) (At.eq (by rw [List.length_set, g.len]; decide)) (by omega) (by omega) (.inr ⟨ne, by omega⟩)
        rw [if_neg ne, if_neg ne, ep] at k2
        rw [e1, tg]
        refine ⟨_, ρ', M, rfl, k1, rfl, b, s', _, by omega, by omega, k2, ?_, ?_⟩
        · rw [← List.drop_drop, ← hpl, pe]; rfl
        · rw [par]
          by_cases h2 : k % 2 = 0
          · rw [if_pos h2] at hT ⊢; rw [if_pos h2]; omega
          · rw [if_neg h2] at hT ⊢; rw [if_neg h2]; omega) ⟨rfl, 0, vs.length, 0, by omega, by omega, by rw [Nat.zero_add]; exact h, rfl, by rw [if_pos rfl, hd]; omega⟩
  have hlen : (pairL (pd (play (vf vs) vs.length 0))).length = vs.length := by rw [pairL_len, plen]
  rw [hlen, Nat.zero_add] at hs
  have hs0 : s = 0 := by omega
  subst hs0
  have hT0 : T = due := by
    have : ∀ b, gm (vf vs) 0 b = 0 := fun _ => rfl
    rw [this] at hT
    split at hT <;> omega
  rw [hT0] at g
  rw [e1] at e
  exact ⟨ρ', b, q_for it e, g⟩
end K64

set_option Elab.async false
set_option linter.all false
set_option maxRecDepth 100000
set_option maxHeartbeats 2000000
/-! law k64, plainly: a row is right. -/
namespace K64
open PySem PySem.Spec PyProof.Rows L2 DL
variable {vs : List Int} {t : Nat → Nat → Int} {M : Mem}
theorem is_eq : ∀ n, R__law_is n = R_is n
  | 0 => rfl
  | n + 1 => by
    show fnOf 4 (S__law_is (R__law_is n)) = fnOf 4 (S_is (R_is n))
    rw [is_eq n]; rfl
theorem zip_same {α : Type} {l : List α} {p : α × α} (h : p ∈ l.zip l) : p.1 = p.2 := by
  induction l with
  | nil => simp at h
  | cons x l ih =>
    rw [List.zip_cons_cons] at h
    rcases List.mem_cons.mp h with e | h
    · rw [e]
    · exact ih h
theorem is_told {a : Int} {l : List Nat} (hl : l.length ≤ 1000) : F__law_is [.d (.tup [.int a, .tup (pd l)]), .d (.tup [.int a, .tup (pd l)])] M = .ok (.bl true) M := by
  show R__law_is 4 _ _ = _
  rw [is_eq]
  refine is_tup 3 _ _ M rfl (by simp [most]) fun p hp => ?_
  have : p = (.int a, .int a) ∨ p = (.tup (pd l), .tup (pd l)) := by simpa using hp
  rcases this with rfl | rfl
  · show R_is 3 [.d (.int a), .d (.int a)] M = _
    rw [is_int]; simp
  · show R_is 3 [.d (.tup (pd l)), .d (.tup (pd l))] M = _
    refine is_tup 2 _ _ M rfl (by unfold pd; rw [List.length_map]; unfold most; omega) fun p hp => ?_
    have e := zip_same hp
    have hm : p.1 ∈ pd l := (List.of_mem_zip (a := p.1) (b := p.2) hp).1
    obtain ⟨k, _, hk⟩ := List.mem_map.mp hm
    rw [← e, ← hk, is_int]; simp
theorem vf_rev {k : Nat} (h : k < vs.length) : vf vs.reverse k = vf vs (vs.length - 1 - k) := by
  unfold vf
  simp [List.getD, List.getElem?_reverse h]
theorem len_at {ρ : DL.Env} {i : Nat} {l : List D} (h : At ρ i (.d (.tup l))) : eB bLen (aCons (eVar i) aNil) ρ M = .ok (.d (.int (l.length : Int))) M := by
  rw [q_B (q_cons1 h.v)]
  simp [bLen, look, seqOf]
theorem row_right (hL : vs.length ≤ 60) (hb : ∀ z ∈ vs, -1000000000 ≤ z ∧ z ≤ 1000000000) : F__law_row_right [.d (.tup (vs.map D.int))] M = .ok (.bl true) M := by
  unfold F__law_row_right
  rw [fnOf_eq]
  show fnEnd (S__law_row_right (some (.d (.tup (vs.map D.int))) :: List.replicate 9 none) M) = _
  generalize hρ : (some (Ev.d (.tup (vs.map D.int))) :: List.replicate 9 none : DL.Env) = ρ
  have l0 : ρ.length = 10 := by rw [← hρ]; simp
  have a0 : At ρ 0 (.d (.tup (vs.map D.int))) := by rw [← hρ]; rfl
  obtain ⟨t, m1, ht⟩ := more_ok (M := M) hL
  have s1 : T1__law_row_right ρ M = .nx (ρ.set 1 (some (.d (.lst ((mk vs.length t).map D.lst))))) M := q_set (i := 1) (q_call (q_cons1 a0.v) (ys := [.d (.tup (vs.map D.int))]) rfl rfl m1) rfl (by rw [l0]; decide)
  generalize h1 : ρ.set 1 (some (.d (.lst ((mk vs.length t).map D.lst)))) = ρ1 at s1
  have l1 : ρ1.length = 10 := by rw [← h1, List.length_set]; exact l0
  have b0 : At ρ1 0 (.d (.tup (vs.map D.int))) := by rw [← h1]; exact a0.ne (by decide)
  have b1 : At ρ1 1 (.d (.lst ((mk vs.length t).map D.lst))) := by rw [← h1]; exact At.eq (by rw [l0]; decide)
  have ln : (vs.map D.int).length = vs.length := List.length_map ..
  have d1 : eBin opIx (eBin opIx (eVar 1) (eC (.int 0))) (eB bLen (aCons (eVar 0) aNil)) ρ1 M = .ok (.d (.int (gm (vf vs) vs.length 0))) M := by
    have e := ht 0 vs.length (by omega) (by omega) (.inl (by omega))
    rw [Nat.sub_zero] at e
    rw [← e]
    have e2 := len_at (M := M) b0
    rw [ln] at e2
    exact (q_bin ((q_bin b1.v (y := .d (.int ((0 : Nat) : Int))) rfl).trans (ixR' (by omega))) e2).trans (ixC' (by omega))
  have s2 : T2__law_row_right ρ1 M = .nx (ρ1.set 2 (some (.d (.int (gm (vf vs) vs.length 0))))) M := q_set (i := 2) d1 rfl (by rw [l1]; decide)
  generalize hd : gm (vf vs) vs.length 0 = due at s2
  generalize h2 : ρ1.set 2 (some (.d (.int due))) = ρ2 at s2
  have l2 : ρ2.length = 10 := by rw [← h2, List.length_set]; exact l1
  have c0 : At ρ2 0 (.d (.tup (vs.map D.int))) := by rw [← h2]; exact b0.ne (by decide)
  have c1 : At ρ2 1 (.d (.lst ((mk vs.length t).map D.lst))) := by rw [← h2]; exact b1.ne (by decide)
  have c2 : At ρ2 2 (.d (.int due)) := by rw [← h2]; exact At.eq (by rw [l1]; decide)
  have eo := ends_ok (M := M) hL hb
  rw [hd] at eo
  have s3 : T3__law_row_right ρ2 M = .nx (ρ2.set 3 (some (.d (.tup [.int due, .tup (pd (play (vf vs) vs.length 0))])))) M := q_set (i := 3) (q_call (q_cons1 c0.v) (ys := [.d (.tup (vs.map D.int))]) rfl rfl eo) rfl (by rw [l2]; decide)
  generalize h3 : ρ2.set 3 (some (.d (.tup [.int due, .tup (pd (play (vf vs) vs.length 0))]))) = ρ3 at s3
  have l3 : ρ3.length = 10 := by rw [← h3, List.length_set]; exact l2
  have f0 : At ρ3 0 (.d (.tup (vs.map D.int))) := by rw [← h3]; exact c0.ne (by decide)
  have f1 : At ρ3 1 (.d (.lst ((mk vs.length t).map D.lst))) := by rw [← h3]; exact c1.ne (by decide)
  have f2 : At ρ3 2 (.d (.int due)) := by rw [← h3]; exact c2.ne (by decide)
  have f3 : At ρ3 3 (.d (.tup [.int due, .tup (pd (play (vf vs) vs.length 0))])) := by rw [← h3]; exact At.eq (by rw [l2]; decide)
  -- the told row is the law's own
  have p1 : eCall 2 F__law_play (aCons (eVar 0) (aCons (eVar 1) aNil)) ρ3 M = .ok (.d (.tup (pd (play (vf vs) vs.length 0)))) M := q_call (q_cons2 f0.v f1.v) (ys := [.d (.tup (vs.map D.int)), .d (.lst ((mk vs.length t).map D.lst))]) rfl rfl (play_ok hL ht)
  have p2 : eTup (aCons (eVar 2) (aCons (eCall 2 F__law_play (aCons (eVar 0) (aCons (eVar 1) aNil))) aNil)) ρ3 M = .ok (.d (.tup [.int due, .tup (pd (play (vf vs) vs.length 0))])) M := by
    have e := q_cons2 f2.v p1
    have d2 : datas [look (.d (.int due)), .d (.tup (pd (play (vf vs) vs.length 0)))] = some [.int due, .tup (pd (play (vf vs) vs.length 0))] := rfl
    simp only [eTup, e, bnd, d2]
    rw [if_pos (show [D.int due, D.tup (pd (play (vf vs) vs.length 0))].length ≤ most by simp [most])]
  have p3 := q_not (truV (q_call (q_cons2 f3.v p2) (ys := [.d (.tup [.int due, .tup (pd (play (vf vs) vs.length 0))]), .d (.tup [.int due, .tup (pd (play (vf vs) vs.length 0))])]) (n := 2) rfl rfl (is_told (by rw [play_len]; omega))))
  have rv : eRev (eVar 0) ρ3 M = .ok (.d (.tup (vs.reverse.map D.int))) M := by
    have : revD (.d (.tup (vs.map D.int))) = some (.tup (vs.reverse.map D.int)) := by simp [revD, List.map_reverse]
    simp only [eRev, f0.v, look, bnd, this]
  have er := ends_ok (vs := vs.reverse) (M := M) (by rw [List.length_reverse]; exact hL) (fun z hz => hb z (List.mem_reverse.mp hz))
  have eg : gm (vf vs.reverse) vs.reverse.length 0 = due := by
    rw [List.length_reverse, gm_rev vs.length (fun k hk => vf_rev hk) vs.length 0 (by omega), show vs.length - 0 - vs.length = 0 by omega, hd]
  rw [eg] at er
  have q1 : eBin opIx (eCall 1 F_ends_row (aCons (eRev (eVar 0)) aNil)) (eC (.int 0)) ρ3 M = .ok (.d (.int due)) M := by
    refine (q_bin (q_call (q_cons1 rv) (ys := [.d (.tup (vs.reverse.map D.int))]) rfl rfl er) (y := .d (.int ((0 : Nat) : Int))) rfl).trans ?_
    simp [opIx, seqOf, at_0]
  have ne0 : ∀ {e e' : Sm Ev} {ρ : DL.Env} {a : Int}, e ρ M = .ok (.d (.int a)) M → e' ρ M = .ok (.d (.int a)) M → tCmpE (opEq true) e e' ρ M = .ok false M := fun {e e' ρ a} h h' => by
    refine q_cmp ((q_bin h h').trans ?_)
    simp [opEq, eqR]
  have s4 : T4__law_row_right ρ3 M = .nx ρ3 M := q_skip (by rw [q_or0 p3]; exact ne0 q1 f2.v)
  -- by play
  have ln3 := len_at (M := M) f0
  rw [ln] at ln3
  have s5 : T5__law_row_right ρ3 M = .nx ρ3 M := by
    have t1 : tCmpE opLe (eB bLen (aCons (eVar 0) aNil)) (eC (.int 8)) ρ3 M = .ok (decide ((vs.length : Int) ≤ 8)) M := q_cmp ((q_bin ln3 (y := .d (.int 8)) rfl).trans rfl)
    by_cases h8 : vs.length ≤ 8
    · rw [decide_eq_true (by omega)] at t1
      have r := by_play (M := M) 9 vs (by omega) (by omega)
      rw [hd] at r
      have k1 : eCall 1 F__law_by_play (aCons (eVar 0) aNil) ρ3 M = .ok (.d (.int due)) M := q_call (q_cons1 f0.v) (ys := [.d (.tup (vs.map D.int))]) rfl rfl r
      exact q_skip (by rw [q_and1 t1]; exact ne0 k1 f2.v)
    · rw [decide_eq_false (by omega)] at t1
      exact q_skip (q_and0 t1)
  have s6 : T6__law_row_right ρ3 M = .nx ((ρ3.set 4 (some (.ls .own [.int ((0 : Nat) : Int), .int (vs.length : Int)]))).set 5 (some (.d (.int 0)))) M := by
    have hi : ∀ i ∈ [4, 5], i < ρ3.length := by rw [l3]; decide
    have g0 : nF (fLst (aCons (eC (.int 0)) (aCons (eB bLen (aCons (eVar 0) aNil)) aNil))) ρ3 M = .ok (.ls .own [.int ((0 : Nat) : Int), .int (vs.length : Int)]) M := by
      have e := q_cons2 (show eC (.int 0) ρ3 M = .ok (.d (.int ((0 : Nat) : Int))) M from rfl) ln3
      have d2 : datas [.d (.int ((0 : Nat) : Int)), .d (.int (vs.length : Int))] = some [.int ((0 : Nat) : Int), .int (vs.length : Int)] := rfl
      simp only [nF, fLst, e, bnd, d2, Option.bind]
      rw [if_pos (show [D.int ((0 : Nat) : Int), D.int (vs.length : Int)].length ≤ most by simp [most])]
      rfl
    have g1 : nE (eC (.int 0)) ρ3 M = .ok (.d (.int 0)) M := rfl
    have e0 : nCons (nF (fLst (aCons (eC (.int 0)) (aCons (eB bLen (aCons (eVar 0) aNil)) aNil)))) (nCons (nE (eC (.int 0))) nNil) ρ3 M = .ok [.ls .own [.int ((0 : Nat) : Int), .int (vs.length : Int)], .d (.int 0)] M := by
      simp only [nCons, g0, g1, bnd, nNil]
    simp only [T6__law_row_right, sParN, e0, sE]
    rw [if_pos ⟨rfl, hi⟩]
    rfl
  have ju : Ju ((ρ3.set 4 (some (.ls .own [.int ((0 : Nat) : Int), .int (vs.length : Int)]))).set 5 (some (.d (.int 0)))) vs due [.int due, .tup (pd (play (vf vs) vs.length 0))] 0 vs.length 0 :=
    ⟨by simp only [List.length_set]; exact l3, (f0.ne (by decide)).ne (by decide), (f2.ne (by decide)).ne (by decide), (f3.ne (by decide)).ne (by decide), (At.eq (by rw [l3]; decide)).ne (by decide), At.eq (by rw [List.length_set, l3]; decide)⟩
  obtain ⟨ρ4, b, s8, g⟩ := walk_judge (M := M) ju hL hd.symm
  have ln4 := len_at (M := M) g.a0
  rw [ln] at ln4
  have s9 : T9__law_row_right ρ4 M = .nx ρ4 M := by
    have g0 : eBin opIx (eVar 4) (eC (.int 0)) ρ4 M = .ok (.d (.int (b : Int))) M := ix_own g.a4 (k := 0) rfl rfl
    have g1 : eBin opIx (eVar 4) (eC (.int 1)) ρ4 M = .ok (.d (.int (b : Int))) M := ix_own g.a4 (k := 1) rfl rfl
    have g2 : eBin opIx (eVar 3) (eC (.int 1)) ρ4 M = .ok (.d (.tup (pd (play (vf vs) vs.length 0)))) M := ix_dat g.a3 (k := 1) rfl rfl
    have g3 : eB bLen (aCons (eBin opIx (eVar 3) (eC (.int 1))) aNil) ρ4 M = .ok (.d (.int (vs.length : Int))) M := by
      rw [q_B (q_cons1 g2)]
      have : (pd (play (vf vs) vs.length 0)).length = vs.length := by unfold pd; rw [List.length_map, play_len]
      simp [bLen, seqOf, this]
    exact q_skip (by rw [q_or0 (ne0 g0 g1), q_or0 (ne0 g.a5.v g.a2.v)]; exact ne0 g3 ln4)
  have tail : ∃ M', fnEnd (sSeq T10__law_row_right T11__law_row_right ρ4 M) = .ok (.bl true) M' ∧ M' = M := by
    have dv : cDiv (vs.length : Int) 2 := ⟨by omega, by decide⟩
    have cm : cMul 2 ((vs.length : Int) / 2) := cm64 (by omega) (by omega) (by omega) (by omega)
    have w1 : eBin opDiv (eB bLen (aCons (eVar 0) aNil)) (eC (.int 2)) ρ4 M = .ok (.d (.int ((vs.length : Int) / 2))) M := by
      refine (q_bin ln4 (y := .d (.int 2)) rfl).trans ?_
      simp only [opDiv, if_pos dv]
    have w2 : eBin opMulA (eC (.int 2)) (eBin opDiv (eB bLen (aCons (eVar 0) aNil)) (eC (.int 2))) ρ4 M = .ok (.d (.int (2 * ((vs.length : Int) / 2)))) M := by
      refine (q_bin (x := .d (.int 2)) rfl w1).trans ?_
      simp only [opMulA, opMul, if_pos cm]
    have w3 : tCmpE (opEq false) (eB bLen (aCons (eVar 0) aNil)) (eBin opMulA (eC (.int 2)) (eBin opDiv (eB bLen (aCons (eVar 0) aNil)) (eC (.int 2)))) ρ4 M = .ok (decide ((vs.length : Int) = 2 * ((vs.length : Int) / 2))) M := q_cmp ((q_bin ln4 w2).trans rfl)
    by_cases h2 : vs.length % 2 = 0
    · rw [decide_eq_true (by omega)] at w3
      have i1 : iSeq true (eVar 0) ρ4 M = .ok (vs.map D.int) M := by simp only [iSeq, g.a0.v, look, bnd, itemsOf]
      have hm : (vs.map D.int).length ≤ most := by rw [ln]; unfold most; omega
      have lc1 : fLc (iSeq true (eVar 0)) (.one 9) [9] tYesE (eB bAbs (aCons (eVar 9) aNil)) ρ4 M = .ok ((vs.map D.int).map fun d => match d with | .int z => .int (z.natAbs : Int) | x => x) M := by
        simp only [fLc, i1, bnd, if_pos hm]
        refine lcL_map _ _ fun x hx => ?_
        obtain ⟨z, _, rfl⟩ := List.mem_map.mp hx
        have gl : 9 < (wipeE ρ4 [9]).length := by simp [wipeE, g.len]
        have v9 : eVar 9 ((wipeE ρ4 [9]).set 9 (some (.d (.int z)))) M = .ok (.d (.int z)) M := (At.eq gl).v
        refine ⟨_, tg1 gl, ?_⟩
        rw [q_B (q_cons1 v9)]
        have : (if z < 0 then -z else z) = (z.natAbs : Int) := by split <;> omega
        simp only [bAbs, this]
      have e1 : ((vs.map D.int).map fun d => match d with | .int z => .int (z.natAbs : Int) | x => x) = (vs.map fun z => (z.natAbs : Int)).map D.int := by
        rw [List.map_map, List.map_map]; rfl
      rw [e1] at lc1
      generalize has : (vs.map fun z => (z.natAbs : Int)) = as at lc1
      have la : as.length = vs.length := by rw [← has, List.length_map]
      have k1 : eBin opAdd (eF (fLc (iSeq true (eVar 0)) (.one 9) [9] tYesE (eB bAbs (aCons (eVar 9) aNil)))) (eLst (aCons (eC (.int 0)) aNil)) ρ4 M = .ok (.d (.lst ((as ++ [0]).map D.int))) M := by
        have x1 : eF (fLc (iSeq true (eVar 0)) (.one 9) [9] tYesE (eB bAbs (aCons (eVar 9) aNil))) ρ4 M = .ok (.d (.lst (as.map D.int))) M := by simp only [eF, lc1, bnd]
        have x2 : eLst (aCons (eC (.int 0)) aNil) ρ4 M = .ok (.d (.lst [.int 0])) M := by simp [eLst, aCons, aNil, eC, bnd, datas, most]
        refine (q_bin x1 x2).trans ?_
        have hm2 : (as.map D.int).length + [D.int 0].length ≤ most := by rw [List.length_map]; simp [most]; omega
        simp only [opAdd, opAddL, lstOf, if_pos hm2]
        simp
      have k2 : ∃ mm, eB bMax (aCons (eBin opAdd (eF (fLc (iSeq true (eVar 0)) (.one 9) [9] tYesE (eB bAbs (aCons (eVar 9) aNil)))) (eLst (aCons (eC (.int 0)) aNil))) aNil) ρ4 M = .ok (.d (.int mm)) M ∧ ∀ x ∈ as, x ≤ mm := by
        refine ⟨maxL (as ++ [0]), ?_, fun x hx => (maxL_is (ns := as ++ [0]) (by simp)).2 x (List.mem_append_left _ hx)⟩
        rw [q_B (q_cons1 k1)]
        have ti := toInts_ints (as ++ [0])
        cases hq : as ++ [0] with
        | nil => simp at hq
        | cons n ns =>
          rw [hq] at ti
          simp only [bMax, intsOf, lstOf, Option.bind, ti]
      obtain ⟨mm, k2, hmm⟩ := k2
      have c8 : CPow 10 8 := ⟨by omega, by omega, by decide⟩
      have k3 : tCmpE opLt (eB bMax (aCons (eBin opAdd (eF (fLc (iSeq true (eVar 0)) (.one 9) [9] tYesE (eB bAbs (aCons (eVar 9) aNil)))) (eLst (aCons (eC (.int 0)) aNil))) aNil)) (eBin opPow (eC (.int 10)) (eC (.int 8))) ρ4 M = .ok (decide (mm < 100000000)) M := by
        have x1 : eBin opPow (eC (.int 10)) (eC (.int 8)) ρ4 M = .ok (.d (.int 100000000)) M := by simp [eBin, eC, bnd, opI2, c8]
        exact q_cmp ((q_bin k2 x1).trans rfl)
      have k4 : ∃ c : Int, eIf (tCmpE opLt (eB bMax (aCons (eBin opAdd (eF (fLc (iSeq true (eVar 0)) (.one 9) [9] tYesE (eB bAbs (aCons (eVar 9) aNil)))) (eLst (aCons (eC (.int 0)) aNil))) aNil)) (eBin opPow (eC (.int 10)) (eC (.int 8)))) (eC (.int 5)) (eC (.int 0)) ρ4 M = .ok (.d (.int c)) M ∧ ∀ z ∈ vs, -1000000000 ≤ z + c ∧ z + c ≤ 1000000000 := by
        by_cases hlt : mm < 100000000
        · rw [decide_eq_true hlt] at k3
          refine ⟨5, by simp only [eIf, k3, bnd, if_true]; rfl, fun z hz => ?_⟩
          have := hmm (z.natAbs : Int) (by rw [← has]; exact List.mem_map.mpr ⟨z, hz, rfl⟩)
          omega
        · rw [decide_eq_false hlt] at k3
          refine ⟨0, by simp only [eIf, k3, bnd, Bool.false_eq_true, if_false]; rfl, fun z hz => ?_⟩
          have := hb z hz
          omega
      obtain ⟨c, k4, hcb⟩ := k4
      have s10 := q_set (i := 8) k4 rfl (by rw [g.len]; decide)
      generalize h5 : ρ4.set 8 (some (.d (.int c))) = ρ5 at s10
      have l5 : ρ5.length = 10 := by rw [← h5, List.length_set]; exact g.len
      have j0 : At ρ5 0 (.d (.tup (vs.map D.int))) := by rw [← h5]; exact g.a0.ne (by decide)
      have j2 : At ρ5 2 (.d (.int due)) := by rw [← h5]; exact g.a2.ne (by decide)
      have j8 : At ρ5 8 (.d (.int c)) := by rw [← h5]; exact At.eq (by rw [g.len]; decide)
      have i2 : iSeq true (eVar 0) ρ5 M = .ok (vs.map D.int) M := by simp only [iSeq, j0.v, look, bnd, itemsOf]
      have lc2 : fLc (iSeq true (eVar 0)) (.one 9) [9] tYesE (eBin opAdd (eVar 9) (eVar 8)) ρ5 M = .ok ((vs.map D.int).map fun d => match d with | .int z => .int (z + c) | x => x) M := by
        simp only [fLc, i2, bnd, if_pos hm]
        refine lcL_map _ _ fun x hx => ?_
        obtain ⟨z, _, rfl⟩ := List.mem_map.mp hx
        have gl : 9 < (wipeE ρ5 [9]).length := by simp [wipeE, l5]
        have v9 : eVar 9 ((wipeE ρ5 [9]).set 9 (some (.d (.int z)))) M = .ok (.d (.int z)) M := (At.eq gl).v
        have v8 : At ((wipeE ρ5 [9]).set 9 (some (.d (.int z)))) 8 (.d (.int c)) := by
          refine At.ne ?_ (by decide)
          show At (ρ5.set 9 none) 8 _
          exact j8.ne (by decide)
        exact ⟨_, tg1 gl, (q_bin v9 v8.v).trans rfl⟩
      have e2 : ((vs.map D.int).map fun d => match d with | .int z => .int (z + c) | x => x) = (vs.map fun z => z + c).map D.int := by
        rw [List.map_map, List.map_map]; rfl
      rw [e2] at lc2
      have m1 : eB bTup (aCons (eF (fLc (iSeq true (eVar 0)) (.one 9) [9] tYesE (eBin opAdd (eVar 9) (eVar 8)))) aNil) ρ5 M = .ok (.d (.tup ((vs.map fun z => z + c).map D.int))) M := by
        have x1 : eF (fLc (iSeq true (eVar 0)) (.one 9) [9] tYesE (eBin opAdd (eVar 9) (eVar 8))) ρ5 M = .ok (.d (.lst ((vs.map fun z => z + c).map D.int))) M := by simp only [eF, lc2, bnd]
        rw [q_B (q_cons1 x1)]
        simp only [bTup, lstOf]
      have er2 := ends_ok (vs := vs.map fun z => z + c) (M := M) (by rw [List.length_map]; exact hL) (fun z hz => by
        obtain ⟨y, hy, rfl⟩ := List.mem_map.mp hz
        exact hcb y hy)
      have eg2 : gm (vf (vs.map fun z => z + c)) (vs.map fun z => z + c).length 0 = due := by
        rw [List.length_map, gm_congr (u := fun k => vf vs k + c) vs.length 0 0 (fun k hk => by
          rw [Nat.zero_add]
          have h1 := vf_get (vs := vs.map fun z => z + c) (i := k) (by rw [List.length_map]; exact hk)
          rw [List.getElem?_map, vf_get hk] at h1
          exact (Option.some.inj h1).symm), gm_add, if_pos h2, hd]
        omega
      rw [eg2] at er2
      have m2 : eBin opIx (eCall 1 F_ends_row (aCons (eB bTup (aCons (eF (fLc (iSeq true (eVar 0)) (.one 9) [9] tYesE (eBin opAdd (eVar 9) (eVar 8)))) aNil)) aNil)) (eC (.int 0)) ρ5 M = .ok (.d (.int due)) M := by
        refine (q_bin (q_call (q_cons1 m1) (ys := [.d (.tup ((vs.map fun z => z + c).map D.int))]) rfl rfl er2) (y := .d (.int ((0 : Nat) : Int))) rfl).trans ?_
        simp [opIx, seqOf, at_0]
      have m3 : eBin opGe (eVar 2) (eC (.int 0)) ρ5 M = .ok (bv true) M := by
        refine (q_bin j2.v (y := .d (.int 0)) rfl).trans ?_
        have : (0 : Int) ≤ due := by rw [← hd]; exact gm_even _ _ _ h2
        simp [look, opI2, this]
      have m4 : eBin (opEq false) (eBin opIx (eCall 1 F_ends_row (aCons (eB bTup (aCons (eF (fLc (iSeq true (eVar 0)) (.one 9) [9] tYesE (eBin opAdd (eVar 9) (eVar 8)))) aNil)) aNil)) (eC (.int 0))) (eVar 2) ρ5 M = .ok (bv true) M := by
        refine (q_bin m2 j2.v).trans ?_
        simp [look, opEq, eqR]
      have s11 : T10__law_row_right ρ4 M = .rt (.bl true) M := by
        rw [T10__law_row_right, q_if1 w3, q_nx s10, q_ret (by rw [q_eand1 m3 rfl]; exact m4) rfl]
      exact ⟨M, by rw [q_rt s11]; rfl, rfl⟩
    · rw [decide_eq_false (by omega)] at w3
      have s10 : T10__law_row_right ρ4 M = .nx ρ4 M := q_skip w3
      exact ⟨M, by rw [q_nx s10]; rfl, rfl⟩
  obtain ⟨M', e, rfl⟩ := tail
  rw [S__law_row_right, q_nx s1, q_nx s2, q_nx s3, q_nx s4, q_nx s5, q_nx s6, q_nx s8, q_nx s9, e]
end K64

set_option Elab.async false
set_option linter.all false
set_option maxRecDepth 100000
set_option maxHeartbeats 2000000
/-! law k64, plainly: what is refused; the last line. -/
namespace K64
open PySem PySem.Spec PyProof.Rows L2 DL
variable {vs : List Int} {M : Mem}
theorem any_eq : F__law_any = F_any := rfl
theorem draw_eq : F__law_draw = F_draw := rfl
theorem hand_eq : F__law_hand = F_hand := rfl
theorem integer_of {x : D} {a : String} (h : tyN (.d x) = some a) (hl : look (.d x) = .d x) : F_is_integer [.d x] M = .ok (.bl (isOf a "int" && !isOf a "bool")) M := by
  unfold F_is_integer
  rw [fnOf_eq]
  show fnEnd (S_is_integer [some (.d x)] M) = _
  have v0 : eVar 0 [some (.d x)] M = .ok (.d x) M := rfl
  have t1 := isi1 (b := "int") v0 (a := a) h (by decide)
  have t2 := isi1 (b := "bool") v0 (a := a) h (by decide)
  have t3 : eNot (eB bIsi (aCons (eVar 0) (aCons (eC (.ty "bool")) aNil))) [some (.d x)] M = .ok (bv (!isOf a "bool")) M := by simp only [eNot, t2, bnd, truth]
  cases hi : isOf a "int" with
  | true =>
    rw [hi] at t1
    rw [S_is_integer, T1_is_integer, q_ret (x := bv (!isOf a "bool")) (by rw [q_eand1 t1 rfl]; exact t3) rfl]
    rfl
  | false =>
    rw [hi] at t1
    rw [S_is_integer, T1_is_integer, q_ret (x := bv false) (by rw [q_eand0 t1 rfl]) rfl]
    rfl
/-- a thing that stands in no row -/
def Odd (x : D) : Prop := x = .non ∨ x = .bl true ∨ x = .str "3" ∨ x = .tup [.int 1] ∨ x = .int 1000000001 ∨ x = .int (-1000000001) ∨ x = .tup [.int 1, .int 2]
def chk (x : D) : Bool := match x with
  | .int i => decide (-1000000000 ≤ i) && decide (i ≤ 1000000000)
  | _ => false
theorem within_no {x : D} {a : String} (h : tyN (.d x) = some a) (hn : (isOf a "int" && !isOf a "bool") = false) (lo hi : Int) : F_is_within [.d x, .d (.int lo), .d (.int hi)] M = .ok (.bl false) M := by
  unfold F_is_within
  rw [fnOf_eq]
  show fnEnd (S_is_within [some (.d x), some (.d (.int lo)), some (.d (.int hi))] M) = _
  have t0 := integer_of (M := M) h rfl
  rw [hn] at t0
  have t1 : eCall 1 F_is_integer (aCons (eVar 0) aNil) [some (.d x), some (.d (.int lo)), some (.d (.int hi))] M = .ok (bv false) M := q_call (q_cons1 (e := eVar 0) (x := .d x) (M' := M) rfl) (ys := [.d x]) rfl rfl t0
  rw [S_is_within, T1_is_within, q_ret (x := bv false) (by rw [q_eand0 t1 rfl]) rfl]
  rfl
theorem within_chk {x : D} (h : Odd x ∨ ∃ i, x = .int i) : F_is_within [.d x, .d (.int (-1000000000)), .d (.int 1000000000)] M = .ok (.bl (chk x)) M := by
  rcases h with (rfl | rfl | rfl | rfl | rfl | rfl | rfl) | ⟨i, rfl⟩
  · exact within_no (a := "NoneType") rfl (by decide) _ _
  · exact within_no (a := "bool") rfl (by decide) _ _
  · exact within_no (a := "str") rfl (by decide) _ _
  · exact within_no (a := "tuple") rfl (by decide) _ _
  · exact within_int _ _ _
  · exact within_int _ _ _
  · exact within_no (a := "tuple") rfl (by decide) _ _
  · exact within_int _ _ _
theorem odd_chk {x : D} (h : Odd x) : chk x = false := by
  rcases h with rfl | rfl | rfl | rfl | rfl | rfl | rfl <;> decide
theorem no_tuple {x : D} {a : String} (h : tyN (.d x) = some a) (hn : isOf a "tuple" = false) : F_ends_row [.d x] M = .exc "BadNumber" none M := by
  unfold F_ends_row
  rw [fnOf_eq]
  show fnEnd (S_ends_row (some (.d x) :: List.replicate 8 none) M) = _
  have v0 : eVar 0 (some (.d x) :: List.replicate 8 none) M = .ok (.d x) M := rfl
  have t1 := q_not (truV (isi1 (b := "tuple") v0 (a := a) h (by decide)))
  rw [hn] at t1
  have s1 : T1_ends_row (some (.d x) :: List.replicate 8 none) M = .exc "BadNumber" none (some (.d x) :: List.replicate 8 none) M := by
    rw [T1_ends_row, q_if1 (q_or1 t1)]; rfl
  rw [S_ends_row, q_exc s1]
  rfl
theorem too_long {l : List D} (h : 60 < l.length) : F_ends_row [.d (.tup l)] M = .exc "BadNumber" none M := by
  unfold F_ends_row
  rw [fnOf_eq]
  show fnEnd (S_ends_row (some (.d (.tup l)) :: List.replicate 8 none) M) = _
  generalize hρ : (some (Ev.d (.tup l)) :: List.replicate 8 none : DL.Env) = ρ
  have a0 : At ρ 0 (.d (.tup l)) := by rw [← hρ]; rfl
  have t1 := q_not (truV (isi1 (b := "tuple") (a0.v (M := M)) (a := "tuple") rfl (by decide)))
  rw [show (!isOf "tuple" "tuple") = false by decide] at t1
  have t2 : tCmpE opGt (eB bLen (aCons (eVar 0) aNil)) (eC (.int 60)) ρ M = .ok (decide ((60 : Int) < (l.length : Int))) M := q_cmp ((q_bin (len_at (M := M) a0) (y := .d (.int 60)) rfl).trans rfl)
  rw [decide_eq_true (by omega)] at t2
  have s1 : T1_ends_row ρ M = .exc "BadNumber" none ρ M := by
    rw [T1_ends_row, q_if1 (by rw [q_or0 t1]; exact t2)]; rfl
  rw [S_ends_row, q_exc s1]
  rfl
theorem no_row {l : List D} (h : l.length ≤ 60) (hx : ∀ x ∈ l, Odd x ∨ ∃ i, x = .int i) (ho : ∃ x ∈ l, chk x = false) : F_ends_row [.d (.tup l)] M = .exc "BadNumber" none M := by
  unfold F_ends_row
  rw [fnOf_eq]
  show fnEnd (S_ends_row (some (.d (.tup l)) :: List.replicate 8 none) M) = _
  generalize hρ : (some (Ev.d (.tup l)) :: List.replicate 8 none : DL.Env) = ρ
  have l9 : ρ.length = 9 := by rw [← hρ]; simp
  have a0 : At ρ 0 (.d (.tup l)) := by rw [← hρ]; rfl
  have t1 := q_not (truV (isi1 (b := "tuple") (a0.v (M := M)) (a := "tuple") rfl (by decide)))
  rw [show (!isOf "tuple" "tuple") = false by decide] at t1
  have t2 : tCmpE opGt (eB bLen (aCons (eVar 0) aNil)) (eC (.int 60)) ρ M = .ok (decide ((60 : Int) < (l.length : Int))) M := q_cmp ((q_bin (len_at (M := M) a0) (y := .d (.int 60)) rfl).trans rfl)
  rw [decide_eq_false (by omega)] at t2
  have s1 : T1_ends_row ρ M = .nx ρ M := q_skip (by rw [q_or0 t1]; exact t2)
  have i1 : iSeq true (eVar 0) ρ M = .ok l M := by simp only [iSeq, a0.v, look, bnd, itemsOf]
  have hm : l.length ≤ most := by unfold most; omega
  have lc : fLc (iSeq true (eVar 0)) (.one 8) [8] tYesE (eCall 3 F_is_within (aCons (eVar 8) (aCons (eUn unNeg (eBin opPow (eC (.int 10)) (eC (.int 9)))) (aCons (eBin opPow (eC (.int 10)) (eC (.int 9))) aNil)))) ρ M = .ok (l.map fun x => .bl (chk x)) M := by
    simp only [fLc, i1, bnd, if_pos hm]
    refine lcL_map _ _ fun x hxl => ?_
    have gl : 8 < (wipeE ρ [8]).length := by simp [wipeE, l9]
    have v8 : eVar 8 ((wipeE ρ [8]).set 8 (some (.d x))) M = .ok (.d x) M := (At.eq gl).v
    exact ⟨_, tg1 gl, q_call (n := 3) (q_cons v8 (q_cons (show eUn unNeg (eBin opPow (eC (.int 10)) (eC (.int 9))) _ M = .ok (.d (.int (-1000000000))) M by simp only [eUn, ten9, bnd, unNeg]) (q_cons1 ten9))) (ys := [.d x, .d (.int (-1000000000)), .d (.int 1000000000)]) rfl rfl (within_chk (hx x hxl))⟩
  have tb : ∀ m : List D, toBls (m.map fun x => D.bl (chk x)) = some (m.map chk) := by
    intro m
    induction m with
    | nil => rfl
    | cons x m ih => simp [toBls, ih]
  have t3 : eB bAll (aCons (eF (fLc (iSeq true (eVar 0)) (.one 8) [8] tYesE (eCall 3 F_is_within (aCons (eVar 8) (aCons (eUn unNeg (eBin opPow (eC (.int 10)) (eC (.int 9)))) (aCons (eBin opPow (eC (.int 10)) (eC (.int 9))) aNil)))))) aNil) ρ M = .ok (bv false) M := by
    have e1 : eF (fLc (iSeq true (eVar 0)) (.one 8) [8] tYesE (eCall 3 F_is_within (aCons (eVar 8) (aCons (eUn unNeg (eBin opPow (eC (.int 10)) (eC (.int 9)))) (aCons (eBin opPow (eC (.int 10)) (eC (.int 9))) aNil))))) ρ M = .ok (.d (.lst (l.map fun x => .bl (chk x)))) M := by
      simp only [eF, lc, bnd]
    rw [q_B (q_cons1 e1)]
    simp only [bAll, blsOf, lstOf, Option.bind, tb]
    have : (l.map chk).all id = false := by
      obtain ⟨x, hxl, hc⟩ := ho
      rw [List.all_eq_false]
      exact ⟨false, by rw [← hc]; exact List.mem_map.mpr ⟨x, hxl, rfl⟩, by simp⟩
    rw [this]
  have s2 : T2_ends_row ρ M = .exc "BadNumber" none ρ M := by
    rw [T2_ends_row, q_if1 (q_not (truV t3))]; rfl
  rw [S_ends_row, q_nx s1, q_exc s2]
  rfl
theorem last_line {ρ : DL.Env} : T3_law ρ M = .rt (.bl true) M := by
  have e0 := ends_ok (vs := []) (M := M) (by simp) (by simp)
  have e1 := ends_ok (vs := [7]) (M := M) (by simp) (by simp)
  have e2 := ends_ok (vs := [3, 9, 1, 2]) (M := M) (by simp) (by simp)
  have g0 : (D.tup [.int (gm (vf []) ([] : List Int).length 0), .tup (pd (play (vf []) ([] : List Int).length 0))]) = .tup [.int 0, .tup []] := rfl
  have g1 : (D.tup [.int (gm (vf [7]) ([7] : List Int).length 0), .tup (pd (play (vf [7]) ([7] : List Int).length 0))]) = .tup [.int 7, .tup [.int 0]] := rfl
  have g2 : (D.tup [.int (gm (vf [3, 9, 1, 2]) ([3, 9, 1, 2] : List Int).length 0), .tup (pd (play (vf [3, 9, 1, 2]) ([3, 9, 1, 2] : List Int).length 0))]) = .tup [.int 7, .tup [.int 3, .int 0, .int 1, .int 2]] := rfl
  rw [g0] at e0
  rw [g1] at e1
  rw [g2] at e2
  have c0 : eCall 1 F_ends_row (aCons (eTup aNil) aNil) ρ M = .ok (.d (.tup [.int 0, .tup []])) M := q_call (n := 1) (q_cons1 (x := .d (.tup [])) (M' := M) (by simp [eTup, aNil, bnd, datas, most])) (ys := [.d (.tup [])]) rfl rfl e0
  have c1 : eCall 1 F_ends_row (aCons (eTup (aCons (eC (.int 7)) aNil)) aNil) ρ M = .ok (.d (.tup [.int 7, .tup [.int 0]])) M := q_call (n := 1) (q_cons1 (x := .d (.tup [.int 7])) (M' := M) (by simp [eTup, aCons, eC, aNil, bnd, datas, most])) (ys := [.d (.tup [.int 7])]) rfl rfl e1
  have c2 : eCall 1 F_ends_row (aCons (eTup (aCons (eC (.int 3)) (aCons (eC (.int 9)) (aCons (eC (.int 1)) (aCons (eC (.int 2)) aNil))))) aNil) ρ M = .ok (.d (.tup [.int 7, .tup [.int 3, .int 0, .int 1, .int 2]])) M := q_call (n := 1) (q_cons1 (x := .d (.tup [.int 3, .int 9, .int 1, .int 2])) (M' := M) (by simp [eTup, aCons, eC, aNil, bnd, datas, most])) (ys := [.d (.tup [.int 3, .int 9, .int 1, .int 2])]) rfl rfl e2
  have l1 : eLst (aCons (eCall 1 F_ends_row (aCons (eTup aNil) aNil)) (aCons (eCall 1 F_ends_row (aCons (eTup (aCons (eC (.int 7)) aNil)) aNil)) (aCons (eCall 1 F_ends_row (aCons (eTup (aCons (eC (.int 3)) (aCons (eC (.int 9)) (aCons (eC (.int 1)) (aCons (eC (.int 2)) aNil))))) aNil)) aNil))) ρ M = .ok (.d (.lst [.tup [.int 0, .tup []], .tup [.int 7, .tup [.int 0]], .tup [.int 7, .tup [.int 3, .int 0, .int 1, .int 2]]])) M := by
    have e := q_cons c0 (q_cons2 c1 c2)
    simp [eLst, e, bnd, datas, most]
  have l2 : eLst (aCons (eTup (aCons (eC (.int 0)) (aCons (eTup aNil) aNil))) (aCons (eTup (aCons (eC (.int 7)) (aCons (eTup (aCons (eC (.int 0)) aNil)) aNil))) (aCons (eTup (aCons (eC (.int 7)) (aCons (eTup (aCons (eC (.int 3)) (aCons (eC (.int 0)) (aCons (eC (.int 1)) (aCons (eC (.int 2)) aNil))))) aNil))) aNil))) ρ M = .ok (.d (.lst [.tup [.int 0, .tup []], .tup [.int 7, .tup [.int 0]], .tup [.int 7, .tup [.int 3, .int 0, .int 1, .int 2]]])) M := by
    simp [eLst, eTup, aCons, aNil, eC, bnd, datas, most]
  have is : F__law_is [.d (.lst [.tup [.int 0, .tup []], .tup [.int 7, .tup [.int 0]], .tup [.int 7, .tup [.int 3, .int 0, .int 1, .int 2]]]), .d (.lst [.tup [.int 0, .tup []], .tup [.int 7, .tup [.int 0]], .tup [.int 7, .tup [.int 3, .int 0, .int 1, .int 2]]])] M = .ok (.bl true) M := by
    show R__law_is 4 _ _ = _
    rw [is_eq]
    refine is_lst 3 _ _ M rfl (by simp [most]) fun p hp => ?_
    have e := zip_same hp
    have hm := (List.of_mem_zip (a := p.1) (b := p.2) hp).1
    have pt : ∀ (a : Int) (l : List Nat), l.length ≤ 10 → R_is 3 [.d (.tup [.int a, .tup (pd l)]), .d (.tup [.int a, .tup (pd l)])] M = .ok (.bl true) M := fun a l hl => by
      refine is_tup 2 _ _ M rfl (by simp [most]) fun p hp => ?_
      have : p = (.int a, .int a) ∨ p = (.tup (pd l), .tup (pd l)) := by simpa using hp
      rcases this with rfl | rfl
      · show R_is 2 [.d (.int a), .d (.int a)] M = _
        rw [is_int]; simp
      · show R_is 2 [.d (.tup (pd l)), .d (.tup (pd l))] M = _
        refine is_tup 1 _ _ M rfl (by unfold pd; rw [List.length_map]; unfold most; omega) fun p hp => ?_
        have e := zip_same hp
        have hm : p.1 ∈ pd l := (List.of_mem_zip (a := p.1) (b := p.2) hp).1
        obtain ⟨k, _, hk⟩ := List.mem_map.mp hm
        rw [← e, ← hk, is_int]; simp
    rw [← e]
    rcases List.mem_cons.mp hm with z | hm
    · rw [z]; exact pt 0 [] (by simp)
    · rcases List.mem_cons.mp hm with z | hm
      · rw [z]; exact pt 7 [0] (by simp)
      · rw [List.mem_singleton.mp hm]; exact pt 7 [3, 0, 1, 2] (by simp)
  exact q_ret (q_call (n := 2) (q_cons2 l1 l2) (ys := [.d (.lst [.tup [.int 0, .tup []], .tup [.int 7, .tup [.int 0]], .tup [.int 7, .tup [.int 3, .int 0, .int 1, .int 2]]]), .d (.lst [.tup [.int 0, .tup []], .tup [.int 7, .tup [.int 0]], .tup [.int 7, .tup [.int 3, .int 0, .int 1, .int 2]]])]) rfl rfl is) rfl
end K64

set_option Elab.async false
set_option linter.all false
set_option maxRecDepth 100000
set_option maxHeartbeats 2000000
/-! law k64, plainly: the law. -/
namespace K64
open PySem PySem.Spec PyProof.Rows L2 DL
variable {M : Mem}
theorem Hd.mono {cells : List Int} {B B' : Nat} {M : Mem} (h : Hd cells B M) (hb : B ≤ B') : Hd cells B' M := by
  obtain ⟨p, v, s, c, e, h1, h2, h3, h4, h5, h6⟩ := h.ex
  exact ⟨p, v, s, c, e, h1, h2, h3, h4, h5, by omega⟩
/-- a row that the law may judge -/
def Good (d : D) : Prop := ∃ ws : List Int, d = .tup (ws.map D.int) ∧ ws.length ≤ 60 ∧ ∀ z ∈ ws, -1000000000 ≤ z ∧ z ≤ 1000000000
theorem draw_at {cells : List Int} (hc : ∀ z ∈ cells, 0 ≤ z ∧ Builtin.Int.intBits z ≤ 1048576) {B : Nat} {ρ : DL.Env} {e : Sm Ev} {many : Int} (h : Hd cells B M) (hB : B ≤ 1000000) (a1 : At ρ 1 (.d (.ob 0))) (he : e ρ M = .ok (.d (.int many)) M) (hm : 0 < many) (hm2 : many < 2 ^ 63) :
    ∃ r M', eCall 2 F__law_draw (aCons (eVar 1) (aCons e aNil)) ρ M = .ok (.d (.int r)) M' ∧ 0 ≤ r ∧ r < many ∧ Hd cells (B + 1) M' := by
  have hlog : many.natAbs.log2 < 9000 := log2_small (by omega)
  obtain ⟨r, M', k, r0, r1, h'⟩ := draw_ok hc h hB hm hlog
  exact ⟨r, M', q_call (n := 2) (q_cons2 a1.v he) (ys := [.d (.ob 0), .d (.int many)]) rfl rfl k, r0, r1, h'⟩
theorem any_at {cells : List Int} (hc : ∀ z ∈ cells, 0 ≤ z ∧ Builtin.Int.intBits z ≤ 1048576) {B : Nat} {ρ : DL.Env} {e : Sm Ev} {l : List D} (h : Hd cells B M) (hB : B ≤ 1000000) (a1 : At ρ 1 (.d (.ob 0))) (he : e ρ M = .ok (.d (.lst l)) M) (hl : 0 < l.length) (hl2 : l.length < 1000) :
    ∃ d M', eCall 2 F__law_any (aCons (eVar 1) (aCons e aNil)) ρ M = .ok (.d d) M' ∧ d ∈ l ∧ Hd cells (B + 1) M' := by
  obtain ⟨d, M', k, hd, h'⟩ := any_ok hc h hB hl (by omega)
  exact ⟨d, M', q_call (n := 2) (q_cons2 a1.v he) (ys := [.d (.ob 0), .d (.lst l)]) rfl rfl k, hd, h'⟩
/-- the values that are drawn -/
theorem drawn {cells : List Int} (hc : ∀ z ∈ cells, 0 ≤ z ∧ Builtin.Int.intBits z ≤ 1048576) {B n : Nat} {ρ : DL.Env} {wide : Int} (h : Hd cells B M) (hB : B + n ≤ 1000000) (l10 : ρ.length = 10) (a1 : At ρ 1 (.d (.ob 0))) (a3 : At ρ 3 (.d (.int wide))) (hw : 0 < wide) (hw2 : wide ≤ 1000000000) :
    ∃ (zs : List Int) (M' : Mem), lcL (.one 9) [9] tYesE (eBin opSub (eCall 2 F__law_draw (aCons (eVar 1) (aCons (eBin opAdd (eBin opMulA (eC (.int 2)) (eVar 3)) (eC (.int 1))) aNil))) (eVar 3)) ρ [] (rangeL 0 n 1) M = .ok (zs.map D.int) M' ∧ zs.length = n ∧ (∀ z ∈ zs, -wide ≤ z ∧ z ≤ wide) ∧ Hd cells (B + n) M' := by
  obtain ⟨l, M', e, zs, e1, hz, hb, h'⟩ := lcL_inv (g := .one 9) (vs := [9]) (t := tYesE) (f := eBin opSub (eCall 2 F__law_draw (aCons (eVar 1) (aCons (eBin opAdd (eBin opMulA (eC (.int 2)) (eVar 3)) (eC (.int 1))) aNil))) (eVar 3)) (ρ := ρ)
    (fun i acc M' => ∃ zs : List Int, acc = zs.map D.int ∧ zs.length = i ∧ (∀ z ∈ zs, -wide ≤ z ∧ z ≤ wide) ∧ Hd cells (B + i) M') (rangeL 0 n 1) 0 [] M
    (fun i d acc M1 hd hi => by
      obtain ⟨zs, e1, hz, hb, h'⟩ := hi
      obtain ⟨hi, _⟩ := rangeL_get hd
      rw [Nat.zero_add] at hz h' ⊢
      have gl : 9 < (wipeE ρ [9]).length := by simp [wipeE, l10]
      have b1 : At ((wipeE ρ [9]).set 9 (some (.d d))) 1 (.d (.ob 0)) := by
        refine At.ne ?_ (by decide)
        show At (ρ.set 9 none) 1 _
        exact a1.ne (by decide)
      have b3 : At ((wipeE ρ [9]).set 9 (some (.d d))) 3 (.d (.int wide)) := by
        refine At.ne ?_ (by decide)
        show At (ρ.set 9 none) 3 _
        exact a3.ne (by decide)
      have cm : cMul 2 wide := cm64 (by omega) (by omega) (by omega) (by omega)
      have w1 : eBin opMulA (eC (.int 2)) (eVar 3) ((wipeE ρ [9]).set 9 (some (.d d))) M1 = .ok (.d (.int (2 * wide))) M1 := by
        refine (q_bin (x := .d (.int 2)) rfl b3.v).trans ?_
        simp only [look, opMulA, opMul, if_pos cm]
      have w2 : eBin opAdd (eBin opMulA (eC (.int 2)) (eVar 3)) (eC (.int 1)) ((wipeE ρ [9]).set 9 (some (.d d))) M1 = .ok (.d (.int (2 * wide + 1))) M1 := (q_bin w1 (y := .d (.int 1)) rfl).trans rfl
      obtain ⟨r, M2, k, r0, r1, h2⟩ := draw_at hc h' (by omega) b1 w2 (by omega) (by omega)
      refine ⟨_, true, M1, tg1 gl, rfl, .inl ⟨rfl, .int (r - wide), M2, (q_bin k b3.v).trans rfl, zs ++ [r - wide], by rw [e1, List.map_append]; rfl, by rw [List.length_append, hz]; rfl, fun z hz => ?_, h2⟩⟩
      rcases List.mem_append.mp hz with y | y
      · exact hb z y
      · rw [List.mem_singleton.mp y]; omega) ⟨[], rfl, rfl, by simp, h⟩
  rw [rangeL_len, Nat.zero_add] at hz h'
  exact ⟨zs, M', by rw [e, e1], hz, hb, h'⟩
theorem srt_mem {ns : List Int} {z : Int} : z ∈ srt ns ↔ z ∈ ns := by unfold srt; exact (List.mergeSort_perm ns _).mem_iff
theorem srt_len {ns : List Int} : (srt ns).length = ns.length := by unfold srt; exact List.length_mergeSort ns
theorem cut1 {l : List D} : DL.cutD l none (some 1) = l.take 1 := by
  unfold DL.cutD
  have := HT.sIx_nat l.length l.length 1
  rw [show ((1 : Nat) : Int) = 1 from rfl] at this
  rw [HT.sIx_none, this, List.drop_zero, Nat.sub_zero]
  rcases Nat.lt_or_ge l.length 1 with h | h
  · have : l = [] := List.eq_nil_of_length_eq_zero (by omega)
    subst this; rfl
  · rw [show min 1 l.length = 1 by omega]
/-- the choice among the row's forms -/
theorem forms {ρ : DL.Env} {zs : List Int} (a4 : At ρ 4 (.d (.tup (zs.map D.int)))) (hl : zs.length ≤ 60) (hb : ∀ z ∈ zs, -1000000000 ≤ z ∧ z ≤ 1000000000) :
    ∃ l, eLst (aCons (eVar 4) (aCons (eVar 4) (aCons (eB bTup (aCons (eB bSorted (aCons (eVar 4) aNil)) aNil)) (aCons (eBin opMulA (eSl (eVar 4) oNone (oSome (eC (.int 1)))) (eB bLen (aCons (eVar 4) aNil))) aNil)))) ρ M = .ok (.d (.lst l)) M ∧ 0 < l.length ∧ l.length < 1000 ∧ ∀ d ∈ l, Good d := by
  have g0 : Good (.tup (zs.map D.int)) := ⟨zs, rfl, hl, hb⟩
  have s1 : eB bSorted (aCons (eVar 4) aNil) ρ M = .ok (.d (.lst ((srt zs).map D.int))) M := by
    rw [q_B (q_cons1 a4.v)]
    simp only [look, bSorted, toInts_ints]
  have s2 : eB bTup (aCons (eB bSorted (aCons (eVar 4) aNil)) aNil) ρ M = .ok (.d (.tup ((srt zs).map D.int))) M := by
    rw [q_B (q_cons1 s1)]
    simp only [bTup, lstOf]
  have g2 : Good (.tup ((srt zs).map D.int)) := ⟨srt zs, rfl, by rw [srt_len]; exact hl, fun z hz => hb z (srt_mem.mp hz)⟩
  have s3 : ∃ d, eBin opMulA (eSl (eVar 4) oNone (oSome (eC (.int 1)))) (eB bLen (aCons (eVar 4) aNil)) ρ M = .ok (.d d) M ∧ Good d := by
    have o2 : oNone ρ M = .ok none M := rfl
    have o : oSome (eC (.int 1)) ρ M = .ok (some 1) M := rfl
    have c1 : eSl (eVar 4) oNone (oSome (eC (.int 1))) ρ M = .ok (.d (.tup ((zs.map D.int).take 1))) M := by
      simp only [eSl, a4.v, look, bnd, o, o2, opSl, cut1]
    have c2 := len_at (M := M) a4
    rw [List.length_map] at c2
    cases hz : zs with
    | nil =>
      subst hz
      exact ⟨.tup [], (q_bin c1 c2).trans rfl, [], rfl, by simp, by simp⟩
    | cons z r =>
      have et : (zs.map D.int).take 1 = [.int z] := by rw [hz]; rfl
      rw [et] at c1
      have hlen : zs.length = r.length + 1 := by rw [hz]; rfl
      by_cases h1 : r.length = 0
      · refine ⟨.tup [.int z], (q_bin c1 c2).trans ?_, [z], rfl, by simp, fun y hy => by rw [List.mem_singleton.mp hy]; exact hb z (by rw [hz]; exact List.mem_cons_self)⟩
        have hk : ([D.int z] = [] ∨ (zs.length : Int) = 1) ∧ -1000000 ≤ (zs.length : Int) ∧ (zs.length : Int) ≤ 1000000 := ⟨.inr (by omega), by omega, by omega⟩
        simp only [opMulA, opMulT, if_pos hk]
      · refine ⟨.tup ((List.replicate zs.length z).map D.int), (q_bin c1 c2).trans ?_, List.replicate zs.length z, rfl, by rw [List.length_replicate]; exact hl, fun y hy => by rw [(List.mem_replicate.mp hy).2]; exact hb z (by rw [hz]; exact List.mem_cons_self)⟩
        have hk : ¬ (([D.int z] = [] ∨ (zs.length : Int) = 1) ∧ -1000000 ≤ (zs.length : Int) ∧ (zs.length : Int) ≤ 1000000) := fun ⟨h, _⟩ => h.elim (fun q => nomatch q) (fun q => by omega)
        have hk2 : [D.int z] ≠ [] ∧ 2 ≤ (zs.length : Int) ∧ (zs.length : Int) ≤ 1000 ∧ [D.int z].length ≤ 1000 := ⟨(fun q => nomatch q), by omega, by omega, by simp⟩
        simp only [opMulA, opMulT, if_neg hk, if_pos hk2]
        simp
  obtain ⟨d3, s3, g3⟩ := s3
  refine ⟨[.tup (zs.map D.int), .tup (zs.map D.int), .tup ((srt zs).map D.int), d3], ?_, by simp, by simp, fun d hd => ?_⟩
  · have e := q_cons a4.v (q_cons a4.v (q_cons2 s2 s3))
    simp [eLst, e, bnd, look, datas, most]
  · simp at hd
    rcases hd with rfl | rfl | rfl
    · exact g0
    · exact g2
    · exact g3
/-- the odd things -/
theorem odds {ρ : DL.Env} : ∃ l, eLst (aCons (eC .non) (aCons (eC (.bl true)) (aCons (eC (.str "3")) (aCons (eTup (aCons (eC (.int 1)) aNil)) (aCons (eBin opAdd (eBin opPow (eC (.int 10)) (eC (.int 9))) (eC (.int 1))) (aCons (eBin opSub (eUn unNeg (eBin opPow (eC (.int 10)) (eC (.int 9)))) (eC (.int 1))) (aCons (eTup (aCons (eC (.int 1)) (aCons (eC (.int 2)) aNil))) aNil))))))) ρ M = .ok (.d (.lst l)) M ∧ 0 < l.length ∧ l.length < 1000 ∧ ∀ d ∈ l, Odd d := by
  have t1 : eTup (aCons (eC (.int 1)) aNil) ρ M = .ok (.d (.tup [.int 1])) M := by simp [eTup, aCons, eC, aNil, bnd, datas, most]
  have t2 : eTup (aCons (eC (.int 1)) (aCons (eC (.int 2)) aNil)) ρ M = .ok (.d (.tup [.int 1, .int 2])) M := by simp [eTup, aCons, eC, aNil, bnd, datas, most]
  have t3 : eBin opAdd (eBin opPow (eC (.int 10)) (eC (.int 9))) (eC (.int 1)) ρ M = .ok (.d (.int 1000000001)) M := (q_bin ten9 (y := .d (.int 1)) rfl).trans rfl
  have t4 : eBin opSub (eUn unNeg (eBin opPow (eC (.int 10)) (eC (.int 9)))) (eC (.int 1)) ρ M = .ok (.d (.int (-1000000001))) M := (q_bin (show eUn unNeg (eBin opPow (eC (.int 10)) (eC (.int 9))) ρ M = .ok (.d (.int (-1000000000))) M by simp only [eUn, ten9, bnd, unNeg]) (y := .d (.int 1)) rfl).trans rfl
  refine ⟨[.non, .bl true, .str "3", .tup [.int 1], .int 1000000001, .int (-1000000001), .tup [.int 1, .int 2]], ?_, by simp, by simp, fun d hd => ?_⟩
  · have e := q_cons (e := eC .non) (ρ := ρ) (M := M) (x := .d .non) (M' := M) rfl (q_cons (e := eC (.bl true)) (x := .d (.bl true)) (M' := M) rfl (q_cons (e := eC (.str "3")) (x := .d (.str "3")) (M' := M) rfl (q_cons t1 (q_cons t3 (q_cons2 t4 t2)))))
    simp [eLst, e, bnd, datas, most]
  · simp at hd
    exact hd
end K64

set_option Elab.async false
set_option linter.all false
set_option maxRecDepth 100000
set_option maxHeartbeats 2000000
/-! law k64, plainly: the law, whole. -/
namespace K64
open PySem PySem.Spec PyProof.Rows L2 DL
variable {M : Mem}
def Bad (d : D) : Prop := ∀ M, F_ends_row [.d d] M = .exc "BadNumber" none M
theorem cutA {l : List D} {p : Nat} (h : p ≤ l.length) : DL.cutD l none (some (p : Int)) = l.take p := by
  unfold DL.cutD
  rw [HT.sIx_none, HT.sIx_nat, List.drop_zero, Nat.sub_zero, show min p l.length = p by omega]
theorem cutB {l : List D} {p : Nat} (h : p ≤ l.length) : DL.cutD l (some (p : Int)) none = l.drop p := by
  unfold DL.cutD
  rw [HT.sIx_none, HT.sIx_nat, show min p l.length = p by omega]
  exact List.take_of_length_le (by simp)
/-- the things that no row is -/
theorem bads {ρ : DL.Env} {ws : List Int} {p : Nat} {odd : D} (a4 : At ρ 4 (.d (.tup (ws.map D.int)))) (a5 : At ρ 5 (.d (.int (p : Int)))) (a6 : At ρ 6 (.d odd)) (hl : ws.length ≤ 60) (hp : p ≤ ws.length) (ho : Odd odd) :
    ∃ l, eLst (aCons (eBin opAdd (eBin opAdd (eSl (eVar 4) oNone (oSome (eVar 5))) (eTup (aCons (eVar 6) aNil))) (eSl (eVar 4) (oSome (eVar 5)) oNone)) (aCons (eB bLst (aCons (eVar 4) aNil)) (aCons (eC .non) (aCons (eC (.int 0)) (aCons eDk (aCons (eC (.str "12")) (aCons (eBin opMulA (eTup (aCons (eC (.int 0)) aNil)) (eC (.int 61))) aNil))))))) ρ M = .ok (.d (.lst l)) M ∧ 0 < l.length ∧ l.length < 1000 ∧ ∀ d ∈ l, Bad d := by
  have ln : (ws.map D.int).length = ws.length := List.length_map ..
  have o : oSome (eVar 5) ρ M = .ok (some (p : Int)) M := by simp only [oSome, a5.v, look, bnd]
  have o2 : oNone ρ M = .ok none M := rfl
  have c1 : eSl (eVar 4) oNone (oSome (eVar 5)) ρ M = .ok (.d (.tup ((ws.map D.int).take p))) M := by
    simp only [eSl, a4.v, look, bnd, o, o2, opSl, cutA (show p ≤ (ws.map D.int).length by omega)]
  have c2 : eSl (eVar 4) (oSome (eVar 5)) oNone ρ M = .ok (.d (.tup ((ws.map D.int).drop p))) M := by
    simp only [eSl, a4.v, look, bnd, o, o2, opSl, cutB (show p ≤ (ws.map D.int).length by omega)]
  have lk : look (.d odd) = .d odd := rfl
  have c3 : eTup (aCons (eVar 6) aNil) ρ M = .ok (.d (.tup [odd])) M := by
    have e := q_cons1 (a6.v (M := M))
    rw [lk] at e
    simp only [eTup, e, bnd, datas]
    simp [most]
  have c4 : eBin opAdd (eSl (eVar 4) oNone (oSome (eVar 5))) (eTup (aCons (eVar 6) aNil)) ρ M = .ok (.d (.tup ((ws.map D.int).take p ++ [odd]))) M := by
    refine (q_bin c1 c3).trans ?_
    have hm : ((ws.map D.int).take p).length + [odd].length ≤ most := by rw [List.length_take, ln]; simp [most]; omega
    simp only [opAdd, opAddT, if_pos hm]
  have c5 : eBin opAdd (eBin opAdd (eSl (eVar 4) oNone (oSome (eVar 5))) (eTup (aCons (eVar 6) aNil))) (eSl (eVar 4) (oSome (eVar 5)) oNone) ρ M = .ok (.d (.tup ((ws.map D.int).take p ++ [odd] ++ (ws.map D.int).drop p))) M := by
    refine (q_bin c4 c2).trans ?_
    have hm : ((ws.map D.int).take p ++ [odd]).length + ((ws.map D.int).drop p).length ≤ most := by rw [List.length_append, List.length_take, List.length_drop, ln]; simp [most]; omega
    simp only [opAdd, opAddT, if_pos hm]
  have c6 : eB bLst (aCons (eVar 4) aNil) ρ M = .ok (.d (.lst (ws.map D.int))) M := by
    rw [q_B (q_cons1 a4.v)]
    simp [bLst, look, seqOf]
  have c7 : eBin opMulA (eTup (aCons (eC (.int 0)) aNil)) (eC (.int 61)) ρ M = .ok (.d (.tup (List.replicate 61 (.int 0)))) M := by
    have t1 : eTup (aCons (eC (.int 0)) aNil) ρ M = .ok (.d (.tup [.int 0])) M := by simp [eTup, aCons, eC, aNil, bnd, datas, most]
    refine (q_bin t1 (y := .d (.int 61)) rfl).trans ?_
    have hk : ¬ (([D.int 0] = [] ∨ (61 : Int) = 1) ∧ -1000000 ≤ (61 : Int) ∧ (61 : Int) ≤ 1000000) := fun ⟨h, _⟩ => h.elim (fun q => nomatch q) (fun q => by omega)
    have hk2 : [D.int 0] ≠ [] ∧ 2 ≤ (61 : Int) ∧ (61 : Int) ≤ 1000 ∧ [D.int 0].length ≤ 1000 := ⟨(fun q => nomatch q), by omega, by omega, by simp⟩
    simp only [opMulA, opMulT, if_neg hk, if_pos hk2]
    rfl
  refine ⟨[.tup ((ws.map D.int).take p ++ [odd] ++ (ws.map D.int).drop p), .lst (ws.map D.int), .non, .int 0, .dK [] [], .str "12", .tup (List.replicate 61 (.int 0))], ?_, by simp, by simp, fun d hd => ?_⟩
  · have e := q_cons c5 (q_cons c6 (q_cons (e := eC .non) (x := .d .non) (M' := M) rfl (q_cons (e := eC (.int 0)) (x := .d (.int 0)) (M' := M) rfl (q_cons (e := eDk) (x := .d (.dK [] [])) (M' := M) rfl (q_cons2 (e := eC (.str "12")) (x := .d (.str "12")) (M' := M) rfl c7)))))
    simp [eLst, e, bnd, datas, most]
  · simp only [List.mem_cons, List.not_mem_nil, or_false] at hd
    rcases hd with rfl | rfl | rfl | rfl | rfl | rfl | rfl
    · intro M
      by_cases h61 : 60 < ((ws.map D.int).take p ++ [odd] ++ (ws.map D.int).drop p).length
      · exact too_long h61
      · refine no_row (by omega) (fun x hx => ?_) ⟨odd, by simp, odd_chk ho⟩
        have whole1 : ∀ x ∈ ws.map D.int, ∃ i, x = .int i := fun x hx => by
          obtain ⟨i, _, e⟩ := List.mem_map.mp hx
          exact ⟨i, e.symm⟩
        rcases List.mem_append.mp hx with y | y
        · rcases List.mem_append.mp y with y | y
          · exact .inr (whole1 x (List.mem_of_mem_take y))
          · rw [List.mem_singleton.mp y]; exact .inl ho
        · exact .inr (whole1 x (List.mem_of_mem_drop y))
    · exact fun M => no_tuple (a := "list") rfl (by decide)
    · exact fun M => no_tuple (a := "NoneType") rfl (by decide)
    · exact fun M => no_tuple (a := "int") rfl (by decide)
    · exact fun M => no_tuple (a := "dict") rfl (by decide)
    · exact fun M => no_tuple (a := "str") rfl (by decide)
    · exact fun M => too_long (by simp)
/-- one turn of the law -/
theorem turn_law {cells : List Int} (hc : ∀ z ∈ cells, 0 ≤ z ∧ Builtin.Int.intBits z ≤ 1048576) {B m : Nat} {ρ : DL.Env} (h : Hd cells B M) (hB : B + 100 ≤ 1000000) (l10 : ρ.length = 10) (a1 : At ρ 1 (.d (.ob 0))) (a2 : At ρ 2 (.d (.int (m : Int)))) (hm : m ≤ 60) :
    ∃ ρ' M', B1_law ρ M = .nx ρ' M' ∧ ρ'.length = 10 ∧ At ρ' 1 (.d (.ob 0)) ∧ Hd cells (B + 100) M' := by
  -- wide
  have w0 : eLst (aCons (eC (.int 2)) (aCons (eC (.int 10)) (aCons (eBin opPow (eC (.int 10)) (eC (.int 9))) aNil))) ρ M = .ok (.d (.lst [.int 2, .int 10, .int 1000000000])) M := by
    have e := q_cons (e := eC (.int 2)) (ρ := ρ) (x := .d (.int 2)) (M' := M) rfl (q_cons2 (e := eC (.int 10)) (x := .d (.int 10)) (M' := M) rfl ten9)
    simp [eLst, e, bnd, datas, most]
  obtain ⟨d1, M1, k1, m1, h1⟩ := any_at hc h (by omega) a1 w0 (by simp) (by simp)
  obtain ⟨wide, rfl, hw, hw2⟩ : ∃ wide : Int, d1 = .int wide ∧ 0 < wide ∧ wide ≤ 1000000000 := by
    simp at m1
    rcases m1 with rfl | rfl | rfl
    · exact ⟨2, rfl, by omega, by omega⟩
    · exact ⟨10, rfl, by omega, by omega⟩
    · exact ⟨1000000000, rfl, by omega, by omega⟩
  have s1 := q_set (i := 3) k1 rfl (by rw [l10]; decide)
  generalize e1 : ρ.set 3 (some (.d (.int wide))) = ρ1 at s1
  have b : ρ1.length = 10 ∧ At ρ1 1 (.d (.ob 0)) ∧ At ρ1 2 (.d (.int (m : Int))) ∧ At ρ1 3 (.d (.int wide)) := by
    rw [← e1]
    exact ⟨by rw [List.length_set]; exact l10, a1.ne (by decide), a2.ne (by decide), At.eq (by rw [l10]; decide)⟩
  obtain ⟨b10, b1, b2, b3⟩ := b
  -- values
  have v0 : eBin opAdd (eVar 2) (eC (.int 1)) ρ1 M1 = .ok (.d (.int ((m : Int) + 1))) M1 := (q_bin b2.v (y := .d (.int 1)) rfl).trans rfl
  obtain ⟨r, M2, k2, r0, r1, h2⟩ := draw_at hc h1 (by omega) b1 v0 (by omega) (by omega)
  obtain ⟨n, rfl⟩ : ∃ n : Nat, r = (n : Int) := ⟨r.toNat, by omega⟩
  have i2 := q_rng1 (n := n) (by omega) k2
  obtain ⟨zs, M3, k3, hz, hzb, h3⟩ := drawn hc (n := n) h2 (by omega) b10 b1 b3 hw hw2
  have nm : (rangeL 0 n 1).length ≤ most := by rw [rangeL_len]; unfold most; omega
  have f1 : eB bTup (aCons (eF (fLc (iO rng1 (aCons (eCall 2 F__law_draw (aCons (eVar 1) (aCons (eBin opAdd (eVar 2) (eC (.int 1))) aNil))) aNil)) (.one 9) [9] tYesE (eBin opSub (eCall 2 F__law_draw (aCons (eVar 1) (aCons (eBin opAdd (eBin opMulA (eC (.int 2)) (eVar 3)) (eC (.int 1))) aNil))) (eVar 3)))) aNil) ρ1 M1 = .ok (.d (.tup (zs.map D.int))) M3 := by
    have x1 : eF (fLc (iO rng1 (aCons (eCall 2 F__law_draw (aCons (eVar 1) (aCons (eBin opAdd (eVar 2) (eC (.int 1))) aNil))) aNil)) (.one 9) [9] tYesE (eBin opSub (eCall 2 F__law_draw (aCons (eVar 1) (aCons (eBin opAdd (eBin opMulA (eC (.int 2)) (eVar 3)) (eC (.int 1))) aNil))) (eVar 3))) ρ1 M1 = .ok (.d (.lst (zs.map D.int))) M3 := by
      simp only [eF, fLc, i2, bnd, if_pos nm, k3]
    rw [q_B (q_cons1 x1)]
    simp only [bTup, lstOf]
  have s2 := q_set (i := 4) f1 rfl (by rw [b10]; decide)
  generalize e2 : ρ1.set 4 (some (.d (.tup (zs.map D.int)))) = ρ2 at s2
  have c : ρ2.length = 10 ∧ At ρ2 1 (.d (.ob 0)) ∧ At ρ2 4 (.d (.tup (zs.map D.int))) := by
    rw [← e2]
    exact ⟨by rw [List.length_set]; exact b10, b1.ne (by decide), At.eq (by rw [b10]; decide)⟩
  obtain ⟨c10, c1, c4⟩ := c
  -- one of its forms
  obtain ⟨l, g0, gl1, gl2, gg⟩ := forms (M := M3) c4 (by omega) (fun z hz => by have := hzb z hz; omega)
  obtain ⟨d2, M4, k4, m4, h4⟩ := any_at hc h3 (by omega) c1 g0 gl1 gl2
  obtain ⟨ws, rfl, hwl, hwb⟩ := gg d2 m4
  have s3 := q_set (i := 4) k4 rfl (by rw [c10]; decide)
  generalize e3 : ρ2.set 4 (some (.d (.tup (ws.map D.int)))) = ρ3 at s3
  have f : ρ3.length = 10 ∧ At ρ3 1 (.d (.ob 0)) ∧ At ρ3 4 (.d (.tup (ws.map D.int))) := by
    rw [← e3]
    exact ⟨by rw [List.length_set]; exact c10, c1.ne (by decide), At.eq (by rw [c10]; decide)⟩
  obtain ⟨f10, f1', f4⟩ := f
  -- it is right
  have s4 := q_skip (f := sRet (eC (.bl false))) (q_not (truV (q_call (n := 1) (q_cons1 f4.v) (ys := [.d (.tup (ws.map D.int))]) rfl rfl (row_right (M := M4) hwl hwb))))
  -- at
  have ln := len_at (M := M4) f4
  rw [List.length_map] at ln
  have v5 : eBin opAdd (eB bLen (aCons (eVar 4) aNil)) (eC (.int 1)) ρ3 M4 = .ok (.d (.int ((ws.length : Int) + 1))) M4 := (q_bin ln (y := .d (.int 1)) rfl).trans rfl
  obtain ⟨r5, M5, k5, r50, r51, h5⟩ := draw_at hc h4 (by omega) f1' v5 (by omega) (by omega)
  obtain ⟨p, rfl⟩ : ∃ p : Nat, r5 = (p : Int) := ⟨r5.toNat, by omega⟩
  have s5 := q_set (i := 5) k5 rfl (by rw [f10]; decide)
  generalize e5 : ρ3.set 5 (some (.d (.int (p : Int)))) = ρ5 at s5
  have g : ρ5.length = 10 ∧ At ρ5 1 (.d (.ob 0)) ∧ At ρ5 4 (.d (.tup (ws.map D.int))) ∧ At ρ5 5 (.d (.int (p : Int))) := by
    rw [← e5]
    exact ⟨by rw [List.length_set]; exact f10, f1'.ne (by decide), f4.ne (by decide), At.eq (by rw [f10]; decide)⟩
  obtain ⟨g10, g1, g4, g5⟩ := g
  -- odd
  obtain ⟨lo, o0, ol1, ol2, oo⟩ := odds (ρ := ρ5) (M := M5)
  obtain ⟨odd, M6, k6, m6, h6⟩ := any_at hc h5 (by omega) g1 o0 ol1 ol2
  have s6 := q_set (i := 6) k6 (y := .d odd) rfl (by rw [g10]; decide)
  generalize e6 : ρ5.set 6 (some (.d odd)) = ρ6 at s6
  have j : ρ6.length = 10 ∧ At ρ6 1 (.d (.ob 0)) ∧ At ρ6 4 (.d (.tup (ws.map D.int))) ∧ At ρ6 5 (.d (.int (p : Int))) ∧ At ρ6 6 (.d odd) := by
    rw [← e6]
    exact ⟨by rw [List.length_set]; exact g10, g1.ne (by decide), g4.ne (by decide), g5.ne (by decide), At.eq (by rw [g10]; decide)⟩
  obtain ⟨j10, j1, j4, j5, j6⟩ := j
  -- bad
  obtain ⟨lb, q0, ql1, ql2, qq⟩ := bads (M := M6) j4 j5 j6 hwl (by omega) (oo odd m6)
  have s7 := q_set (i := 7) q0 rfl (by rw [j10]; decide)
  generalize e7 : ρ6.set 7 (some (.d (.lst lb))) = ρ7 at s7
  have u : ρ7.length = 10 ∧ At ρ7 1 (.d (.ob 0)) ∧ At ρ7 7 (.d (.lst lb)) := by
    rw [← e7]
    exact ⟨by rw [List.length_set]; exact j10, j1.ne (by decide), At.eq (by rw [j10]; decide)⟩
  obtain ⟨u10, u1, u7⟩ := u
  -- thing
  obtain ⟨th, M8, k8, m8, h8⟩ := any_at hc h6 (by omega) u1 (u7.v (M := M6)) ql1 ql2
  have s8 := q_set (i := 8) k8 (y := .d th) rfl (by rw [u10]; decide)
  generalize e8 : ρ7.set 8 (some (.d th)) = ρ8 at s8
  have x : ρ8.length = 10 ∧ At ρ8 1 (.d (.ob 0)) ∧ At ρ8 8 (.d th) := by
    rw [← e8]
    exact ⟨by rw [List.length_set]; exact u10, u1.ne (by decide), At.eq (by rw [u10]; decide)⟩
  obtain ⟨x10, x1, x8⟩ := x
  have rz : eRaised tbl (eCall 1 F_ends_row (aCons (eVar 8) aNil)) ρ8 M8 = .ok (bv true) M8 := by
    have k : eCall 1 F_ends_row (aCons (eVar 8) aNil) ρ8 M8 = .exc "BadNumber" none M8 := by
      have e := q_cons1 (x8.v (M := M8))
      have lk : look (.d th) = .d th := rfl
      rw [lk] at e
      have pl : passL [.d th] = some [.d th] := rfl
      have hn : [Ev.d th].length = 1 := rfl
      simp only [eCall, e, bnd, pl, if_pos hn, qq th m8 M8]
    have tb : tbl "BadNumber" = some true := by unfold tbl; rw [if_pos rfl]
    simp only [eRaised, k, tb]
  have s9 := q_skip (f := sRet (eC (.bl false))) (q_not (truV rz))
  refine ⟨ρ8, M8, (q_nx s1).trans ((q_nx s2).trans ((q_nx s3).trans ((q_nx s4).trans ((q_nx s5).trans ((q_nx s6).trans ((q_nx s7).trans ((q_nx s8).trans s9))))))), x10, x1, Hd.mono h8 (by omega)⟩
theorem plain_law (ns : List Int) (h : ns.length ≤ 63) (hb : ∀ z ∈ ns, Builtin.Int.intBits z ≤ 1048576) : ∃ (cells : List Int) (k : Int), (∀ d, (d = .sc ns ∨ d = .lst (ns.map D.int)) → S_law1 (some (.d d) :: List.replicate 9 none) [] = .ok (.d (.lst [.lst (cells.map D.int), .int 0, .int 0, .int k, .int 0])) []) ∧
      ∃ M', S_law (none :: some (.d (.ob 0)) :: List.replicate 8 none) [.lst [.ob 1, .int 0, .int 0, .int k, .int 0], .lst (cells.map D.int)] = .rt (.bl true) M' := by
  refine ⟨ns.map fun z => (z.natAbs : Int), 47 + 7 * (ns.length : Int), fun d hd => ?_, ?_⟩
  · have e := hand_ok ns h d hd
    have v : eVar 0 (some (.d d) :: List.replicate 9 none) [] = .ok (look (.d d)) [] := rfl
    have lk : look (.d d) = .d d := rfl
    rw [lk] at v
    exact q_call (n := 1) (q_cons1 v) (ys := [.d d]) rfl rfl e
  · have hc : ∀ z ∈ ns.map fun z => (z.natAbs : Int), 0 ≤ z ∧ Builtin.Int.intBits z ≤ 1048576 := fun z hz => by
      obtain ⟨y, hy, rfl⟩ := List.mem_map.mp hz
      exact ⟨by omega, bits_abs (hb y hy)⟩
    have h0 : Hd (ns.map fun z => (z.natAbs : Int)) 0 [.lst [.ob 1, .int 0, .int 0, .int (47 + 7 * (ns.length : Int)), .int 0], .lst ((ns.map fun z => (z.natAbs : Int)).map D.int)] := ⟨0, 0, _, 0, rfl, by omega, by omega, by omega, by omega, by omega, by omega⟩
    generalize [O.lst [.ob 1, .int 0, .int 0, .int (47 + 7 * (ns.length : Int)), .int 0], .lst ((ns.map fun z => (z.natAbs : Int)).map D.int)] = M0 at h0
    have it : iSeq false (eTup (aCons (eC (.int 4)) (aCons (eC (.int 9)) (aCons (eC (.int 60)) (aCons (eC (.int 60)) aNil))))) (none :: some (.d (.ob 0)) :: List.replicate 8 none) M0 = .ok [.int 4, .int 9, .int 60, .int 60] M0 := by
      simp [iSeq, eTup, aCons, aNil, eC, bnd, datas, most, itemsOf]
    obtain ⟨ρ', M', e, l10, a1, h4⟩ := forL_inv (g := .one 2) (f := B1_law) (fun i ρ M' => ρ.length = 10 ∧ At ρ 1 (.d (.ob 0)) ∧ Hd (ns.map fun z => (z.natAbs : Int)) (100 * i) M') [.int 4, .int 9, .int 60, .int 60] 0 (none :: some (.d (.ob 0)) :: List.replicate 8 none) M0
      (fun i d ρ M1 hd hi => by
        obtain ⟨l10, a1, h1⟩ := hi
        rw [Nat.zero_add] at h1 ⊢
        have hi4 : i < 4 := (List.getElem?_eq_some_iff.mp hd).1
        have hdm : ∃ m : Nat, d = .int (m : Int) ∧ m ≤ 60 := by
          have := List.mem_of_getElem? hd
          simp at this
          rcases this with rfl | rfl | rfl
          · exact ⟨4, rfl, by omega⟩
          · exact ⟨9, rfl, by omega⟩
          · exact ⟨60, rfl, by omega⟩
        obtain ⟨m, rfl, hm⟩ := hdm
        have gl : 2 < ρ.length := by rw [l10]; decide
        obtain ⟨ρ', M2, k1, k2, k3, k4⟩ := turn_law hc (ρ := ρ.set 2 (some (.d (.int (m : Int))))) h1 (by omega) (by rw [List.length_set]; exact l10) (a1.ne (by decide)) (At.eq gl) hm
        exact ⟨_, ρ', M2, tg1 gl, k1, k2, k3, by rw [show 100 * (i + 1) = 100 * i + 100 by omega]; exact k4⟩) ⟨by simp, rfl, h0⟩
    refine ⟨M', ?_⟩
    have s2 : T2_law (none :: some (.d (.ob 0)) :: List.replicate 8 none) M0 = .nx ρ' M' := q_for it e
    rw [S_law, q_nx s2, last_line]
end K64

set_option Elab.async false
set_option linter.all false
set_option maxRecDepth 100000
set_option maxHeartbeats 0
/-! law k64: the head, the end. -/
namespace K64
open PySem PySem.Spec PyProof.Rows L2 DL
def dd (x : Str) (i : Nat) : He.DefD := ⟨(x, none), x, x, defArgs (top i), defBody (top i), defScope (top i), [], []⟩
def fn : List He.DefD := [dd "is_integer" 1, dd "is_within" 2, dd "ends_row" 7, dd "_law_hand" 9, dd "_law_draw" 10, dd "_law_any" 11, dd "_law_is" 12, dd "_law_more" 13, dd "_law_play" 14, dd "_law_by_play" 15, dd "_law_row_right" 16, dd "_law_raised" 17, dd "law" 18]
def fa : List He.Fa := [.exc "BadNumber", .glo "is_integer", .glo "is_within", .glo "ends_row", .glo "_law_hand", .glo "_law_draw", .glo "_law_any", .glo "_law_is", .glo "_law_more", .glo "_law_play", .glo "_law_by_play", .glo "_law_row_right", .glo "_law_raised", .glo "law", .glo "PlayError", .glo "BadNumber", .free "abs", .free "all", .free "bool", .free "enumerate", .free "int", .free "isinstance", .free "len", .free "list", .free "max", .free "range", .free "sorted", .free "str", .free "tuple", .free "zip", .exm "BadNumber" "PlayError" true]
def exB (K : PySem.W.Frag) (c : Str) : Bool :=
  decide (PySem.W.findIn K (.ref (He.ga K c)) "__getattribute__" = some (some (.builtin "BaseException.__getattribute__"))) && (decide (PySem.W.findIn K (.ref (He.ga K c)) "__getattr__" = some none) && (decide (PySem.W.subIn K (.ref (He.ga K c)) (.type "BaseException") = some true)
  && (PySem.W.hasDictIn K (He.ga K c) && (decide (PySem.W.findIn K (.ref (He.ga K c)) "__class__" = some (some (.builtin "object.__class__"))) && (decide (PySem.W.specialIn K (.builtin "object.__class__") "__get__" = some (some (.builtin "getset_descriptor.__get__")))
  && (decide (PySem.W.takesIn K (.builtin "object.__class__") = some true) && decide (PySem.W.mroIn K (He.ga K c) (.type "object") = some true)))))))
theorem exB_ok {K : PySem.W.Frag} {c : Str} (h : exB K c = true) : ExcC K (He.ga K c) := by
  unfold exB at h
  simp only [Bool.and_eq_true, decide_eq_true_eq] at h
  obtain ⟨h1, h2, h3, h4, h5, h6, h7, h8⟩ := h
  exact ⟨h1, h2, h3, h4, h5, h6, h7, h8⟩
def ex (K : PySem.W.Frag) : Bool := exB K "BadNumber" && decide (PySem.W.kitOne K (.ref (He.ga K "BadNumber")) (.ref (He.ga K "BadNumber")) = some true)
abbrev R : PySem.W.OpenRow := PySem.W.OpenLaw.row LW
abbrev hk : PySem.W.Hook := He.hookX 5 fa fn [] [("law", none)] ex
def ob (s : PySem.W.SharedT) : He.AlX := He.obsX 5 fa fn [] [("law", none)] ex (HandSHeadRun.getT s)
theorem ob_eq (s : PySem.W.SharedT) : ob s = hk.obs s.abs := He.obsX_eq (HandSHeadRun.getT_eq s)
def loose : List Str := ["is_integer", "is_within", "PlayError", "BadNumber", "ends_row", "_law_hand", "_law_draw", "_law_any", "_law_is", "_law_more", "_law_play", "_law_by_play", "_law_row_right", "_law_raised"]
theorem run (w : World) : HandSHeadRun.RunEq R (PySem.W.view R.prog [18]) hk ob 3000 loose w := by
  intro os
  kernel_rfl
theorem lawAt (w : World) (K : PySem.W.Frag) (h : Heap) (mg : Str → Option Value) (fa' : Addr) (KX : K.In h) (c : He.SaysX fa fn [] [("law", none)] ex w h K) (G : h.Ns mainGlobals mg) (hmg : mg ("law" : Str) = some (.ref fa')) : LamX.LawAtS LW w K (L2.CX LW.prog w) 15 63 "script" mg fa' h := by
  have cd := c.t.d
  obtain ⟨fd0, F0⟩ := cd.def_ 0 (d := dd "is_integer" 1) rfl
  have m0 : mg "is_integer" = some (.ref (He.ga K "is_integer")) := He.glo_ok KX G (cd.fact 1 (f := .glo "is_integer") rfl)
  obtain ⟨fd1, F1⟩ := cd.def_ 1 (d := dd "is_within" 2) rfl
  have m1 : mg "is_within" = some (.ref (He.ga K "is_within")) := He.glo_ok KX G (cd.fact 2 (f := .glo "is_within") rfl)
  obtain ⟨fd2, F2⟩ := cd.def_ 2 (d := dd "ends_row" 7) rfl
  have m2 : mg "ends_row" = some (.ref (He.ga K "ends_row")) := He.glo_ok KX G (cd.fact 3 (f := .glo "ends_row") rfl)
  obtain ⟨fd3, F3⟩ := cd.def_ 3 (d := dd "_law_hand" 9) rfl
  have m3 : mg "_law_hand" = some (.ref (He.ga K "_law_hand")) := He.glo_ok KX G (cd.fact 4 (f := .glo "_law_hand") rfl)
  obtain ⟨fd4, F4⟩ := cd.def_ 4 (d := dd "_law_draw" 10) rfl
  have m4 : mg "_law_draw" = some (.ref (He.ga K "_law_draw")) := He.glo_ok KX G (cd.fact 5 (f := .glo "_law_draw") rfl)
  obtain ⟨fd5, F5⟩ := cd.def_ 5 (d := dd "_law_any" 11) rfl
  have m5 : mg "_law_any" = some (.ref (He.ga K "_law_any")) := He.glo_ok KX G (cd.fact 6 (f := .glo "_law_any") rfl)
  obtain ⟨fd6, F6⟩ := cd.def_ 6 (d := dd "_law_is" 12) rfl
  have m6 : mg "_law_is" = some (.ref (He.ga K "_law_is")) := He.glo_ok KX G (cd.fact 7 (f := .glo "_law_is") rfl)
  obtain ⟨fd7, F7⟩ := cd.def_ 7 (d := dd "_law_more" 13) rfl
  have m7 : mg "_law_more" = some (.ref (He.ga K "_law_more")) := He.glo_ok KX G (cd.fact 8 (f := .glo "_law_more") rfl)
  obtain ⟨fd8, F8⟩ := cd.def_ 8 (d := dd "_law_play" 14) rfl
  have m8 : mg "_law_play" = some (.ref (He.ga K "_law_play")) := He.glo_ok KX G (cd.fact 9 (f := .glo "_law_play") rfl)
  obtain ⟨fd9, F9⟩ := cd.def_ 9 (d := dd "_law_by_play" 15) rfl
  have m9 : mg "_law_by_play" = some (.ref (He.ga K "_law_by_play")) := He.glo_ok KX G (cd.fact 10 (f := .glo "_law_by_play") rfl)
  obtain ⟨fd10, F10⟩ := cd.def_ 10 (d := dd "_law_row_right" 16) rfl
  have m10 : mg "_law_row_right" = some (.ref (He.ga K "_law_row_right")) := He.glo_ok KX G (cd.fact 11 (f := .glo "_law_row_right") rfl)
  obtain ⟨fd11, F11⟩ := cd.def_ 11 (d := dd "_law_raised" 17) rfl
  have m11 : mg "_law_raised" = some (.ref (He.ga K "_law_raised")) := He.glo_ok KX G (cd.fact 12 (f := .glo "_law_raised") rfl)
  obtain ⟨fd12, F12⟩ := cd.def_ 12 (d := dd "law" 18) rfl
  have m12 : mg "law" = some (.ref (He.ga K "law")) := He.glo_ok KX G (cd.fact 13 (f := .glo "law") rfl)
  have c0 : mg "PlayError" = some (.ref (He.ga K "PlayError")) := He.glo_ok KX G (cd.fact 14 (f := .glo "PlayError") rfl)
  have c1 : mg "BadNumber" = some (.ref (He.ga K "BadNumber")) := He.glo_ok KX G (cd.fact 15 (f := .glo "BadNumber") rfl)
  have fx : Fx K mg := ⟨He.free_ok KX G (cd.fact 16 (f := .free "abs") rfl), He.free_ok KX G (cd.fact 17 (f := .free "all") rfl), He.free_ok KX G (cd.fact 18 (f := .free "bool") rfl), He.free_ok KX G (cd.fact 19 (f := .free "enumerate") rfl), He.free_ok KX G (cd.fact 20 (f := .free "int") rfl), He.free_ok KX G (cd.fact 21 (f := .free "isinstance") rfl), He.free_ok KX G (cd.fact 22 (f := .free "len") rfl), He.free_ok KX G (cd.fact 23 (f := .free "list") rfl), He.free_ok KX G (cd.fact 24 (f := .free "max") rfl), He.free_ok KX G (cd.fact 25 (f := .free "range") rfl), He.free_ok KX G (cd.fact 26 (f := .free "sorted") rfl), He.free_ok KX G (cd.fact 27 (f := .free "str") rfl), He.free_ok KX G (cd.fact 28 (f := .free "tuple") rfl), He.free_ok KX G (cd.fact 29 (f := .free "zip") rfl), ⟨_, c1, He.exc_ok (cd.fact 0 (f := .exc "BadNumber") rfl)⟩⟩
  have em : PySem.W.exmOne K (.ref (He.ga K "BadNumber")) (.ref (He.ga K "PlayError")) = some true := He.exm_ok (cd.fact 30 (f := .exm "BadNumber" "PlayError" true) rfl)
  have hex := c.more
  unfold ex at hex
  rw [Bool.and_eq_true, decide_eq_true_eq] at hex
  have rz : Rz K mg := ⟨_, fd11, _, _, F11, m11, F11.bindsN (ps := ["call"]) fun _ _ _ _ _ _ us hl => match us, hl with | [_], _ => rfl, c0, c1, fun x b e => by
    unfold tbl at e
    split at e
    · rename_i hx
      subst hx
      cases e
      exact ⟨_, c1, exB_ok hex.1, em, hex.2⟩
    · cases e⟩
  have e := hmg.symm.trans m12
  cases e
  have hcode : fd12.code = .ref (He.cT K ("law", none)).1 := by
    obtain ⟨oc, od, dV, kV, doc, pm, an, cdv, ct, osl, e1, lk, hcd, _, _⟩ := F12.ex
    obtain ⟨cc, ec⟩ := He.codeIn_ref hcd
    have e3 : fd12.code = .ref cc := by rw [e1]; exact ec
    rw [e3]
    exact congrArg Value.ref (He.codeOf_eq (p := ("law", none)) lk e3).symm
  refine ⟨fd12, [He.cT K ("law", none)], spLaw K (He.cT K ("law", none)).2, fun p hp => ?_, fun p hp => ?_, fun p hp => ?_, ?_, fun H a ns hl hb hT hS => ⟨a, ns, rfl, hS, hl, hb, hT _ List.mem_cons_self, fun _ => rfl⟩, fun base hK hG TB => ?_⟩
  · rw [List.mem_singleton.mp hp]; exact c.empty _ List.mem_cons_self
  · rw [List.mem_singleton.mp hp]; exact c.out _ List.mem_cons_self
  · rw [List.mem_singleton.mp hp]; exact PySem.W.codeHd_of_K KX (c.hd _ List.mem_cons_self)
  · have b := FunD.bindsA (ps := ["script"]) F12 fun _ _ _ _ _ _ us hl => match us, hl with | [_], _ => rfl
    exact fun s v => b s [v] rfl
  · have tb := TB _ List.mem_cons_self
    have G_is_integer := ok_is_integer (P := LW.prog) (w := w) (base := base) (T := [((He.cT K ("law", none)).2, lamq)]) fx F0 m0 
    have G_is_within := ok_is_within (P := LW.prog) (w := w) (base := base) (T := [((He.cT K ("law", none)).2, lamq)]) fx F1 m1 G_is_integer
    have G_ends_row := ok_ends_row (P := LW.prog) (w := w) (base := base) (T := [((He.cT K ("law", none)).2, lamq)]) fx F2 m2 G_is_within
    have G__law_hand := ok__law_hand (P := LW.prog) (w := w) (base := base) (T := [((He.cT K ("law", none)).2, lamq)]) fx F3 m3 
    have G__law_draw := ok__law_draw (P := LW.prog) (w := w) (base := base) (T := [((He.cT K ("law", none)).2, lamq)]) fx F4 m4 
    have G__law_any := ok__law_any (P := LW.prog) (w := w) (base := base) (T := [((He.cT K ("law", none)).2, lamq)]) fx F5 m5 G__law_draw
    have G__law_is := ok__law_is (P := LW.prog) (w := w) (base := base) (T := [((He.cT K ("law", none)).2, lamq)]) fx F6 m6 
    have G__law_more := ok__law_more (P := LW.prog) (w := w) (base := base) (T := [((He.cT K ("law", none)).2, lamq)]) fx F7 m7 
    have G__law_play := ok__law_play (P := LW.prog) (w := w) (base := base) (T := [((He.cT K ("law", none)).2, lamq)]) fx F8 m8 
    have G__law_by_play := ok__law_by_play (P := LW.prog) (w := w) (base := base) (T := [((He.cT K ("law", none)).2, lamq)]) fx F9 m9 
    have G__law_row_right := ok__law_row_right (P := LW.prog) (w := w) (base := base) (T := [((He.cT K ("law", none)).2, lamq)]) fx F10 m10 G_ends_row G__law_is G__law_more G__law_play G__law_by_play
    exact ok_law fx rz F12 hcode tb G_ends_row G__law_hand G__law_draw G__law_any G__law_is G__law_row_right plain_law
end K64
open PySem PySem.W PySem.Calls PyProof.Rows
theorem PySem.Challenge.cw_stuckloses_k64_whole_ends_of_rows_holds : PySem.Challenge.rw_stuckloses_k64_whole_ends_of_rows.Holds := by
  w_on; o_law
  refine HandSHeadRun.head_any (r := OpenLaw.row K64.LW) (q := view (OpenLaw.row K64.LW).prog [18]) (H := K64.hk) (ob := K64.ob) (M := 3000) (loose := K64.loose)
    (d := HandSHeadRun.topDef (OpenLaw.row K64.LW).prog 18) (kwd := []) K64.ob_eq
    (by kernel_rfl) (fun s => by kernel_rfl) K64.run (by kernel_rfl) (by kernel_rfl) (by kernel_rfl) (by rfl) (by first | assumption | decide +kernel) (by decide +kernel) ⟨rfl, rfl, rfl, rfl, rfl, by decide +kernel⟩ ?hw ?hc
  case hw => w_witness2
  case hc =>
    refine LamX.walk_ofTsE (l := K64.LW) (n := 63) (k := 15) (x := "script") (CX := fun w => L2.CX K64.LW.prog w) rfl (by decide) (by kernel_rfl) ⟨rfl, by decide, by decide⟩ ?F ?X
    · intro w mg fa h Y G hmg0
      obtain ⟨K, KX, c⟩ := Y
      have hmg : mg ("law" : PySem.Str) = some (.ref fa) := by
        have e : (HandSHeadRun.topDef (OpenLaw.row K64.LW).prog 18).name = ("law" : PySem.Str) := by kernel_rfl
        rw [← e]
        exact hmg0
      exact ⟨K, KX, K64.lawAt w K h mg fa KX c G hmg⟩
    · intro w H s e s' z
      obtain ⟨_, _, _, _, _, _, _, _, _, _, _, _, z⟩ := z
      exact z

