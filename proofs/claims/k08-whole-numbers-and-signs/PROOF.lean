import PyProof.Rows.All
import Wide.All
import OpenK.AllK
import Wide.FinOn
import HandS.ForMost
import HandS.ForExc
import HandS.EndTab
import HandS.ExcIs
import HandS.IsInst
import HandS.Wide
import HandS.WideBits
import HandS.TupAny
import HandS.TupMul
import HandS.Flow
import HandS.Zip
import HandS.Style
import HandS.SortInts
import HandS.Small
import HandS.Defaults
import KE.KStateDown
import HandS.Head0
import HandS.Head1
import HandS.Head2
import HandS.HeadEnd
import HandS.HeadHook1
import HandS.HeadHook2
import HandS.HeadHook3
import HandS.HeadHook4
import HandS.HeadWalk
import KE.GoesEnum
import KE.LtSeq
import PySem.Challenge.RW_stuckloses_k08_whole_numbers_and_signs
set_option Elab.async false
set_option linter.all false
set_option maxRecDepth 100000
set_option maxHeartbeats 2000000
/-! The data layer: deep values, how they stand in the abstract heap, steps. -/
namespace DL
open PySem PySem.Spec PyProof.Rows L2

/-- a value through and through; its lists and dicts stand still for ever -/
inductive D where
  | non | bl (b : Bool) | int (i : Int) | str (s : Str) | ty (n : String) | at (a : Addr) | ob (n : Nat)
  | sc (ns : List Int)
  | tup (l : List D)
  | lst (l : List D)
  | dK (ks : List Key) (l : List D)
  | dT (ks : List (List Key)) (l : List D)

/-- how a list or a dict is held that may change: a look at the frame's own one, a caller's own one, the frame's own one -/
inductive Md where
  | vw | pv | own
  deriving DecidableEq

/-- what an expression gives, what a slot holds -/
inductive Ev where
  | d (x : D)
  | ls (md : Md) (l : List D)
  | rw (md : Md) (rows : List (List D))
  | dk (md : Md) (ks : List Key) (l : List D)
  | dt (md : Md) (ks : List (List Key)) (l : List D)

/-- an object of the common memory -/
inductive O where
  | lst (l : List D)

abbrev Mem := List O
abbrev Env := List (Option Ev)

mutual
/-- no list, no dict -/
def D.bare : D → Bool
  | .tup l => D.bareL l
  | .lst _ => false
  | .dK _ _ => false
  | .dT _ _ => false
  | _ => true
def D.bareL : List D → Bool
  | [] => true
  | d :: l => D.bare d && D.bareL l
end

/-! ### how a value stands in the heap -/
/-- a list of ints that nobody writes (the script) -/
def SqF (K : PySem.W.Frag) (H : Hp) (a : Addr) (xs : List V) : Prop := (∃ o, H a = some (.frz o (.lst xs))) ∨
  ∃ (o : Obj) (its : Array Value) (n : Nat), K.lookup a = some o ∧ o.cls = .type "list" ∧ o.dict = none ∧ o.data = .seq its n ∧ its.size ≤ sizeLine ∧ Vals xs its.toList
mutual
def Rp (K : PySem.W.Frag) (A m : List Addr) (H : Hp) : D → V → Prop
  | .non, v => v = .non
  | .bl b, v => v = .bl b
  | .int i, v => v = .int i
  | .str s, v => v = .str s
  | .ty n, v => v = .ty n
  | .at a, v => v = .ref a
  | .ob n, v => ∃ a, m[n]? = some a ∧ v = .ref a
  | .sc ns, v => ∃ a, v = .ref a ∧ SqF K H a (ns.map V.int)
  | .tup l, v => ∃ a vs, v = .ref a ∧ H a = some (.tup vs) ∧ Rps K A m H l vs
  | .lst l, v => ∃ a vs, v = .ref a ∧ H a = some (.lst vs) ∧ a ∉ A ∧ Rps K A m H l vs
  | .dK ks l, v => ∃ a kvs, v = .ref a ∧ H a = some (.dK kvs) ∧ kvs.map (·.1) = ks ∧ a ∉ A ∧ Rps K A m H l (kvs.map (·.2))
  | .dT ks l, v => ∃ a kvs, v = .ref a ∧ H a = some (.dT kvs) ∧ kvs.map (·.1) = ks ∧ a ∉ A ∧ Rps K A m H l (kvs.map (·.2))
def Rps (K : PySem.W.Frag) (A m : List Addr) (H : Hp) : List D → List V → Prop
  | [], vs => vs = []
  | d :: l, vs => ∃ v r, vs = v :: r ∧ Rp K A m H d v ∧ Rps K A m H l r
end

/-- a list or a dict, of those that may change -/
def muta : HO → Prop
  | .lst _ => True
  | .dK _ => True
  | .dT _ => True
  | _ => False

/-- what stays but for the addresses at m (and the tables of code objects) -/
def Stp (m : List Addr) (H H' : Hp) : Prop := ∀ a o, H a = some o → a ∉ m → (∀ ps, o ≠ .tbl ps) → H' a = some o
theorem Stp.refl (m : List Addr) (H : Hp) : Stp m H H := fun _ _ e _ _ => e
theorem Stp.trans {m : List Addr} {H H1 H2 : Hp} (a : Stp m H H1) (b : Stp m H1 H2) : Stp m H H2 := fun x o e n t => b x o (a x o e n t) n t
theorem Stp.mono {m m' : List Addr} {H H' : Hp} (s : Stp m H H') (h : ∀ a ∈ m, a ∈ m') : Stp m' H H' := fun a o e n t => s a o e (fun z => n (h a z)) t
/-- something stands there, no table of code objects -/
def Lv (H : Hp) (a : Addr) : Prop := ∃ o, H a = some o ∧ ∀ ps, o ≠ .tbl ps
theorem Stp.lv {m : List Addr} {H H' : Hp} (s : Stp m H H') {a : Addr} (h : Lv H a) (n : a ∉ m) : Lv H' a := by
  obtain ⟨o, e, t⟩ := h
  exact ⟨o, s a o e n t, t⟩
/-- the addresses that may be written hold lists or dicts -/
def AOk (A : List Addr) (H : Hp) : Prop := ∀ a ∈ A, ∃ o, H a = some o ∧ muta o
theorem muta_tbl {o : HO} (h : muta o) : ∀ ps, o ≠ .tbl ps := fun ps e => by subst e; exact h
theorem lst_tbl {xs : List V} : ∀ ps, HO.lst xs ≠ .tbl ps := fun ps e => by cases e
theorem dK_tbl {xs : List (Key × V)} : ∀ ps, HO.dK xs ≠ .tbl ps := fun ps e => by cases e
theorem dT_tbl {xs : List (List Key × V)} : ∀ ps, HO.dT xs ≠ .tbl ps := fun ps e => by cases e

section
variable {K : PySem.W.Frag} {A A' m : List Addr} {H H' : Hp}
theorem tup_step {B : List Addr} {a : Addr} {vs : List V} (ok : AOk B H) (s : Stp B H H') (h : H a = some (.tup vs)) : H' a = some (.tup vs) := by
  refine s a _ h (fun hm => ?_) (fun ps e => by cases e)
  obtain ⟨o, e, mu⟩ := ok a hm
  rw [h] at e; cases e; exact mu
theorem sqF_step {B : List Addr} {a : Addr} {xs : List V} (ok : AOk B H) (s : Stp B H H') (h : SqF K H a xs) : SqF K H' a xs := by
  rcases h with ⟨o, e⟩ | h
  · refine .inl ⟨o, s a _ e (fun hm => ?_) (fun ps z => by cases z)⟩
    obtain ⟨u, e2, mu⟩ := ok a hm
    rw [e] at e2; cases e2; exact mu
  · exact .inr h
mutual
theorem Rp.step {B : List Addr} (ok : AOk B H) (hA : ∀ a ∈ B, a ∈ A) (s : Stp B H H') : ∀ (d : D) (v : V), Rp K A m H d v → Rp K A m H' d v
  | .non, _, h => h
  | .bl _, _, h => h
  | .int _, _, h => h
  | .str _, _, h => h
  | .ty _, _, h => h
  | .at _, _, h => h
  | .ob _, _, h => h
  | .sc _, _, ⟨a, e, h⟩ => ⟨a, e, sqF_step ok s h⟩
  | .tup l, v, ⟨a, vs, e, hs, hl⟩ => ⟨a, vs, e, tup_step ok s hs, Rps.step ok hA s l vs hl⟩
  | .lst l, v, ⟨a, vs, e, hs, hn, hl⟩ => ⟨a, vs, e, s a _ hs (fun hm => hn (hA a hm)) lst_tbl, hn, Rps.step ok hA s l vs hl⟩
  | .dK ks l, v, ⟨a, kvs, e, hs, ek, hn, hl⟩ => ⟨a, kvs, e, s a _ hs (fun hm => hn (hA a hm)) dK_tbl, ek, hn, Rps.step ok hA s l _ hl⟩
  | .dT ks l, v, ⟨a, kvs, e, hs, ek, hn, hl⟩ => ⟨a, kvs, e, s a _ hs (fun hm => hn (hA a hm)) dT_tbl, ek, hn, Rps.step ok hA s l _ hl⟩
theorem Rps.step {B : List Addr} (ok : AOk B H) (hA : ∀ a ∈ B, a ∈ A) (s : Stp B H H') : ∀ (l : List D) (vs : List V), Rps K A m H l vs → Rps K A m H' l vs
  | [], _, h => h
  | d :: l, vs, ⟨v, r, e, h1, h2⟩ => ⟨v, r, e, Rp.step ok hA s d v h1, Rps.step ok hA s l r h2⟩
end
mutual
theorem Rp.avoid (hA : ∀ a ∈ A', a ∈ A ∨ ¬ Lv H a) : ∀ (d : D) (v : V), Rp K A m H d v → Rp K A' m H d v
  | .non, _, h => h
  | .bl _, _, h => h
  | .int _, _, h => h
  | .str _, _, h => h
  | .ty _, _, h => h
  | .at _, _, h => h
  | .ob _, _, h => h
  | .sc _, _, h => h
  | .tup l, v, ⟨a, vs, e, hs, hl⟩ => ⟨a, vs, e, hs, Rps.avoid hA l vs hl⟩
  | .lst l, v, ⟨a, vs, e, hs, hn, hl⟩ => ⟨a, vs, e, hs, fun z => (hA a z).elim hn (fun q => q ⟨_, hs, lst_tbl⟩), Rps.avoid hA l vs hl⟩
  | .dK ks l, v, ⟨a, kvs, e, hs, ek, hn, hl⟩ => ⟨a, kvs, e, hs, ek, fun z => (hA a z).elim hn (fun q => q ⟨_, hs, dK_tbl⟩), Rps.avoid hA l _ hl⟩
  | .dT ks l, v, ⟨a, kvs, e, hs, ek, hn, hl⟩ => ⟨a, kvs, e, hs, ek, fun z => (hA a z).elim hn (fun q => q ⟨_, hs, dT_tbl⟩), Rps.avoid hA l _ hl⟩
theorem Rps.avoid (hA : ∀ a ∈ A', a ∈ A ∨ ¬ Lv H a) : ∀ (l : List D) (vs : List V), Rps K A m H l vs → Rps K A' m H l vs
  | [], _, h => h
  | d :: l, vs, ⟨v, r, e, h1, h2⟩ => ⟨v, r, e, Rp.avoid hA d v h1, Rps.avoid hA l r h2⟩
end
mutual
theorem Rp.bare : ∀ (d : D) (v : V), D.bare d = true → Rp K A m H d v → Rp K A' m H d v
  | .non, _, _, h => h
  | .bl _, _, _, h => h
  | .int _, _, _, h => h
  | .str _, _, _, h => h
  | .ty _, _, _, h => h
  | .at _, _, _, h => h
  | .ob _, _, _, h => h
  | .sc _, _, _, h => h
  | .tup l, v, b, ⟨a, vs, e, hs, hl⟩ => ⟨a, vs, e, hs, Rps.bare l vs b hl⟩
  | .lst _, _, b, _ => by cases b
  | .dK _ _, _, b, _ => by cases b
  | .dT _ _, _, b, _ => by cases b
theorem Rps.bare : ∀ (l : List D) (vs : List V), D.bareL l = true → Rps K A m H l vs → Rps K A' m H l vs
  | [], _, _, h => h
  | d :: l, vs, b, ⟨v, r, e, h1, h2⟩ => by
    have b' : (D.bare d && D.bareL l) = true := b
    rw [Bool.and_eq_true] at b'
    exact ⟨v, r, e, Rp.bare d v b'.1 h1, Rps.bare l r b'.2 h2⟩
end
theorem Rps.len : ∀ {l : List D} {vs : List V}, Rps K A m H l vs → vs.length = l.length
  | [], _, h => by have e : _ = [] := h; rw [e]; rfl
  | d :: l, vs, ⟨v, r, e, h1, h2⟩ => by rw [e, List.length_cons, List.length_cons, Rps.len h2]
theorem Rps.app : ∀ {l l' : List D} {vs vs' : List V}, Rps K A m H l vs → Rps K A m H l' vs' → Rps K A m H (l ++ l') (vs ++ vs')
  | [], _, _, _, h, h' => by have e : _ = [] := h; rw [e]; exact h'
  | d :: l, _, vs, _, ⟨v, r, e, h1, h2⟩, h' => ⟨v, r ++ _, by rw [e]; rfl, h1, Rps.app h2 h'⟩
theorem Rps.one {d : D} {v : V} (h : Rp K A m H d v) : Rps K A m H [d] [v] := ⟨v, [], rfl, h, rfl⟩
theorem Rps.get : ∀ {l : List D} {vs : List V} {i : Nat} {d : D}, Rps K A m H l vs → l[i]? = some d → ∃ v, vs[i]? = some v ∧ Rp K A m H d v
  | [], _, i, _, _, e => by simp at e
  | d :: l, vs, 0, x, ⟨v, r, e, h1, h2⟩, q => by simp at q; subst q; exact ⟨v, by rw [e]; rfl, h1⟩
  | d :: l, vs, i + 1, x, ⟨v, r, e, h1, h2⟩, q => by
    obtain ⟨y, e1, e2⟩ := Rps.get (i := i) h2 (by simpa using q)
    exact ⟨y, by rw [e]; simpa using e1, e2⟩
theorem Rps.set : ∀ {l : List D} {vs : List V} (i : Nat) {d : D} {v : V}, Rps K A m H l vs → Rp K A m H d v → Rps K A m H (l.set i d) (vs.set i v)
  | [], _, i, _, _, h, _ => by have e : _ = [] := h; rw [e]; exact rfl
  | d :: l, vs, 0, x, y, ⟨v, r, e, h1, h2⟩, q => ⟨y, r, by rw [e]; rfl, q, h2⟩
  | d :: l, vs, i + 1, x, y, ⟨v, r, e, h1, h2⟩, q => ⟨v, r.set i y, by rw [e]; rfl, h1, Rps.set i h2 q⟩
theorem Rps.take : ∀ {l : List D} {vs : List V} (n : Nat), Rps K A m H l vs → Rps K A m H (l.take n) (vs.take n)
  | _, _, 0, _ => by simp; exact rfl
  | [], _, n + 1, h => by have e : _ = [] := h; rw [e]; exact rfl
  | d :: l, vs, n + 1, ⟨v, r, e, h1, h2⟩ => by rw [e]; exact ⟨v, r.take n, rfl, h1, Rps.take n h2⟩
theorem Rps.drop : ∀ {l : List D} {vs : List V} (n : Nat), Rps K A m H l vs → Rps K A m H (l.drop n) (vs.drop n)
  | _, _, 0, h => by simpa using h
  | [], _, n + 1, h => by have e : _ = [] := h; rw [e]; exact rfl
  | d :: l, vs, n + 1, ⟨v, r, e, h1, h2⟩ => by rw [e]; exact Rps.drop n h2
theorem Rps.rev : ∀ {l : List D} {vs : List V}, Rps K A m H l vs → Rps K A m H l.reverse vs.reverse
  | [], _, h => by have e : _ = [] := h; rw [e]; exact rfl
  | d :: l, vs, ⟨v, r, e, h1, h2⟩ => by rw [e, List.reverse_cons, List.reverse_cons]; exact Rps.app (Rps.rev h2) (Rps.one h1)
theorem Rps.rep {l : List D} {vs : List V} (h : Rps K A m H l vs) : ∀ n : Nat, Rps K A m H (List.replicate n l).flatten (List.replicate n vs).flatten
  | 0 => rfl
  | n + 1 => by rw [List.replicate_succ, List.replicate_succ, List.flatten_cons, List.flatten_cons]; exact Rps.app h (Rps.rep h n)
theorem Rps.ints : ∀ {ns : List Int} {vs : List V}, Rps K A m H (ns.map D.int) vs → vs = ns.map V.int
  | [], _, h => h
  | n :: ns, vs, ⟨v, r, e, h1, h2⟩ => by rw [e, show v = .int n from h1, Rps.ints h2]; rfl
theorem Rps.of_ints : ∀ (ns : List Int), Rps K A m H (ns.map D.int) (ns.map V.int)
  | [] => rfl
  | n :: ns => ⟨.int n, ns.map V.int, rfl, rfl, Rps.of_ints ns⟩
end

/-! ### the memory, the frame -/
def OR (K : PySem.W.Frag) (m : List Addr) (H : Hp) (a : Addr) : O → Prop
  | .lst l => ∃ vs, H a = some (.lst vs) ∧ D.bareL l = true ∧ Rps K m m H l vs
structure WR (K : PySem.W.Frag) (m : List Addr) (M : Mem) (H : Hp) : Prop where
  len : m.length = M.length
  nd : m.Nodup
  ok : ∀ (n : Nat) (a : Addr) (o : O), m[n]? = some a → M[n]? = some o → OR K m H a o
theorem WR.aok {K : PySem.W.Frag} {m : List Addr} {M : Mem} {H : Hp} (w : WR K m M H) : AOk m H := fun a ha => by
  obtain ⟨n, hn, e⟩ := List.mem_iff_getElem.mp ha
  have hM : n < M.length := by rw [← w.len]; exact hn
  have q := w.ok n a (M[n]) (by rw [List.getElem?_eq_getElem hn, e]) (List.getElem?_eq_getElem hM)
  cases hq : M[n] with
  | lst l => rw [hq] at q; obtain ⟨vs, e, _⟩ := q; exact ⟨_, e, trivial⟩

/-- an expression's value -/
def EvR (K : PySem.W.Frag) (H0 : Hp) (A m : List Addr) (H : Hp) : Ev → V → Prop
  | .d x, v => Rp K A m H x v
  | .ls .own _, _ => False
  | .ls .vw l, v => ∃ a vs, v = .ref a ∧ H a = some (.lst vs) ∧ a ∉ m ∧ ¬ Lv H0 a ∧ Rps K A m H l vs
  | .ls .pv l, v => ∃ a vs, v = .ref a ∧ H a = some (.lst vs) ∧ a ∉ m ∧ Lv H0 a ∧ Rps K A m H l vs
  | .rw .vw rows, v => ∃ a vs, v = .ref a ∧ H a = some (.lst vs) ∧ a ∉ m ∧ ¬ Lv H0 a ∧ Paired (fun row u => ∃ b ws, u = V.ref b ∧ H b = some (.lst ws) ∧ b ∉ m ∧ ¬ Lv H0 b ∧ Rps K A m H row ws) rows vs
  | .rw _ _, _ => False
  | .dk .vw ks l, v => ∃ a kvs, v = .ref a ∧ H a = some (.dK kvs) ∧ kvs.map (·.1) = ks ∧ a ∉ m ∧ ¬ Lv H0 a ∧ Rps K A m H l (kvs.map (·.2))
  | .dk .pv ks l, v => ∃ a kvs, v = .ref a ∧ H a = some (.dK kvs) ∧ kvs.map (·.1) = ks ∧ a ∉ m ∧ Lv H0 a ∧ Rps K A m H l (kvs.map (·.2))
  | .dk .own _ _, _ => False
  | .dt .vw ks l, v => ∃ a kvs, v = .ref a ∧ H a = some (.dT kvs) ∧ kvs.map (·.1) = ks ∧ a ∉ m ∧ ¬ Lv H0 a ∧ Rps K A m H l (kvs.map (·.2))
  | .dt .pv ks l, v => ∃ a kvs, v = .ref a ∧ H a = some (.dT kvs) ∧ kvs.map (·.1) = ks ∧ a ∉ m ∧ Lv H0 a ∧ Rps K A m H l (kvs.map (·.2))
  | .dt .own _ _, _ => False
theorem EvR.step {K : PySem.W.Frag} {H0 : Hp} {A m : List Addr} {H H' : Hp} (ok : AOk m H) (hA : ∀ a ∈ m, a ∈ A) (s : Stp m H H') : ∀ {x : Ev} {v : V}, EvR K H0 A m H x v → EvR K H0 A m H' x v
  | .d x, v, h => Rp.step ok hA s x v h
  | .ls .vw l, v, ⟨a, vs, e, h, n, z, r⟩ => ⟨a, vs, e, s a _ h n lst_tbl, n, z, Rps.step ok hA s _ _ r⟩
  | .ls .pv l, v, ⟨a, vs, e, h, n, z, r⟩ => ⟨a, vs, e, s a _ h n lst_tbl, n, z, Rps.step ok hA s _ _ r⟩
  | .rw .vw rows, v, ⟨a, vs, e, h, n, z, r⟩ => ⟨a, vs, e, s a _ h n lst_tbl, n, z, Paired.mapP r fun row u ⟨b, ws, e1, e2, e3, e4, e5⟩ => ⟨b, ws, e1, s b _ e2 e3 lst_tbl, e3, e4, Rps.step ok hA s _ _ e5⟩⟩
  | .dk .vw ks l, v, ⟨a, vs, e, h, ek, n, z, r⟩ => ⟨a, vs, e, s a _ h n dK_tbl, ek, n, z, Rps.step ok hA s _ _ r⟩
  | .dk .pv ks l, v, ⟨a, vs, e, h, ek, n, z, r⟩ => ⟨a, vs, e, s a _ h n dK_tbl, ek, n, z, Rps.step ok hA s _ _ r⟩
  | .dt .vw ks l, v, ⟨a, vs, e, h, ek, n, z, r⟩ => ⟨a, vs, e, s a _ h n dT_tbl, ek, n, z, Rps.step ok hA s _ _ r⟩
  | .dt .pv ks l, v, ⟨a, vs, e, h, ek, n, z, r⟩ => ⟨a, vs, e, s a _ h n dT_tbl, ek, n, z, Rps.step ok hA s _ _ r⟩
  | .ls .own _, _, h => h.elim
  | .rw .pv _, _, h => h.elim
  | .rw .own _, _, h => h.elim
  | .dk .own _ _, _, h => h.elim
  | .dt .own _ _, _, h => h.elim
/-- rows, each the frame's own -/
def RowsR (K : PySem.W.Frag) (A m : List Addr) (H : Hp) : List (List D) → List V → List Addr → Prop
  | [], vs, P => vs = [] ∧ P = []
  | row :: rows, vs, P => ∃ b ws r P', vs = .ref b :: r ∧ P = b :: P' ∧ H b = some (.lst ws) ∧ Rps K A m H row ws ∧ RowsR K A m H rows r P'
/-- what a slot holds, P: the addresses that are the slot's own -/
def SlR (K : PySem.W.Frag) (H0 : Hp) (A m : List Addr) (H : Hp) : Ev → V → List Addr → Prop
  | .d x, v, P => P = [] ∧ Rp K A m H x v
  | .ls .pv l, v, P => P = [] ∧ EvR K H0 A m H (.ls .pv l) v
  | .ls .own l, v, P => ∃ a vs, v = .ref a ∧ H a = some (.lst vs) ∧ P = [a] ∧ Rps K A m H l vs
  | .rw .own rows, v, P => ∃ a vs P', v = .ref a ∧ H a = some (.lst vs) ∧ P = a :: P' ∧ RowsR K A m H rows vs P'
  | .dk .pv ks l, v, P => P = [] ∧ EvR K H0 A m H (.dk .pv ks l) v
  | .dk .own ks l, v, P => ∃ a kvs, v = .ref a ∧ H a = some (.dK kvs) ∧ kvs.map (·.1) = ks ∧ P = [a] ∧ Rps K A m H l (kvs.map (·.2))
  | .dt .pv ks l, v, P => P = [] ∧ EvR K H0 A m H (.dt .pv ks l) v
  | .dt .own ks l, v, P => ∃ a kvs, v = .ref a ∧ H a = some (.dT kvs) ∧ kvs.map (·.1) = ks ∧ P = [a] ∧ Rps K A m H l (kvs.map (·.2))
  | _, _, _ => False
def ER (K : PySem.W.Frag) (H0 : Hp) (A m : List Addr) (H : Hp) : Env → L2.St → List Addr → Prop
  | [], σ, P => σ = [] ∧ P = []
  | none :: ρ, σ, P => ∃ y τ, σ = y :: τ ∧ ER K H0 A m H ρ τ P
  | some x :: ρ, σ, P => ∃ v τ P1 P2, σ = some v :: τ ∧ P = P1 ++ P2 ∧ SlR K H0 A m H x v P1 ∧ ER K H0 A m H ρ τ P2
end DL

set_option Elab.async false
set_option linter.all false
set_option maxRecDepth 100000
set_option maxHeartbeats 2000000
/-! The data layer: frames, readings, how parts are put together. -/
namespace DL
open PySem PySem.Spec PyProof.Rows L2

inductive R (α : Type) where
  | ok (a : α) (M : Mem)
  | exc (c : Str) (f : Option (Str × D)) (M : Mem)
  | stuck
abbrev Sm (α : Type) := Env → Mem → R α
def bnd {α β : Type} (r : R α) (k : α → Mem → R β) : R β := match r with
  | .ok a M => k a M
  | .exc c f M => .exc c f M
  | .stuck => .stuck
theorem bnd_ok {α β : Type} (a : α) (M : Mem) (k : α → Mem → R β) : bnd (.ok a M) k = k a M := rfl
theorem bnd_exc {α β : Type} (c f) (M : Mem) (k : α → Mem → R β) : bnd (.exc c f M) k = .exc c f M := rfl
theorem bnd_stuck {α β : Type} (k : α → Mem → R β) : bnd (.stuck) k = .stuck := rfl

/-- what a name gives -/
def look : Ev → Ev
  | .ls .own l => .ls .vw l
  | .rw .own rows => .rw .vw rows
  | .dk .own ks l => .dk .vw ks l
  | .dt .own ks l => .dt .vw ks l
  | y => y
/-- a lone thing as a value of the heap -/
def scV : D → Option V
  | .non => some .non
  | .bl b => some (.bl b)
  | .int i => some (.int i)
  | .str s => some (.str s)
  | _ => none

/-- an exception of the class c, with its one field or none -/
def XR (mg : Str → Option Value) (H : Hp) (c : Str) (f : Option (Str × D)) (cls : Value) (d : Option Addr) : Prop :=
  ∃ C, mg c = some (.ref C) ∧ cls = .ref C ∧ match f with
    | none => d = none
    | some (nm, x) => ∃ dx v, d = some dx ∧ H dx = some (.xd [(nm, v)]) ∧ scV x = some v

/-- what stays the same through a def's body -/
structure Cf where
  K : PySem.W.Frag
  mg : Str → Option Value
  T : List (Addr × Str)
  W : WX
abbrev cf (X : Cx) (T : List (Addr × Str)) (W : WX) : Cf := ⟨X.K, X.mg, T, W⟩

structure FR (C : Cf) (H0 : Hp) (A m : List Addr) (M : Mem) (H : Hp) (ρ : Env) (σ : L2.St) (P : List Addr) : Prop where
  wr : WR C.K m M H
  tb : LamX.Tabs C.T H
  er : ER C.K H0 A m H ρ σ P
  nd : P.Nodup
  own : ∀ a ∈ P, a ∈ A ∧ a ∉ m ∧ ¬ Lv H0 a
  ma : ∀ a ∈ m, a ∈ A
  aok : AOk A H
  base : Stp m H0 H

section
variable {C : Cf} {K : PySem.W.Frag} {H0 H H' : Hp} {A m : List Addr} {M M' : Mem} {ρ : Env} {σ : L2.St} {P : List Addr}
theorem RowsR.step {B : List Addr} (ok : AOk B H) (hA : ∀ a ∈ B, a ∈ A) (s : Stp B H H') : ∀ {rows : List (List D)} {vs : List V} {P : List Addr}, (∀ a ∈ P, a ∉ B) → RowsR K A m H rows vs P → RowsR K A m H' rows vs P
  | [], _, _, _, h => h
  | row :: rows, vs, P, hP, ⟨b, ws, r, P', e, eP, hb, hr, ht⟩ =>
    ⟨b, ws, r, P', e, eP, s b _ hb (hP b (by rw [eP]; exact List.mem_cons_self)) lst_tbl, Rps.step ok hA s _ _ hr, RowsR.step ok hA s (fun a ha => hP a (by rw [eP]; exact List.mem_cons_of_mem _ ha)) ht⟩
theorem SlR.step (ok : AOk m H) (hA : ∀ a ∈ m, a ∈ A) (s : Stp m H H') : ∀ {x : Ev} {v : V} {P : List Addr}, (∀ a ∈ P, a ∉ m) → SlR K H0 A m H x v P → SlR K H0 A m H' x v P
  | .d x, v, P, hP, ⟨e, h⟩ => ⟨e, Rp.step ok hA s x v h⟩
  | .ls .pv l, v, P, hP, ⟨e, h⟩ => ⟨e, EvR.step ok hA s h⟩
  | .ls .own l, v, P, hP, ⟨a, vs, e, h, eP, r⟩ => ⟨a, vs, e, s a _ h (hP a (by rw [eP]; exact List.mem_cons_self)) lst_tbl, eP, Rps.step ok hA s _ _ r⟩
  | .rw .own rows, v, P, hP, ⟨a, vs, P', e, h, eP, r⟩ => ⟨a, vs, P', e, s a _ h (hP a (by rw [eP]; exact List.mem_cons_self)) lst_tbl, eP, RowsR.step ok hA s (fun b hb => hP b (by rw [eP]; exact List.mem_cons_of_mem _ hb)) r⟩
  | .dk .pv ks l, v, P, hP, ⟨e, h⟩ => ⟨e, EvR.step ok hA s h⟩
  | .dk .own ks l, v, P, hP, ⟨a, kvs, e, h, ek, eP, r⟩ => ⟨a, kvs, e, s a _ h (hP a (by rw [eP]; exact List.mem_cons_self)) dK_tbl, ek, eP, Rps.step ok hA s _ _ r⟩
  | .dt .pv ks l, v, P, hP, ⟨e, h⟩ => ⟨e, EvR.step ok hA s h⟩
  | .dt .own ks l, v, P, hP, ⟨a, kvs, e, h, ek, eP, r⟩ => ⟨a, kvs, e, s a _ h (hP a (by rw [eP]; exact List.mem_cons_self)) dT_tbl, ek, eP, Rps.step ok hA s _ _ r⟩
  | .ls .vw _, _, _, _, h => h.elim
  | .rw .vw _, _, _, _, h => h.elim
  | .rw .pv _, _, _, _, h => h.elim
  | .dk .vw _ _, _, _, _, h => h.elim
  | .dt .vw _ _, _, _, _, h => h.elim
theorem ER.step (ok : AOk m H) (hA : ∀ a ∈ m, a ∈ A) (s : Stp m H H') : ∀ {ρ : Env} {σ : L2.St} {P : List Addr}, (∀ a ∈ P, a ∉ m) → ER K H0 A m H ρ σ P → ER K H0 A m H' ρ σ P
  | [], _, _, _, h => h
  | none :: ρ, σ, P, hP, ⟨y, τ, e, h⟩ => ⟨y, τ, e, ER.step ok hA s hP h⟩
  | some x :: ρ, σ, P, hP, ⟨v, τ, P1, P2, e, eP, h1, h2⟩ =>
    ⟨v, τ, P1, P2, e, eP, SlR.step ok hA s (fun a ha => hP a (by rw [eP]; exact List.mem_append_left _ ha)) h1, ER.step ok hA s (fun a ha => hP a (by rw [eP]; exact List.mem_append_right _ ha)) h2⟩
theorem FR.step (F : FR C H0 A m M H ρ σ P) (s : Stp m H H') (w : WR C.K m M' H') (t : LamX.Tabs C.T H') : FR C H0 A m M' H' ρ σ P :=
  ⟨w, t, ER.step F.wr.aok F.ma s (fun a ha => (F.own a ha).2.1) F.er, F.nd, F.own, F.ma, fun a ha => by
    by_cases hm : a ∈ m
    · exact w.aok a hm
    · obtain ⟨o, e, mu⟩ := F.aok a ha
      exact ⟨o, s a o e hm (muta_tbl mu), mu⟩, F.base.trans s⟩
theorem Stp.upd {m : List Addr} {H : Hp} {p : Addr} {o : HO} (hp : H p = none) : Stp m H (upd H p o) := fun a u e _ _ => by
  rw [upd_ne (ne_of_none e hp)]; exact e
theorem WR.step (w : WR K m M H) (hk : ∀ a o, H a = some o → (∀ ps, o ≠ .tbl ps) → H' a = some o) : WR K m M H' := by
  refine ⟨w.len, w.nd, fun n a o e1 e2 => ?_⟩
  have q := w.ok n a o e1 e2
  cases o with
  | lst l =>
    obtain ⟨vs, e, b, r⟩ := q
    exact ⟨vs, hk a _ e lst_tbl, b, Rps.step (B := []) (fun _ h => nomatch h) (fun _ h => nomatch h) (fun a o e _ t => hk a o e t) _ _ r⟩
theorem WR.upd (w : WR K m M H) {p : Addr} {o : HO} (hp : H p = none) : WR K m M (upd H p o) := w.step fun a u e _ => by
  rw [upd_ne (ne_of_none e hp)]; exact e
theorem Tabs.upd {T : List (Addr × Str)} (t : LamX.Tabs T H) {p : Addr} {o : HO} (hp : H p = none) : LamX.Tabs T (upd H p o) := t.ext fun a u e => by
  rw [upd_ne (ne_of_none e hp)]; exact e
theorem FR.grow (F : FR C H0 A m M H ρ σ P) {p : Addr} {o : HO} (hp : H p = none) : FR C H0 A m M (upd H p o) ρ σ P := F.step (Stp.upd hp) (F.wr.upd hp) (Tabs.upd F.tb hp)
/-- a new address is none of those that are told -/
theorem FR.new (F : FR C H0 A m M H ρ σ P) {p : Addr} (hp : H p = none) : p ∉ A := fun h => by
  obtain ⟨o, e, _⟩ := F.aok p h
  rw [hp] at e; cases e
theorem FR.h0 (F : FR C H0 A m M H ρ σ P) {p : Addr} (hp : H p = none) : ¬ Lv H0 p := fun h => by
  obtain ⟨o, e, _⟩ := F.base.lv h (fun z => F.new hp (F.ma p z))
  rw [hp] at e; cases e
theorem SlR.get_look {x : Ev} {v : V} {P1 : List Addr} (h : SlR K H0 A m H x v P1) (ho : ∀ a ∈ P1, a ∉ m ∧ ¬ Lv H0 a) :
    EvR K H0 A m H (look x) v := by
  cases x with
  | d x => exact h.2
  | ls md l =>
    cases md with
    | vw => exact h.elim
    | pv => exact h.2
    | own =>
      obtain ⟨a, vs, e, hl, eP, r⟩ := h
      have q := ho a (by rw [eP]; exact List.mem_cons_self)
      exact ⟨a, vs, e, hl, q.1, q.2, r⟩
  | rw md l =>
    cases md with
    | vw => exact h.elim
    | pv => exact h.elim
    | own =>
      obtain ⟨a, vs, P', e, hl, eP, r⟩ := h
      have q := ho a (by rw [eP]; exact List.mem_cons_self)
      refine ⟨a, vs, e, hl, q.1, q.2, ?_⟩
      have all : ∀ {rows : List (List D)} {vs : List V} {P : List Addr}, (∀ a ∈ P, a ∉ m ∧ ¬ Lv H0 a) → RowsR K A m H rows vs P → Paired (fun row u => ∃ b ws, u = V.ref b ∧ H b = some (.lst ws) ∧ b ∉ m ∧ ¬ Lv H0 b ∧ Rps K A m H row ws) rows vs := by
        intro rows
        induction rows with
        | nil => intro vs P _ h; obtain ⟨rfl, _⟩ := h; exact .nil
        | cons row rows ih =>
          intro vs P hP h
          obtain ⟨b, ws, r, P', rfl, eP, hb, hr, ht⟩ := h
          have q := hP b (by rw [eP]; exact List.mem_cons_self)
          exact .cons ⟨b, ws, rfl, hb, q.1, q.2, hr⟩ (ih (fun a ha => hP a (by rw [eP]; exact List.mem_cons_of_mem _ ha)) ht)
      exact all (fun b hb => ho b (by rw [eP]; exact List.mem_cons_of_mem _ hb)) r
  | dk md ks l =>
    cases md with
    | vw => exact h.elim
    | pv => exact h.2
    | own =>
      obtain ⟨a, kvs, e, hl, ek, eP, r⟩ := h
      have q := ho a (by rw [eP]; exact List.mem_cons_self)
      exact ⟨a, kvs, e, hl, ek, q.1, q.2, r⟩
  | dt md ks l =>
    cases md with
    | vw => exact h.elim
    | pv => exact h.2
    | own =>
      obtain ⟨a, kvs, e, hl, ek, eP, r⟩ := h
      have q := ho a (by rw [eP]; exact List.mem_cons_self)
      exact ⟨a, kvs, e, hl, ek, q.1, q.2, r⟩
theorem ER.get : ∀ {ρ : Env} {σ : L2.St} {P : List Addr} {i : Nat} {x : Ev}, ER K H0 A m H ρ σ P → ρ[i]? = some (some x) → ∃ v P1, σ[i]? = some (some v) ∧ SlR K H0 A m H x v P1 ∧ ∀ a ∈ P1, a ∈ P
  | [], _, _, i, _, _, e => by simp at e
  | none :: ρ, σ, P, 0, x, _, e => by simp at e
  | none :: ρ, σ, P, i + 1, x, ⟨y, τ, eσ, h⟩, e => by
    obtain ⟨v, P1, q1, q2, q3⟩ := ER.get (i := i) h (by simpa using e)
    exact ⟨v, P1, by rw [eσ]; simpa using q1, q2, q3⟩
  | some z :: ρ, σ, P, 0, x, ⟨v, τ, P1, P2, eσ, eP, h1, h2⟩, e => by
    simp at e; subst e
    exact ⟨v, P1, by rw [eσ]; rfl, h1, fun a ha => by rw [eP]; exact List.mem_append_left _ ha⟩
  | some z :: ρ, σ, P, i + 1, x, ⟨v, τ, P1, P2, eσ, eP, h1, h2⟩, e => by
    obtain ⟨v, P1', q1, q2, q3⟩ := ER.get (i := i) h2 (by simpa using e)
    exact ⟨v, P1', by rw [eσ]; simpa using q1, q2, fun a ha => by rw [eP]; exact List.mem_append_right _ (q3 a ha)⟩
end
/-! ### readings -/
def PX {α β : Type} (C : Cf) (m : List Addr) (σ : L2.St) (rel : Hp → α → β → Prop) (H : Hp) (r : R α) (Q : β → Hp → Prop) : Prop := match r with
  | .ok d M' => ∀ H' v, Stp m H H' → WR C.K m M' H' → LamX.Tabs C.T H' → rel H' d v → Q v H'
  | .exc c f M' => ∀ H' cls d, Stp m H H' → WR C.K m M' H' → LamX.Tabs C.T H' → XR C.mg H' c f cls d → C.W cls d σ H'
  | .stuck => False
abbrev Rel (α β : Type) := Hp → List Addr → List Addr → Hp → α → β → Prop
def tX {α β : Type} (C : Cf) (rel : Rel α β) (f : Sm α) : L2.St → Hp → (β → Hp → Prop) → Prop := fun σ H Q =>
  ∃ H0 A m M ρ P, FR C H0 A m M H ρ σ P ∧ PX C m σ (rel H0 A m) H (f ρ M) Q
def relE (K : PySem.W.Frag) : Rel Ev V := fun H0 A m H x v => EvR K H0 A m H x v
def relL (K : PySem.W.Frag) : Rel (List Ev) (List V) := fun H0 A m H xs vs => Paired (EvR K H0 A m H) xs vs
def relB : Rel Bool Bool := fun _ _ _ _ a b => a = b
abbrev tE (C : Cf) (f : Sm Ev) : TE := tX C (relE C.K) f
abbrev tA (C : Cf) (f : Sm (List Ev)) : TA := tX C (relL C.K) f
abbrev tT (C : Cf) (f : Sm Bool) : TT := tX C relB f
section
variable {α β γ δ : Type} {C : Cf} {H0 H H' : Hp} {A m : List Addr} {M M' : Mem} {ρ : Env} {σ : L2.St} {P : List Addr} {rel : Hp → α → β → Prop}
theorem PX.step {r : R α} {Q : β → Hp → Prop} (s : Stp m H H') (h : PX C m σ rel H r Q) : PX C m σ rel H' r Q := by
  cases r with
  | ok d M' => exact fun H2 v s2 w t q => h H2 v (s.trans s2) w t q
  | exc c f M' => exact fun H2 cls d s2 w t q => h H2 cls d (s.trans s2) w t q
  | stuck => exact h
/-- a part is run, the rest behind it -/
theorem sub {rel1 : Rel α β} {rel2 : Hp → γ → δ → Prop} {f : Sm α} {k : α → Mem → R γ} {Q : δ → Hp → Prop} (F : FR C H0 A m M H ρ σ P) (h : PX C m σ rel2 H (bnd (f ρ M) k) Q) {G : β → Hp → Prop}
    (hk : ∀ d M1 H1 v, FR C H0 A m M1 H1 ρ σ P → Stp m H H1 → rel1 H0 A m H1 d v → PX C m σ rel2 H1 (k d M1) Q → G v H1) : tX C rel1 f σ H G := by
  refine ⟨H0, A, m, M, ρ, P, F, ?_⟩
  cases e : f ρ M with
  | ok d M1 =>
    rw [e] at h
    exact fun H1 v s w t q => hk d M1 H1 v (F.step s w t) s q (PX.step s h)
  | exc c g M1 => rw [e] at h; exact h
  | stuck => rw [e] at h; exact h
/-- a value is there -/
theorem PX.fin {d : α} {v : β} {Q : β → Hp → Prop} (h : PX C m σ rel H (.ok d M) Q) (F : FR C H0 A m M H ρ σ P) (r : rel H d v) : Q v H := h H v (Stp.refl m H) F.wr F.tb r
/-- a new object -/
theorem PX.made {d : α} {v : β} {Q : β → Hp → Prop} {p : Addr} {o : HO} (h : PX C m σ rel H (.ok d M) Q) (F : FR C H0 A m M H ρ σ P) (hp : H p = none) (r : rel (upd H p o) d v) : Q v (upd H p o) :=
  h _ v (Stp.upd hp) (F.wr.upd hp) (Tabs.upd F.tb hp) r
theorem Rp.grow {K : PySem.W.Frag} {d : D} {v : V} {p : Addr} {o : HO} (h : Rp K A m H d v) (hp : H p = none) : Rp K A m (upd H p o) d v :=
  Rp.step (B := []) (fun _ z => nomatch z) (fun _ z => nomatch z) (Stp.upd hp) d v h
theorem Rps.grow {K : PySem.W.Frag} {l : List D} {vs : List V} {p : Addr} {o : HO} (h : Rps K A m H l vs) (hp : H p = none) : Rps K A m (upd H p o) l vs :=
  Rps.step (B := []) (fun _ z => nomatch z) (fun _ z => nomatch z) (Stp.upd hp) l vs h
end
/-! ### expressions -/
section
variable {X : Cx} {T : List (Addr × Str)} {W : WX}
def eVar (i : Nat) : Sm Ev := fun ρ M => match ρ[i]? with
  | some (some x) => .ok (look x) M
  | _ => .stuck
theorem de_var (i : Nat) {x : Str} {pos : Pos} (hN : X.N[i]? = some x := by rfl) (hv : Vis X.env.scope x := by first | exact Or.inl rfl | exact Or.inr (Or.inl rfl) | exact Or.inr (Or.inr rfl)) (hd : (x == ("__debug__" : Str)) = false := by decide)
    (hcd : (x == ("__classdict__" : Str)) = false := by decide) : PE X (.Name x pos) (tE (cf X T W) (eVar i)) := by
  refine ⟨fun pins s σ H Q I h => (pe_var hN hv hd hcd).run pins s σ H Q I ?_⟩
  obtain ⟨H0, A, m, M, ρ, P, F, h⟩ := h
  unfold eVar at h
  cases e : ρ[i]? with
  | none => rw [e] at h; exact h.elim
  | some y =>
    cases y with
    | none => rw [e] at h; exact h.elim
    | some y =>
      rw [e] at h
      obtain ⟨v, P1, q1, q2, q3⟩ := ER.get F.er e
      exact ⟨v, q1, h.fin F (SlR.get_look q2 fun a ha => ⟨(F.own a (q3 a ha)).2.1, (F.own a (q3 a ha)).2.2⟩)⟩
def eC (x : D) : Sm Ev := fun _ M => .ok (.d x) M
theorem tE_C {x : D} {v : V} {σ : L2.St} {H : Hp} {Q : VK} (hx : ∀ A m H, Rp X.K A m H x v) (h : tE (cf X T W) (eC x) σ H Q) : Q v H := by
  obtain ⟨H0, A, m, M, ρ, P, F, h⟩ := h
  exact h.fin F (hx A m H)
theorem de_int {i j pos} : PE X (.Constant (.int i) j pos) (tE (cf X T W) (eC (.int i))) := ⟨fun pins s σ H Q I h => pe_int.run pins s σ H Q I (tE_C (x := .int i) (fun _ _ _ => rfl) h)⟩
theorem de_bl {b j pos} : PE X (.Constant (.bool b) j pos) (tE (cf X T W) (eC (.bl b))) := ⟨fun pins s σ H Q I h => pe_bl.run pins s σ H Q I (tE_C (x := .bl b) (fun _ _ _ => rfl) h)⟩
theorem de_non {j pos} : PE X (.Constant .none j pos) (tE (cf X T W) (eC .non)) := ⟨fun pins s σ H Q I h => pe_non.run pins s σ H Q I (tE_C (x := .non) (fun _ _ _ => rfl) h)⟩
theorem de_str {x j pos} : PE X (.Constant (.str x) j pos) (tE (cf X T W) (eC (.str x))) := ⟨fun pins s σ H Q I h => pe_str.run pins s σ H Q I (tE_C (x := .str x) (fun _ _ _ => rfl) h)⟩
/-- a constant of the module, a def, a class -/
theorem de_glob {x : Str} {d : D} {v : V} {u : Value} {pos : Pos} (hg : Gl X x) (hm : X.mg x = some u) (r : RelV v u) (hx : ∀ A m H, Rp X.K A m H d v) (hd : (x == ("__debug__" : Str)) = false := by decide) : PE X (.Name x pos) (tE (cf X T W) (eC d)) :=
  ⟨fun pins s σ H Q I h => (pe_glob hg hm r hd).run pins s σ H Q I (tE_C hx h)⟩
/-- a built-in class as a value -/
theorem de_ty {x : Str} {n : String} {pos : Pos} (hg : Gl X x) (hm : X.mg x = none) (hv : bootBuiltins x = some (.type n)) (hn : x ≠ "__name__" := by decide) (hd : (x == ("__debug__" : Str)) = false := by decide) : PE X (.Name x pos) (tE (cf X T W) (eC (.ty n))) :=
  ⟨fun pins s σ H Q I h => (pe_bltn (v := .ty n) hg hm hv rfl hn hd).run pins s σ H Q I (tE_C (x := .ty n) (fun _ _ _ => rfl) h)⟩
/-! two parts -/
def eBin (op : Ev → Ev → Mem → R Ev) (f g : Sm Ev) : Sm Ev := fun ρ M => bnd (f ρ M) fun a M1 => bnd (g ρ M1) fun b M2 => op a b M2
/-- what an operation asks is there -/
def OpOk (C : Cf) (op : Ev → Ev → Mem → R Ev) (r : R2) : Prop := ∀ H0 A m M H ρ σ P x y v w Q, FR C H0 A m M H ρ σ P → EvR C.K H0 A m H x v → EvR C.K H0 A m H y w → PX C m σ (EvR C.K H0 A m) H (op x y M) Q → r v w H Q
theorem tE_bin {op : Ev → Ev → Mem → R Ev} {f g : Sm Ev} {r : R2} {σ : L2.St} {H : Hp} {Q : VK} (ho : OpOk (cf X T W) op r) (h : tE (cf X T W) (eBin op f g) σ H Q) : tOp r (tE (cf X T W) f) (tE (cf X T W) g) σ H Q := by
  obtain ⟨H0, A, m, M, ρ, P, F, h⟩ := h
  refine sub F h fun a M1 H1 v F1 _ r1 h1 => ?_
  refine sub F1 h1 fun b M2 H2 w F2 s2 r2 h2 => ?_
  exact ho H0 A m M2 H2 ρ σ P a b v w Q F2 (EvR.step F1.wr.aok F1.ma s2 r1) r2 h2
end
end DL

set_option Elab.async false
set_option linter.all false
set_option maxRecDepth 100000
set_option maxHeartbeats 2000000
/-! The data layer: operators, comparisons, tests. -/
namespace DL
open PySem PySem.Spec PyProof.Rows L2
abbrev iv (i : Int) : Ev := .d (.int i)
abbrev bv (b : Bool) : Ev := .d (.bl b)
/-- a list's items -/
def lstOf : Ev → Option (List D)
  | .d (.lst l) => some l
  | .ls .own _ => none
  | .ls _ l => some l
  | _ => none
def tupOf : Ev → Option (List D)
  | .d (.tup l) => some l
  | _ => none
/-- a list's or a tuple's items -/
def seqOf : Ev → Option (List D)
  | .d (.tup l) => some l
  | .d (.lst l) => some l
  | .ls .own _ => none
  | .ls _ l => some l
  | _ => none
section
variable {K : PySem.W.Frag} {H0 H : Hp} {A m : List Addr} {x : Ev} {v : V} {l : List D}
theorem lstOf_at (h : lstOf x = some l) (r : EvR K H0 A m H x v) : ∃ a vs, v = .ref a ∧ H a = some (.lst vs) ∧ Rps K A m H l vs := by
  unfold lstOf at h
  split at h
  · cases h; obtain ⟨a, vs, e, hl, _, q⟩ := r; exact ⟨a, vs, e, hl, q⟩
  · cases h
  · rename_i md l' _
    cases h
    cases md with
    | vw => obtain ⟨a, vs, e, hl, _, _, q⟩ := r; exact ⟨a, vs, e, hl, q⟩
    | pv => obtain ⟨a, vs, e, hl, _, _, q⟩ := r; exact ⟨a, vs, e, hl, q⟩
    | own => exact r.elim
  · cases h
theorem tupOf_at (h : tupOf x = some l) (r : EvR K H0 A m H x v) : ∃ a vs, v = .ref a ∧ SqT K H a vs ∧ Rps K A m H l vs := by
  unfold tupOf at h
  split at h
  · cases h; obtain ⟨a, vs, e, hs, q⟩ := r; exact ⟨a, vs, e, SqT.of hs, q⟩
  · cases h
theorem seqOf_at (h : seqOf x = some l) (r : EvR K H0 A m H x v) : ∃ a vs, v = .ref a ∧ (SqL K H a vs ∨ SqT K H a vs) ∧ Rps K A m H l vs := by
  unfold seqOf at h
  split at h
  · cases h; obtain ⟨a, vs, e, hl, q⟩ := r; exact ⟨a, vs, e, .inr (SqT.of hl), q⟩
  · cases h; obtain ⟨a, vs, e, hl, _, q⟩ := r; exact ⟨a, vs, e, .inl (SqL.of hl), q⟩
  · cases h
  · rename_i md l' _
    cases h
    cases md with
    | vw => obtain ⟨a, vs, e, hl, _, _, q⟩ := r; exact ⟨a, vs, e, .inl (SqL.of hl), q⟩
    | pv => obtain ⟨a, vs, e, hl, _, _, q⟩ := r; exact ⟨a, vs, e, .inl (SqL.of hl), q⟩
    | own => exact r.elim
  · cases h
end
/-- as many as a list may have here -/
def most : Nat := 1000000
theorem most_line {n : Nat} (h : n ≤ most) : n ≤ sizeLine := by rw [sizeLine_eq]; unfold most at h; omega
/-- two ints -/
def opI2 (c : Int → Int → Prop) [∀ i j, Decidable (c i j)] (g : Int → Int → D) (a b : Ev) (M : Mem) : R Ev := match a, b with
  | .d (.int i), .d (.int j) => if c i j then .ok (.d (g i j)) M else .stuck
  | _, _ => .stuck
theorem opI2_ok {C : Cf} {c : Int → Int → Prop} [∀ i j, Decidable (c i j)] {g : Int → Int → D} {g' : Int → Int → V} (hg : ∀ A m H i j, Rp C.K A m H (g i j) (g' i j)) : OpOk C (opI2 c g) (rI c g') := by
  intro H0 A m M H ρ σ P x y v w Q F rx ry h
  unfold opI2 at h
  split at h
  · rename_i i j
    split at h
    · rename_i hc
      exact ⟨i, j, rx, ry, hc, h.fin F (hg A m H i j)⟩
    · exact h.elim
  · exact h.elim
theorem OpOk.orL {C : Cf} {op op' : Ev → Ev → Mem → R Ev} {r r' : R2} {p : Ev → Ev → Bool} (h : OpOk C op r) (h' : OpOk C op' r') : OpOk C (fun a b M => if p a b = true then op a b M else op' a b M) (fun x y H Q => r x y H Q ∨ r' x y H Q) := by
  intro H0 A m M H ρ σ P x y v w Q F rx ry q
  have q' : PX C m σ (EvR C.K H0 A m) H (if p x y = true then op x y M else op' x y M) Q := q
  split at q'
  · exact .inl (h H0 A m M H ρ σ P x y v w Q F rx ry q')
  · exact .inr (h' H0 A m M H ρ σ P x y v w Q F rx ry q')
theorem rI_of0 {C : Int → Int → Prop} {g : Int → Int → V} {x y : V} {H : Hp} {Q : VK} (h : rI C g x y H Q) : rI0 g x y H Q := by
  obtain ⟨i, j, e1, e2, _, q⟩ := h
  exact ⟨i, j, e1, e2, q⟩
def isI : Ev → Bool
  | .d (.int _) => true
  | _ => false
def isS : Ev → Bool
  | .d (.str _) => true
  | _ => false
def isT : Ev → Bool
  | .d (.tup _) => true
  | _ => false
/-! + -/
def opAddS (a b : Ev) (M : Mem) : R Ev := match a, b with
  | .d (.str s), .d (.str t) => if s.length + t.length ≤ most then .ok (.d (.str (s ++ t))) M else .stuck
  | _, _ => .stuck
def opAddT (a b : Ev) (M : Mem) : R Ev := match a, b with
  | .d (.tup s), .d (.tup t) => if s.length + t.length ≤ most then .ok (.d (.tup (s ++ t))) M else .stuck
  | _, _ => .stuck
def opAddL (a b : Ev) (M : Mem) : R Ev := match lstOf a, lstOf b with
  | some s, some t => if s.length + t.length ≤ most then .ok (.d (.lst (s ++ t))) M else .stuck
  | _, _ => .stuck
def opAdd (a b : Ev) (M : Mem) : R Ev := match a, b with
  | .d (.int i), .d (.int j) => .ok (iv (i + j)) M
  | .d (.str s), .d (.str t) => opAddS (.d (.str s)) (.d (.str t)) M
  | .d (.tup s), .d (.tup t) => opAddT (.d (.tup s)) (.d (.tup t)) M
  | a, b => opAddL a b M
def rAddA (K : PySem.W.Frag) : R2 := fun x y H Q => rI0 (fun i j => .int (i + j)) x y H Q ∨ (∃ i j, x = .str i ∧ y = .str j ∧ i.length + j.length ≤ sizeLine ∧ Q (.str (i ++ j)) H) ∨ rCatA K x y H Q ∨ rCat x y H Q
theorem op_addA {X : Cx} : OpR X (binaryOp .Add) (rAddA X.K) := op_add.or (op_add_str.or (op_catA.or op_cat))
theorem ok_addS {C : Cf} : OpOk C opAddS (fun x y H Q => ∃ i j, x = .str i ∧ y = .str j ∧ i.length + j.length ≤ sizeLine ∧ Q (.str (i ++ j)) H) := by
  intro H0 A m M H ρ σ P x y v w Q F rx ry h
  unfold opAddS at h
  split at h
  · rename_i s t
    split at h
    · rename_i hc
      exact ⟨s, t, rx, ry, most_line hc, h.fin F rfl⟩
    · exact h.elim
  · exact h.elim
theorem SqT.of' {K : PySem.W.Frag} {H : Hp} {p : Addr} {vs : List V} : SqT K (upd H p (.tup vs)) p vs := SqT.of upd_same
theorem ok_addT {C : Cf} : OpOk C opAddT (rCatA C.K) := by
  intro H0 A m M H ρ σ P x y v w Q F rx ry h
  unfold opAddT at h
  split at h
  · rename_i s t
    split at h
    · rename_i hc
      obtain ⟨a, vs, e, hs, r1⟩ := rx
      obtain ⟨b, ws, e2, ht, r2⟩ := ry
      refine ⟨a, b, vs, ws, e, e2, SqT.of hs, SqT.of ht, by rw [Rps.len r1, Rps.len r2]; exact most_line hc, fun z => ?_, fun _ z => ?_, fun _ _ p hp => ?_⟩
      · have q : Rps C.K A m H (s ++ t) (vs ++ ws) := Rps.app r1 r2
        rw [z, List.nil_append] at q
        exact h.fin F ⟨b, ws, rfl, ht, q⟩
      · have q : Rps C.K A m H (s ++ t) (vs ++ ws) := Rps.app r1 r2
        rw [z, List.append_nil] at q
        exact h.fin F ⟨a, vs, rfl, hs, q⟩
      · exact h.made F hp ⟨p, vs ++ ws, rfl, upd_same, (Rps.app r1 r2).grow hp⟩
    · exact h.elim
  · exact h.elim
/-- a new list that stands still -/
theorem newL {C : Cf} {H0 H : Hp} {A m : List Addr} {M : Mem} {ρ : Env} {σ : L2.St} {P : List Addr} {l : List D} {vs : List V} {p : Addr} (F : FR C H0 A m M H ρ σ P) (hp : H p = none) (r : Rps C.K A m H l vs) :
    Rp C.K A m (upd H p (.lst vs)) (.lst l) (.ref p) := ⟨p, vs, rfl, upd_same, F.new hp, r.grow hp⟩
theorem newT {C : Cf} {H : Hp} {A m : List Addr} {l : List D} {vs : List V} {p : Addr} (hp : H p = none) (r : Rps C.K A m H l vs) :
    Rp C.K A m (upd H p (.tup vs)) (.tup l) (.ref p) := ⟨p, vs, rfl, upd_same, r.grow hp⟩
theorem ok_addL {C : Cf} : OpOk C opAddL rCat := by
  intro H0 A m M H ρ σ P x y v w Q F rx ry h
  unfold opAddL at h
  cases e1 : lstOf x with
  | none => rw [e1] at h; exact h.elim
  | some s =>
    cases e2 : lstOf y with
    | none => rw [e1, e2] at h; exact h.elim
    | some t =>
      rw [e1, e2] at h
      obtain ⟨a, vs, e, hs, r1⟩ := lstOf_at e1 rx
      obtain ⟨b, ws, e', ht, r2⟩ := lstOf_at e2 ry
      have h' : PX C m σ (EvR C.K H0 A m) H (if s.length + t.length ≤ most then .ok (.d (.lst (s ++ t))) M else .stuck) Q := h
      split at h'
      · rename_i hc
        exact ⟨a, b, vs, ws, e, e', hs, ht, by rw [Rps.len r1, Rps.len r2]; exact most_line hc, fun p hp => h'.made F hp (newL F hp (Rps.app r1 r2))⟩
      · exact h'.elim
theorem ok_add {C : Cf} : OpOk C opAdd (rAddA C.K) := by
  intro H0 A m M H ρ σ P x y v w Q F rx ry h
  unfold opAdd at h
  split at h
  · rename_i i j
    exact .inl ⟨i, j, rx, ry, h.fin F rfl⟩
  · exact .inr (.inl (ok_addS H0 A m M H ρ σ P _ _ v w Q F rx ry h))
  · exact .inr (.inr (.inl (ok_addT H0 A m M H ρ σ P _ _ v w Q F rx ry h)))
  · exact .inr (.inr (.inr (ok_addL H0 A m M H ρ σ P _ _ v w Q F rx ry h)))
/-! - * // % ** << >> & | ^ -/
abbrev opSub : Ev → Ev → Mem → R Ev := opI2 (fun _ _ => True) (fun i j => .int (i - j))
theorem op_subT {X : Cx} : OpR X (binaryOp .Sub) (rI (fun _ _ => True) fun i j => .int (i - j)) := fun pins s σ H x y v u Q I rx ry h => op_sub pins s σ H x y v u Q I rx ry (rI_of0 h)
theorem ok_sub {C : Cf} : OpOk C opSub (rI (fun _ _ => True) fun i j => .int (i - j)) := opI2_ok fun _ _ _ _ _ => rfl
def cMul (i j : Int) : Prop := Builtin.Int.intBits i + Builtin.Int.intBits j ≤ 134217728
instance (i j : Int) : Decidable (cMul i j) := by unfold cMul; infer_instance
theorem op_mulI {X : Cx} : OpR X (binaryOp .Mult) (rI cMul fun i j => .int (i * j)) := fun pins s σ H x y v u Q I rx ry h => by
  obtain ⟨i, j, e1, e2, c, q⟩ := h
  refine op_mulX pins s σ H x y v u Q I rx ry ⟨i, j, e1, e2, ?_, q⟩
  unfold CMulX; unfold cMul at c; omega
/-- a list so often -/
def opMulL (a b : Ev) (M : Mem) : R Ev := match lstOf a, b with
  | some l, .d (.int k) => if -1000000 ≤ k ∧ k ≤ 1000000 ∧ l.length * k.toNat ≤ most then .ok (.d (.lst (List.replicate k.toNat l).flatten)) M else .stuck
  | _, _ => .stuck
theorem ok_mulL {C : Cf} : OpOk C opMulL rRep := by
  intro H0 A m M H ρ σ P x y v w Q F rx ry h
  unfold opMulL at h
  split at h
  · rename_i l k e1
    obtain ⟨a, vs, e, hs, r1⟩ := lstOf_at e1 rx
    split at h
    · rename_i hc
      exact ⟨a, k, vs, e, ry, hs, by omega, by omega, by rw [Rps.len r1]; exact most_line hc.2.2, fun p hp => h.made F hp (newL F hp (Rps.rep r1 _))⟩
    · exact h.elim
  · exact h.elim
def opMul (a b : Ev) (M : Mem) : R Ev := match a, b with
  | .d (.int i), .d (.int j) => if cMul i j then .ok (iv (i * j)) M else .stuck
  | a, b => opMulL a b M
theorem op_mulA {X : Cx} : OpR X (binaryOp .Mult) (fun x y H Q => rI cMul (fun i j => .int (i * j)) x y H Q ∨ rRep x y H Q) := op_mulI.or op_rep
theorem ok_mul {C : Cf} : OpOk C opMul (fun x y H Q => rI cMul (fun i j => .int (i * j)) x y H Q ∨ rRep x y H Q) := by
  intro H0 A m M H ρ σ P x y v w Q F rx ry h
  unfold opMul at h
  split at h
  · rename_i i j
    split at h
    · rename_i hc
      exact .inl ⟨i, j, rx, ry, hc, h.fin F rfl⟩
    · exact h.elim
  · exact .inr (ok_mulL H0 A m M H ρ σ P _ _ v w Q F rx ry h)
def cDiv (_ j : Int) : Prop := 0 < j ∧ j.natAbs.log2 < 9000
instance (i j : Int) : Decidable (cDiv i j) := by unfold cDiv; infer_instance
def cDivN (_ j : Int) : Prop := j < 0 ∧ j.natAbs < 1073741824
instance (i j : Int) : Decidable (cDivN i j) := by unfold cDivN; infer_instance
def opDiv (a b : Ev) (M : Mem) : R Ev := match a, b with
  | .d (.int i), .d (.int j) => if cDiv i j then .ok (iv (i / j)) M else if cDivN i j then .ok (iv (i.fdiv j)) M else .stuck
  | _, _ => .stuck
theorem op_divA {X : Cx} : OpR X (binaryOp .FloorDiv) (fun x y H Q => rI CDivW (fun i j => .int (i / j)) x y H Q ∨ rI CDivN (fun i j => .int (i.fdiv j)) x y H Q) := op_fdivW.or op_fdivN
theorem ok_div {C : Cf} : OpOk C opDiv (fun x y H Q => rI CDivW (fun i j => .int (i / j)) x y H Q ∨ rI CDivN (fun i j => .int (i.fdiv j)) x y H Q) := by
  intro H0 A m M H ρ σ P x y v w Q F rx ry h
  unfold opDiv at h
  split at h
  · rename_i i j
    split at h
    · rename_i hc
      exact .inl ⟨i, j, rx, ry, hc, h.fin F rfl⟩
    · split at h
      · rename_i hc
        exact .inr ⟨i, j, rx, ry, ⟨by unfold cDivN at hc; omega, hc.2⟩, h.fin F rfl⟩
      · exact h.elim
  · exact h.elim
def opMod (a b : Ev) (M : Mem) : R Ev := match a, b with
  | .d (.int i), .d (.int j) => if 0 < j then .ok (iv (i % j)) M else if j ≠ 0 then .ok (iv (i.fmod j)) M else .stuck
  | _, _ => .stuck
theorem op_modA {X : Cx} : OpR X (binaryOp .Mod) (fun x y H Q => rI (fun _ j => 0 < j) (fun i j => .int (i % j)) x y H Q ∨ rI (fun _ j => j ≠ 0) (fun i j => .int (i.fmod j)) x y H Q) := op_mod.or op_modN
theorem ok_mod {C : Cf} : OpOk C opMod (fun x y H Q => rI (fun _ j => 0 < j) (fun i j => .int (i % j)) x y H Q ∨ rI (fun _ j => j ≠ 0) (fun i j => .int (i.fmod j)) x y H Q) := by
  intro H0 A m M H ρ σ P x y v w Q F rx ry h
  unfold opMod at h
  split at h
  · rename_i i j
    split at h
    · rename_i hc
      exact .inl ⟨i, j, rx, ry, hc, h.fin F rfl⟩
    · split at h
      · rename_i hc
        exact .inr ⟨i, j, rx, ry, hc, h.fin F rfl⟩
      · exact h.elim
  · exact h.elim
instance (i j : Int) : Decidable (CPow i j) := by unfold CPow; infer_instance
abbrev opPow : Ev → Ev → Mem → R Ev := opI2 CPow (fun i j => .int (i ^ j.toNat))
theorem ok_pow {C : Cf} : OpOk C opPow (rI CPow fun i j => .int (i ^ j.toNat)) := opI2_ok fun _ _ _ _ _ => rfl
instance (i j : Int) : Decidable (CShl i j) := by unfold CShl; infer_instance
abbrev opShl : Ev → Ev → Mem → R Ev := opI2 CShl (fun i j => .int (i * 2 ^ j.toNat))
theorem ok_shl {C : Cf} : OpOk C opShl (rI CShl fun i j => .int (i * 2 ^ j.toNat)) := opI2_ok fun _ _ _ _ _ => rfl
abbrev opShr : Ev → Ev → Mem → R Ev := opI2 (fun _ j => 0 ≤ j) (fun i j => .int (i / 2 ^ j.toNat))
theorem ok_shr {C : Cf} : OpOk C opShr (rI (fun _ j => 0 ≤ j) fun i j => .int (i / 2 ^ j.toNat)) := opI2_ok fun _ _ _ _ _ => rfl
abbrev opAnd : Ev → Ev → Mem → R Ev := opI2 (fun _ _ => True) (fun i j => .int (Builtin.bitAnd i j))
abbrev opOr : Ev → Ev → Mem → R Ev := opI2 (fun _ _ => True) (fun i j => .int (Builtin.bitOr i j))
abbrev opXor : Ev → Ev → Mem → R Ev := opI2 (fun _ _ => True) (fun i j => .int (Builtin.bitXor i j))
theorem op_of0 {X : Cx} {f : Value → Value → Sem Value} {g : Int → Int → V} (h : OpR X f (rI0 g)) : OpR X f (rI (fun _ _ => True) g) := fun pins s σ H x y v u Q I rx ry q => h pins s σ H x y v u Q I rx ry (rI_of0 q)
theorem ok_and {C : Cf} : OpOk C opAnd (rI (fun _ _ => True) fun i j => .int (Builtin.bitAnd i j)) := opI2_ok fun _ _ _ _ _ => rfl
theorem ok_or {C : Cf} : OpOk C opOr (rI (fun _ _ => True) fun i j => .int (Builtin.bitOr i j)) := opI2_ok fun _ _ _ _ _ => rfl
theorem ok_xor {C : Cf} : OpOk C opXor (rI (fun _ _ => True) fun i j => .int (Builtin.bitXor i j)) := opI2_ok fun _ _ _ _ _ => rfl
section
variable {X : Cx} {T : List (Addr × Str)} {W : WX} {a b c : Expr} {f g h : Sm Ev} {pos : Pos}
theorem de_op {op : Operator} {o : Ev → Ev → Mem → R Ev} {r : R2} (h1 : OpR X (binaryOp op) r) (h2 : OpOk (cf X T W) o r) (ha : PE X a (tE (cf X T W) f)) (hb : PE X b (tE (cf X T W) g)) : PE X (.BinOp a op b pos) (tE (cf X T W) (eBin o f g)) :=
  ⟨fun pins s σ H Q I q => (pe_op h1 ha hb).run pins s σ H Q I (tE_bin h2 q)⟩
theorem de_add (ha : PE X a (tE (cf X T W) f)) (hb : PE X b (tE (cf X T W) g)) : PE X (.BinOp a .Add b pos) (tE (cf X T W) (eBin opAdd f g)) := de_op op_addA ok_add ha hb
theorem de_sub (ha : PE X a (tE (cf X T W) f)) (hb : PE X b (tE (cf X T W) g)) : PE X (.BinOp a .Sub b pos) (tE (cf X T W) (eBin opSub f g)) := de_op op_subT ok_sub ha hb
theorem de_mul (ha : PE X a (tE (cf X T W) f)) (hb : PE X b (tE (cf X T W) g)) : PE X (.BinOp a .Mult b pos) (tE (cf X T W) (eBin opMul f g)) := de_op op_mulA ok_mul ha hb
theorem de_div (ha : PE X a (tE (cf X T W) f)) (hb : PE X b (tE (cf X T W) g)) : PE X (.BinOp a .FloorDiv b pos) (tE (cf X T W) (eBin opDiv f g)) := de_op op_divA ok_div ha hb
theorem de_mod (ha : PE X a (tE (cf X T W) f)) (hb : PE X b (tE (cf X T W) g)) : PE X (.BinOp a .Mod b pos) (tE (cf X T W) (eBin opMod f g)) := de_op op_modA ok_mod ha hb
theorem de_pow (ha : PE X a (tE (cf X T W) f)) (hb : PE X b (tE (cf X T W) g)) : PE X (.BinOp a .Pow b pos) (tE (cf X T W) (eBin opPow f g)) := de_op op_pow ok_pow ha hb
theorem de_shl (ha : PE X a (tE (cf X T W) f)) (hb : PE X b (tE (cf X T W) g)) : PE X (.BinOp a .LShift b pos) (tE (cf X T W) (eBin opShl f g)) := de_op op_shlW ok_shl ha hb
theorem de_shr (ha : PE X a (tE (cf X T W) f)) (hb : PE X b (tE (cf X T W) g)) : PE X (.BinOp a .RShift b pos) (tE (cf X T W) (eBin opShr f g)) := de_op op_shr ok_shr ha hb
theorem de_band (ha : PE X a (tE (cf X T W) f)) (hb : PE X b (tE (cf X T W) g)) : PE X (.BinOp a .BitAnd b pos) (tE (cf X T W) (eBin opAnd f g)) := de_op (op_of0 op_and) ok_and ha hb
theorem de_bor (ha : PE X a (tE (cf X T W) f)) (hb : PE X b (tE (cf X T W) g)) : PE X (.BinOp a .BitOr b pos) (tE (cf X T W) (eBin opOr f g)) := de_op (op_of0 op_or) ok_or ha hb
theorem de_bxor (ha : PE X a (tE (cf X T W) f)) (hb : PE X b (tE (cf X T W) g)) : PE X (.BinOp a .BitXor b pos) (tE (cf X T W) (eBin opXor f g)) := de_op (op_of0 op_xor) ok_xor ha hb
/-! -a, ~a -/
def eUn (o : Ev → Mem → R Ev) (f : Sm Ev) : Sm Ev := fun ρ M => bnd (f ρ M) fun a M1 => o a M1
def unNeg (a : Ev) (M : Mem) : R Ev := match a with
  | .d (.int i) => .ok (iv (-i)) M
  | _ => .stuck
def unInv (a : Ev) (M : Mem) : R Ev := match a with
  | .d (.int i) => .ok (iv (Builtin.bitNot i)) M
  | _ => .stuck
theorem de_neg (ha : PE X a (tE (cf X T W) f)) : PE X (.UnaryOp .USub a pos) (tE (cf X T W) (eUn unNeg f)) := by
  refine ⟨fun pins s σ H Q I q => (pe_un un_neg ha).run pins s σ H Q I ?_⟩
  obtain ⟨H0, A, m, M, ρ, P, F, h⟩ := q
  refine sub F h fun a M1 H1 v F1 _ r1 h1 => ?_
  unfold unNeg at h1
  split at h1
  · rename_i i; exact ⟨i, r1, h1.fin F1 rfl⟩
  · exact h1.elim
theorem de_inv (ha : PE X a (tE (cf X T W) f)) : PE X (.UnaryOp .Invert a pos) (tE (cf X T W) (eUn unInv f)) := by
  refine ⟨fun pins s σ H Q I q => (pe_un un_inv ha).run pins s σ H Q I ?_⟩
  obtain ⟨H0, A, m, M, ρ, P, F, h⟩ := q
  refine sub F h fun a M1 H1 v F1 _ r1 h1 => ?_
  unfold unInv at h1
  split at h1
  · rename_i i; exact ⟨i, r1, h1.fin F1 rfl⟩
  · exact h1.elim
end
end DL

set_option Elab.async false
set_option linter.all false
set_option maxRecDepth 100000
set_option maxHeartbeats 2000000
/-! The data layer: comparisons, tests, and, or, not. -/
namespace DL
open PySem PySem.Spec PyProof.Rows L2
/-! ### a value as plain data -/
mutual
def D.py : D → PyData
  | .non => .none
  | .bl b => .bool b
  | .int i => .int i
  | .str s => .str s
  | .tup l => .tuple (D.pyL l)
  | .lst l => .list (D.pyL l)
  | _ => .dict []
def D.pyL : List D → List PyData
  | [] => []
  | d :: l => D.py d :: D.pyL l
end
def Ev.py : Ev → PyData
  | .d x => x.py
  | .ls _ l => .list (D.pyL l)
  | _ => .dict []
section
variable {K : PySem.W.Frag} {H0 H : Hp} {A m : List Addr}
mutual
theorem dp_of : ∀ (d : D) (v : V), d.py.canLay0 = true → Rp K A m H d v → Dp K H v d.py
  | .non, _, _, h => by cases (show _ = V.non from h); exact .non
  | .bl b, _, _, h => by cases (show _ = V.bl b from h); exact .bl b
  | .int i, _, _, h => by cases (show _ = V.int i from h); exact .int i
  | .str s, _, _, h => by cases (show _ = V.str s from h); exact .str s
  | .tup l, _, c, ⟨a, vs, e, hs, r⟩ => by cases e; exact .tup (SqT.of hs) (dp_ofL l vs c r)
  | .lst l, _, c, ⟨a, vs, e, hs, _, r⟩ => by cases e; exact .lst (SqL.of hs) (dp_ofL l vs c r)
  | .ty _, _, c, _ => by cases c
  | .at _, _, c, _ => by cases c
  | .ob _, _, c, _ => by cases c
  | .sc _, _, c, _ => by cases c
  | .dK _ _, _, c, _ => by cases c
  | .dT _ _, _, c, _ => by cases c
theorem dp_ofL : ∀ (l : List D) (vs : List V), PyData.canLayAll0 (D.pyL l) = true → Rps K A m H l vs → DpAll K H vs (D.pyL l)
  | [], _, _, h => by cases (show _ = [] from h); exact .nil
  | d :: l, _, c, ⟨v, r, e, h1, h2⟩ => by
    cases e
    have c' : (d.py.canLay0 && PyData.canLayAll0 (D.pyL l)) = true := c
    rw [Bool.and_eq_true] at c'
    exact .cons (dp_of d v c'.1 h1) (dp_ofL l r c'.2 h2)
end
theorem dp_ofE {x : Ev} {v : V} (c : x.py.canLay0 = true) (r : EvR K H0 A m H x v) : Dp K H v x.py := by
  cases x with
  | d x => exact dp_of x v c r
  | ls md l =>
    cases md with
    | vw => obtain ⟨a, vs, e, hl, _, _, q⟩ := r; cases e; exact .lst (SqL.of hl) (dp_ofL l vs c q)
    | pv => obtain ⟨a, vs, e, hl, _, _, q⟩ := r; cases e; exact .lst (SqL.of hl) (dp_ofL l vs c q)
    | own => exact r.elim
  | rw _ _ => cases c
  | dk _ _ _ => cases c
  | dt _ _ _ => cases c
end
/-! ### ==, != -/
def eqR (a b : Ev) : Option Bool := match a, b with
  | .d (.int i), .d (.int j) => some (decide (i = j))
  | .d (.str i), .d (.str j) => some (decide (i = j))
  | a, b => if SeqAt.shaped a.py = true ∧ SeqAt.shaped b.py = true then some (PyData.eqv a.py b.py) else none
def opEq (neg : Bool) (a b : Ev) (M : Mem) : R Ev := match eqR a b with
  | some k => .ok (bv (if neg then !k else k)) M
  | none => .stuck
theorem ok_eq {C : Cf} : OpOk C (opEq false) (fun x y H Q => rEq x y H Q ∨ rEqD C.K x y H Q) := by
  intro H0 A m M H ρ σ P x y v w Q F rx ry h
  unfold opEq eqR at h
  split at h
  · rename_i k hk
    split at hk
    · rename_i i j
      cases hk
      cases (show v = V.int i from rx); cases (show w = V.int j from ry)
      refine .inl ⟨rfl, ?_⟩
      have e : decide ((V.int i) = V.int j) = decide (i = j) := by simp
      rw [e]; exact h.fin F rfl
    · rename_i i j
      cases hk
      cases (show v = V.str i from rx); cases (show w = V.str j from ry)
      refine .inl ⟨rfl, ?_⟩
      have e : decide ((V.str i) = V.str j) = decide (i = j) := by simp
      rw [e]; exact h.fin F rfl
    · split at hk
      · rename_i hc
        cases hk
        exact .inr ⟨_, _, dp_ofE (SeqAt.canLay_of_shaped hc.1) rx, dp_ofE (SeqAt.canLay_of_shaped hc.2) ry, hc.1, hc.2, h.fin F rfl⟩
      · cases hk
  · exact h.elim
theorem ok_ne {C : Cf} : OpOk C (opEq true) (fun x y H Q => rNe x y H Q ∨ rNeD C.K x y H Q) := by
  intro H0 A m M H ρ σ P x y v w Q F rx ry h
  unfold opEq eqR at h
  split at h
  · rename_i k hk
    split at hk
    · rename_i i j
      cases hk
      cases (show v = V.int i from rx); cases (show w = V.int j from ry)
      refine .inl ⟨rfl, ?_⟩
      have e : (!decide ((V.int i) = V.int j)) = (!decide (i = j)) := by simp
      rw [e]; exact h.fin F rfl
    · rename_i i j
      cases hk
      cases (show v = V.str i from rx); cases (show w = V.str j from ry)
      refine .inl ⟨rfl, ?_⟩
      have e : (!decide ((V.str i) = V.str j)) = (!decide (i = j)) := by simp
      rw [e]; exact h.fin F rfl
    · split at hk
      · rename_i hc
        cases hk
        exact .inr ⟨_, _, dp_ofE (SeqAt.canLay_of_shaped hc.1) rx, dp_ofE (SeqAt.canLay_of_shaped hc.2) ry, hc.1, hc.2, h.fin F rfl⟩
      · cases hk
  · exact h.elim
/-! ### < <= > >= -/
def toInts : List D → Option (List Int)
  | [] => some []
  | .int i :: l => (toInts l).map (i :: ·)
  | _ => none
theorem toInts_map : ∀ {l : List D} {ns : List Int}, toInts l = some ns → l = ns.map D.int
  | [], _, h => by cases h; rfl
  | .int i :: l, ns, h => by
    unfold toInts at h
    cases e : toInts l with
    | none => rw [e] at h; cases h
    | some r => rw [e] at h; cases h; rw [toInts_map e]; rfl
  | .non :: _, _, h => by cases h
  | .bl _ :: _, _, h => by cases h
  | .str _ :: _, _, h => by cases h
  | .ty _ :: _, _, h => by cases h
  | .at _ :: _, _, h => by cases h
  | .ob _ :: _, _, h => by cases h
  | .sc _ :: _, _, h => by cases h
  | .tup _ :: _, _, h => by cases h
  | .lst _ :: _, _, h => by cases h
  | .dK _ _ :: _, _, h => by cases h
  | .dT _ _ :: _, _, h => by cases h
theorem toInts_ints : ∀ (ns : List Int), toInts (ns.map D.int) = some ns
  | [] => rfl
  | n :: ns => by rw [List.map_cons]; unfold toInts; rw [toInts_ints ns]; rfl
def opLt (a b : Ev) (M : Mem) : R Ev := match a, b with
  | .d (.int i), .d (.int j) => .ok (bv (decide (i < j))) M
  | .d (.str i), .d (.str j) => .ok (bv (decide (i.cps.toList < j.cps.toList))) M
  | .d (.tup s), .d (.tup t) => match toInts s, toInts t with
    | some ns, some ms => .ok (bv (HT.lexLt ns ms)) M
    | _, _ => .stuck
  | _, _ => .stuck
theorem ok_lt {C : Cf} : OpOk C opLt (fun x y H Q => rI0 (fun i j => .bl (decide (i < j))) x y H Q ∨ (∃ i j, x = .str i ∧ y = .str j ∧ Q (.bl (decide (i.cps.toList < j.cps.toList))) H) ∨ rLtT C.K x y H Q) := by
  intro H0 A m M H ρ σ P x y v w Q F rx ry h
  unfold opLt at h
  split at h
  · rename_i i j; exact .inl ⟨i, j, rx, ry, h.fin F rfl⟩
  · rename_i i j; exact .inr (.inl ⟨i, j, rx, ry, h.fin F rfl⟩)
  · rename_i s t
    split at h
    · rename_i ns ms e1 e2
      have es := toInts_map e1
      have et := toInts_map e2
      subst es; subst et
      obtain ⟨a, vs, e, hs, r1⟩ := rx
      obtain ⟨b, ws, e', ht, r2⟩ := ry
      rw [Rps.ints r1] at hs
      rw [Rps.ints r2] at ht
      exact .inr (.inr ⟨a, b, ns, ms, e, e', SqT.of hs, SqT.of ht, h.fin F rfl⟩)
    · exact h.elim
  · exact h.elim
abbrev opLe : Ev → Ev → Mem → R Ev := opI2 (fun _ _ => True) (fun i j => .bl (decide (i ≤ j)))
abbrev opGt : Ev → Ev → Mem → R Ev := opI2 (fun _ _ => True) (fun i j => .bl (decide (j < i)))
abbrev opGe : Ev → Ev → Mem → R Ev := opI2 (fun _ _ => True) (fun i j => .bl (decide (j ≤ i)))
theorem ok_le {C : Cf} : OpOk C opLe (rI (fun _ _ => True) fun i j => .bl (decide (i ≤ j))) := opI2_ok fun _ _ _ _ _ => rfl
theorem ok_gt {C : Cf} : OpOk C opGt (rI (fun _ _ => True) fun i j => .bl (decide (j < i))) := opI2_ok fun _ _ _ _ _ => rfl
theorem ok_ge {C : Cf} : OpOk C opGe (rI (fun _ _ => True) fun i j => .bl (decide (j ≤ i))) := opI2_ok fun _ _ _ _ _ => rfl
/-! ### is None, is True -/
def isNon : Ev → Bool
  | .d .non => true
  | _ => false
def isB : Ev → Option Bool
  | .d (.bl b) => some b
  | _ => none
def opIs (neg : Bool) (a b : Ev) (M : Mem) : R Ev := match b with
  | .d .non => .ok (bv (if neg then !isNon a else isNon a)) M
  | .d (.bl c) => match isB a with
    | some k => .ok (bv (if neg then !decide (k = c) else decide (k = c))) M
    | none => .stuck
  | _ => .stuck
theorem isNon_rel {K : PySem.W.Frag} {H0 H : Hp} {A m : List Addr} {x : Ev} {v : V} (r : EvR K H0 A m H x v) : decide (v = V.non) = isNon x := by
  cases x with
  | d x =>
    cases x with
    | non => cases (show v = V.non from r); rfl
    | bl b => cases (show v = V.bl b from r); rfl
    | int b => cases (show v = V.int b from r); rfl
    | str b => cases (show v = V.str b from r); rfl
    | ty b => cases (show v = V.ty b from r); rfl
    | «at» b => cases (show v = V.ref b from r); rfl
    | ob b => obtain ⟨a, _, e⟩ := r; cases e; rfl
    | sc b => obtain ⟨a, e, _⟩ := r; cases e; rfl
    | tup l => obtain ⟨a, vs, e, _⟩ := r; cases e; rfl
    | lst l => obtain ⟨a, vs, e, _⟩ := r; cases e; rfl
    | dK ks l => obtain ⟨a, vs, e, _⟩ := r; cases e; rfl
    | dT ks l => obtain ⟨a, vs, e, _⟩ := r; cases e; rfl
  | ls md l => cases md <;> first | exact r.elim | (obtain ⟨a, vs, e, _⟩ := r; cases e; rfl)
  | rw md l => cases md <;> first | exact r.elim | (obtain ⟨a, vs, e, _⟩ := r; cases e; rfl)
  | dk md ks l => cases md <;> first | exact r.elim | (obtain ⟨a, vs, e, _⟩ := r; cases e; rfl)
  | dt md ks l => cases md <;> first | exact r.elim | (obtain ⟨a, vs, e, _⟩ := r; cases e; rfl)
theorem isB_rel {K : PySem.W.Frag} {H0 H : Hp} {A m : List Addr} {x : Ev} {v : V} {k : Bool} (e : isB x = some k) (r : EvR K H0 A m H x v) : v = .bl k := by
  unfold isB at e
  split at e
  · cases e; exact r
  · cases e
def rIs : R2 := fun x y H Q => (y = .non ∧ Q (.bl (decide (x = .non))) H) ∨ rIsB x y H Q
def rIsNot : R2 := fun x y H Q => (y = .non ∧ Q (.bl (!decide (x = .non))) H) ∨ rNotB x y H Q
theorem op_isA {X : Cx} : OpR X (compareOp .Is) rIs := op_isN.or op_isBl
theorem op_isnotA {X : Cx} : OpR X (compareOp .IsNot) rIsNot := op_notN.or op_notBl
theorem ok_is {C : Cf} : OpOk C (opIs false) rIs := by
  intro H0 A m M H ρ σ P x y v w Q F rx ry h
  unfold opIs at h
  split at h
  · refine .inl ⟨ry, ?_⟩
    rw [isNon_rel rx]; exact h.fin F rfl
  · rename_i c
    split at h
    · rename_i k hk
      exact .inr ⟨k, c, isB_rel hk rx, ry, h.fin F rfl⟩
    · exact h.elim
  · exact h.elim
theorem ok_isnot {C : Cf} : OpOk C (opIs true) rIsNot := by
  intro H0 A m M H ρ σ P x y v w Q F rx ry h
  unfold opIs at h
  split at h
  · refine .inl ⟨ry, ?_⟩
    rw [isNon_rel rx]; exact h.fin F rfl
  · rename_i c
    split at h
    · rename_i k hk
      exact .inr ⟨k, c, isB_rel hk rx, ry, h.fin F rfl⟩
    · exact h.elim
  · exact h.elim
/-! ### the comparisons as values, as tests -/
section
variable {X : Cx} {T : List (Addr × Str)} {W : WX} {a b c : Expr} {f g h : Sm Ev} {pos : Pos}
theorem de_cmpR {op : CmpOp} {o : Ev → Ev → Mem → R Ev} {r : R2} (h1 : OpR X (compareOp op) r) (h2 : OpOk (cf X T W) o r) (ha : PE X a (tE (cf X T W) f)) (hb : PE X b (tE (cf X T W) g)) (hm : behindInMarks op b = false) : PE X (.Compare a [op] [b] pos) (tE (cf X T W) (eBin o f g)) :=
  ⟨fun pins s σ H Q I q => (pe_cmpR h1 ha hb hm).run pins s σ H Q I (tE_bin h2 q)⟩
/-- a value that is a truth, as one -/
def asB (r : R Ev) : R Bool := bnd r fun x M => match x with
  | .d (.bl b) => .ok b M
  | _ => .stuck
theorem bnd_bnd {α β γ : Type} (r : R α) (k : α → Mem → R β) (k' : β → Mem → R γ) : bnd (bnd r k) k' = bnd r fun a M => bnd (k a M) k' := by cases r <;> rfl
def tCmpE (o : Ev → Ev → Mem → R Ev) (f g : Sm Ev) : Sm Bool := fun ρ M => asB (eBin o f g ρ M)
theorem asB_run {C : Cf} {H0 H : Hp} {A m : List Addr} {M : Mem} {ρ : Env} {σ : L2.St} {P : List Addr} {f : Sm Ev} {Q : Bool → Hp → Prop} (F : FR C H0 A m M H ρ σ P) (h : PX C m σ (relB H0 A m) H (asB (f ρ M)) Q) :
    tE C f σ H fun x H1 => ∃ k, x = .bl k ∧ Q k H1 := by
  refine sub F h fun d M1 H1 v F1 _ r1 h1 => ?_
  split at h1
  · rename_i b; exact ⟨b, r1, h1.fin F1 rfl⟩
  · exact h1.elim
theorem dt_cmpR {op : CmpOp} {o : Ev → Ev → Mem → R Ev} {r : R2} (h1 : OpR X (compareOp op) r) (h2 : OpOk (cf X T W) o r) (ha : PE X a (tE (cf X T W) f)) (hb : PE X b (tE (cf X T W) g)) (hm : behindInMarks op b = false) : PT X (.Compare a [op] [b] pos) (tT (cf X T W) (tCmpE o f g)) := by
  refine ⟨fun pins s σ H Q I q => (pt_cmpR h1 ha hb hm).run pins s σ H Q I ?_⟩
  obtain ⟨H0, A, m, M, ρ, P, F, q⟩ := q
  exact tE_bin h2 (asB_run F q)
variable (hu : X.A.units + 64 < cLine)
include hu in
theorem op_eqA : OpR X (compareOp .Eq) (fun x y H Q => rEq x y H Q ∨ rEqD X.K x y H Q) := op_eq.or (op_eqD hu)
include hu in
theorem op_neA : OpR X (compareOp .NotEq) (fun x y H Q => rNe x y H Q ∨ rNeD X.K x y H Q) := op_ne.or (op_neD hu)
include hu in
theorem op_ltA : OpR X (compareOp .Lt) (fun x y H Q => rI0 (fun i j => .bl (decide (i < j))) x y H Q ∨ (∃ i j, x = .str i ∧ y = .str j ∧ Q (.bl (decide (i.cps.toList < j.cps.toList))) H) ∨ rLtT X.K x y H Q) := op_lt.or (op_lt_str.or (op_ltT (by omega)))
/-- what a comparison is worth -/
structure CmpIs (X : Cx) (T : List (Addr × Str)) (W : WX) (op : CmpOp) (o : Ev → Ev → Mem → R Ev) : Prop where
  ex : ∃ r, OpR X (compareOp op) r ∧ OpOk (cf X T W) o r
include hu in
theorem ci_eq : CmpIs X T W .Eq (opEq false) := ⟨_, op_eqA hu, ok_eq⟩
include hu in
theorem ci_ne : CmpIs X T W .NotEq (opEq true) := ⟨_, op_neA hu, ok_ne⟩
include hu in
theorem ci_lt : CmpIs X T W .Lt opLt := ⟨_, op_ltA hu, ok_lt⟩
theorem ci_le : CmpIs X T W .LtE opLe := ⟨_, op_of0 op_le, ok_le⟩
theorem ci_gt : CmpIs X T W .Gt opGt := ⟨_, op_of0 op_gt, ok_gt⟩
theorem ci_ge : CmpIs X T W .GtE opGe := ⟨_, op_of0 op_ge, ok_ge⟩
theorem ci_is : CmpIs X T W .Is (opIs false) := ⟨_, op_isA, ok_is⟩
theorem ci_isnot : CmpIs X T W .IsNot (opIs true) := ⟨_, op_isnotA, ok_isnot⟩
theorem de_cmp {op : CmpOp} {o : Ev → Ev → Mem → R Ev} (ci : CmpIs X T W op o) (ha : PE X a (tE (cf X T W) f)) (hb : PE X b (tE (cf X T W) g)) (hm : behindInMarks op b = false := by exact nomark _) : PE X (.Compare a [op] [b] pos) (tE (cf X T W) (eBin o f g)) := by
  obtain ⟨r, h1, h2⟩ := ci.ex
  exact de_cmpR h1 h2 ha hb hm
theorem dt_cmp {op : CmpOp} {o : Ev → Ev → Mem → R Ev} (ci : CmpIs X T W op o) (ha : PE X a (tE (cf X T W) f)) (hb : PE X b (tE (cf X T W) g)) (hm : behindInMarks op b = false := by exact nomark _) : PT X (.Compare a [op] [b] pos) (tT (cf X T W) (tCmpE o f g)) := by
  obtain ⟨r, h1, h2⟩ := ci.ex
  exact dt_cmpR h1 h2 ha hb hm
/-! a op1 b op2 c -/
def eChain (o o' : Ev → Ev → Mem → R Ev) (f g h : Sm Ev) : Sm Ev := fun ρ M => bnd (f ρ M) fun a M1 => bnd (g ρ M1) fun b M2 => bnd (o a b M2) fun z M3 => match z with
  | .d (.bl true) => bnd (h ρ M3) fun c M4 => o' b c M4
  | .d (.bl false) => .ok (bv false) M3
  | _ => .stuck
theorem OpOk.bnd {C : Cf} {o : Ev → Ev → Mem → R Ev} {r : R2} (h2 : OpOk C o r) {H0 H : Hp} {A m : List Addr} {M : Mem} {ρ : Env} {σ : L2.St} {P : List Addr} {x y : Ev} {v w : V} {k : Ev → Mem → R Ev} {Q G : VK} (F : FR C H0 A m M H ρ σ P) (rx : EvR C.K H0 A m H x v) (ry : EvR C.K H0 A m H y w)
    (h : PX C m σ (EvR C.K H0 A m) H (bnd (o x y M) k) Q) (hk : ∀ z M1 H1 u, FR C H0 A m M1 H1 ρ σ P → Stp m H H1 → EvR C.K H0 A m H1 z u → PX C m σ (EvR C.K H0 A m) H1 (k z M1) Q → G u H1) : r v w H G := by
  refine h2 H0 A m M H ρ σ P x y v w G F rx ry ?_
  cases e : o x y M with
  | ok d M1 =>
    rw [e] at h
    exact fun H1 u s w t q => hk d M1 H1 u (F.step s w t) s q (PX.step s h)
  | exc c g M1 => rw [e] at h; exact h
  | stuck => rw [e] at h; exact h
theorem chain_run {op op' : CmpOp} {o o' : Ev → Ev → Mem → R Ev} {r r' : R2} (h2 : OpOk (cf X T W) o r) (h2' : OpOk (cf X T W) o' r') {σ : L2.St} {H : Hp} {Q : VK} (q : tE (cf X T W) (eChain o o' f g h) σ H Q) :
    tChain r r' (tE (cf X T W) f) (tE (cf X T W) g) (tE (cf X T W) h) σ H Q := by
  obtain ⟨H0, A, m, M, ρ, P, F, q⟩ := q
  refine sub F q fun x M1 H1 v F1 _ r1 q1 => ?_
  refine sub F1 q1 fun y M2 H2 w F2 s2 r2 q2 => ?_
  refine h2.bnd F2 (EvR.step F1.wr.aok F1.ma s2 r1) r2 q2 fun z M3 H3 u F3 s3 r3 q3 => ?_
  split at q3
  · refine ⟨true, r3, ?_⟩
    rw [if_pos rfl]
    refine sub F3 q3 fun c M4 H4 w' F4 s4 r4 q4 => ?_
    exact h2' H0 A m M4 H4 ρ σ P _ _ w w' Q F4 (EvR.step F3.wr.aok F3.ma s4 (EvR.step F2.wr.aok F2.ma s3 r2)) r4 q4
  · refine ⟨false, r3, ?_⟩
    rw [if_neg (by decide)]
    exact q3.fin F3 rfl
  · exact q3.elim
theorem de_chain {op op' : CmpOp} {o o' : Ev → Ev → Mem → R Ev} (ci : CmpIs X T W op o) (ci' : CmpIs X T W op' o') (ha : PE X a (tE (cf X T W) f)) (hb : PE X b (tE (cf X T W) g)) (hc : PE X c (tE (cf X T W) h))
    (hm : lastMarks [op, op'] [b, c] = false := by with_unfolding_all rfl) : PE X (.Compare a [op, op'] [b, c] pos) (tE (cf X T W) (eChain o o' f g h)) := by
  obtain ⟨r, h1, h2⟩ := ci.ex
  obtain ⟨r', h1', h2'⟩ := ci'.ex
  exact ⟨fun pins s σ H Q I q => (pe_chain h1 h1' ha hb hc hm).run pins s σ H Q I (chain_run (op := op) (op' := op') h2 h2' q)⟩
def tChainE (o o' : Ev → Ev → Mem → R Ev) (f g h : Sm Ev) : Sm Bool := fun ρ M => asB (eChain o o' f g h ρ M)
theorem dt_chain {op op' : CmpOp} {o o' : Ev → Ev → Mem → R Ev} (ci : CmpIs X T W op o) (ci' : CmpIs X T W op' o') (ha : PE X a (tE (cf X T W) f)) (hb : PE X b (tE (cf X T W) g)) (hc : PE X c (tE (cf X T W) h))
    (hm : lastMarks [op, op'] [b, c] = false := by with_unfolding_all rfl) : PT X (.Compare a [op, op'] [b, c] pos) (tT (cf X T W) (tChainE o o' f g h)) := by
  obtain ⟨r, h1, h2⟩ := ci.ex
  obtain ⟨r', h1', h2'⟩ := ci'.ex
  refine ⟨fun pins s σ H Q I q => (pt_chain h1 h1' ha hb hc hm).run pins s σ H Q I ?_⟩
  obtain ⟨H0, A, m, M, ρ, P, F, q⟩ := q
  exact chain_run (op := op) (op' := op') h2 h2' (asB_run F q)
/-! ### truth -/
def truth : Ev → Option Bool
  | .d .non => some false
  | .d (.bl b) => some b
  | .d (.int i) => some (i != 0)
  | .d (.str s) => if s.length ≤ most then some ((s.length : Int) != 0) else none
  | .d (.tup l) => some (!l.isEmpty)
  | .d (.lst l) => some (!l.isEmpty)
  | .ls .own _ => none
  | .ls _ l => some (!l.isEmpty)
  | .d (.dK _ l) => some (!l.isEmpty)
  | _ => none
theorem Rps.emp {K : PySem.W.Frag} {A m : List Addr} {H : Hp} : ∀ {l : List D} {vs : List V}, Rps K A m H l vs → l.isEmpty = vs.isEmpty
  | [], _, h => by cases (show _ = [] from h); rfl
  | _ :: _, _, ⟨_, _, e, _⟩ => by cases e; rfl
theorem truth_rel {K : PySem.W.Frag} {H0 H : Hp} {A m : List Addr} {x : Ev} {v : V} {k : Bool} (e : truth x = some k) (r : EvR K H0 A m H x v) : TruV K v H k := by
  unfold truth at e
  split at e
  · cases e; cases (show v = V.non from r); rfl
  · cases e; cases (show v = V.bl k from r); rfl
  · cases e; rename_i i; cases (show v = V.int i from r); rfl
  · rename_i s
    split at e
    · rename_i hc; cases e; cases (show v = V.str s from r); exact ⟨most_line hc, rfl⟩
    · cases e
  · cases e; obtain ⟨a, vs, e, hs, q⟩ := r; cases e; exact .inr (.inl ⟨vs, SqT.of hs, by rw [Rps.emp q]⟩)
  · cases e; obtain ⟨a, vs, e, hs, _, q⟩ := r; cases e; exact .inl ⟨vs, SqL.of hs, by rw [Rps.emp q]⟩
  · cases e
  · rename_i md l hmd
    cases e
    cases md with
    | vw => obtain ⟨a, vs, e, hs, _, _, q⟩ := r; cases e; exact .inl ⟨vs, SqL.of hs, by rw [Rps.emp q]⟩
    | pv => obtain ⟨a, vs, e, hs, _, _, q⟩ := r; cases e; exact .inl ⟨vs, SqL.of hs, by rw [Rps.emp q]⟩
    | own => exact r.elim
  · cases e; obtain ⟨a, kvs, e, hs, _, _, q⟩ := r; cases e
    refine .inr (.inr ⟨kvs, hs, ?_⟩)
    rw [Rps.emp q]; cases kvs <;> rfl
  · cases e
def truB (r : R Ev) : R Bool := bnd r fun x M => match truth x with
  | some b => .ok b M
  | none => .stuck
def tTru (f : Sm Ev) : Sm Bool := fun ρ M => truB (f ρ M)
theorem dt_val (ha : PE X a (tE (cf X T W) f)) (he : ∀ whole, isTrue a X.env whole = (do let v ← whole; standAt a.pos; holding [v] (truthy v)) := by intro _; rfl) : PT X a (tT (cf X T W) (tTru f)) := by
  refine ⟨fun pins s σ H Q I q => (pt_truth ha he).run pins s σ H Q I ?_⟩
  obtain ⟨H0, A, m, M, ρ, P, F, q⟩ := q
  refine sub F q fun x M1 H1 v F1 _ r1 q1 => ?_
  split at q1
  · rename_i k hk; exact ⟨k, truth_rel hk r1, q1.fin F1 rfl⟩
  · exact q1.elim
/-! ### tests put together -/
variable {tf tg : Sm Bool} {rest : List Expr}
def bAnd (f g : Sm Bool) : Sm Bool := fun ρ M => bnd (f ρ M) fun b M1 => if b = true then g ρ M1 else .ok false M1
def bOr (f g : Sm Bool) : Sm Bool := fun ρ M => bnd (f ρ M) fun b M1 => if b = true then .ok true M1 else g ρ M1
def bNot (f : Sm Bool) : Sm Bool := fun ρ M => bnd (f ρ M) fun b M1 => .ok (!b) M1
theorem dw_and1 (ha : PT X a (tT (cf X T W) tf)) : PW X (.BoolOp .And [a] pos) (tT (cf X T W) tf) := pw_and1 ha
theorem dw_or1 (ha : PT X a (tT (cf X T W) tf)) : PW X (.BoolOp .Or [a] pos) (tT (cf X T W) tf) := pw_or1 ha
theorem dw_and (ha : PT X a (tT (cf X T W) tf)) (hb : PW X (.BoolOp .And (b :: rest) pos) (tT (cf X T W) tg)) : PW X (.BoolOp .And (a :: b :: rest) pos) (tT (cf X T W) (bAnd tf tg)) := by
  refine ⟨fun wh pins s σ H Q I q => (pw_and ha hb).run wh pins s σ H Q I ?_⟩
  obtain ⟨H0, A, m, M, ρ, P, F, q⟩ := q
  refine sub F q fun x M1 H1 v F1 _ r1 q1 => ?_
  cases (show x = v from r1)
  cases x with
  | true => exact ⟨H0, A, m, M1, ρ, P, F1, q1⟩
  | false => exact q1.fin F1 rfl
theorem dw_or (ha : PT X a (tT (cf X T W) tf)) (hb : PW X (.BoolOp .Or (b :: rest) pos) (tT (cf X T W) tg)) : PW X (.BoolOp .Or (a :: b :: rest) pos) (tT (cf X T W) (bOr tf tg)) := by
  refine ⟨fun wh pins s σ H Q I q => (pw_or ha hb).run wh pins s σ H Q I ?_⟩
  obtain ⟨H0, A, m, M, ρ, P, F, q⟩ := q
  refine sub F q fun x M1 H1 v F1 _ r1 q1 => ?_
  cases (show x = v from r1)
  cases x with
  | true => exact q1.fin F1 rfl
  | false => exact ⟨H0, A, m, M1, ρ, P, F1, q1⟩
theorem dt_not (ha : PT X a (tT (cf X T W) tf)) : PT X (.UnaryOp .Not a pos) (tT (cf X T W) (bNot tf)) := by
  refine ⟨fun pins s σ H Q I q => (pt_not ha).run pins s σ H Q I ?_⟩
  obtain ⟨H0, A, m, M, ρ, P, F, q⟩ := q
  refine sub F q fun x M1 H1 v F1 _ r1 q1 => ?_
  cases (show x = v from r1)
  exact q1.fin F1 rfl
/-! and, or, not as values -/
def eAnd (f g : Sm Ev) : Sm Ev := fun ρ M => bnd (f ρ M) fun x M1 => match truth x with
  | some true => g ρ M1
  | some false => .ok x M1
  | none => .stuck
def eOr (f g : Sm Ev) : Sm Ev := fun ρ M => bnd (f ρ M) fun x M1 => match truth x with
  | some true => .ok x M1
  | some false => g ρ M1
  | none => .stuck
def eNot (f : Sm Ev) : Sm Ev := fun ρ M => bnd (f ρ M) fun x M1 => match truth x with
  | some b => .ok (bv (!b)) M1
  | none => .stuck
theorem de_one {op} (h : PE X a (tE (cf X T W) f)) : PE X (.BoolOp op [a] pos) (tE (cf X T W) f) := pe_one h
theorem de_and (ha : PE X a (tE (cf X T W) f)) (hb : PE X (.BoolOp .And (b :: rest) pos) (tE (cf X T W) g)) : PE X (.BoolOp .And (a :: b :: rest) pos) (tE (cf X T W) (eAnd f g)) := by
  refine ⟨fun pins s σ H Q I q => (pe_andT ha hb).run pins s σ H Q I ?_⟩
  obtain ⟨H0, A, m, M, ρ, P, F, q⟩ := q
  refine sub F q fun x M1 H1 v F1 _ r1 q1 => ?_
  split at q1
  · rename_i hk; exact ⟨true, truth_rel hk r1, by rw [if_pos rfl]; exact ⟨H0, A, m, M1, ρ, P, F1, q1⟩⟩
  · rename_i hk; exact ⟨false, truth_rel hk r1, by rw [if_neg (by decide)]; exact q1.fin F1 r1⟩
  · exact q1.elim
theorem de_or (ha : PE X a (tE (cf X T W) f)) (hb : PE X (.BoolOp .Or (b :: rest) pos) (tE (cf X T W) g)) : PE X (.BoolOp .Or (a :: b :: rest) pos) (tE (cf X T W) (eOr f g)) := by
  refine ⟨fun pins s σ H Q I q => (pe_orT ha hb).run pins s σ H Q I ?_⟩
  obtain ⟨H0, A, m, M, ρ, P, F, q⟩ := q
  refine sub F q fun x M1 H1 v F1 _ r1 q1 => ?_
  split at q1
  · rename_i hk; exact ⟨true, truth_rel hk r1, by rw [if_pos rfl]; exact q1.fin F1 r1⟩
  · rename_i hk; exact ⟨false, truth_rel hk r1, by rw [if_neg (by decide)]; exact ⟨H0, A, m, M1, ρ, P, F1, q1⟩⟩
  · exact q1.elim
theorem de_not (ha : PE X a (tE (cf X T W) f)) : PE X (.UnaryOp .Not a pos) (tE (cf X T W) (eNot f)) := by
  refine ⟨fun pins s σ H Q I q => (pe_notT ha).run pins s σ H Q I ?_⟩
  obtain ⟨H0, A, m, M, ρ, P, F, q⟩ := q
  refine sub F q fun x M1 H1 v F1 _ r1 q1 => ?_
  split at q1
  · rename_i k hk; exact ⟨k, truth_rel hk r1, q1.fin F1 rfl⟩
  · exact q1.elim
/-- a if t else b -/
def eIf (t : Sm Bool) (f g : Sm Ev) : Sm Ev := fun ρ M => bnd (t ρ M) fun k M1 => if k = true then f ρ M1 else g ρ M1
theorem de_if (hc : PT X c (tT (cf X T W) tf)) (ha : PE X a (tE (cf X T W) f)) (hb : PE X b (tE (cf X T W) g)) : PE X (.IfExp c a b pos) (tE (cf X T W) (eIf tf f g)) := by
  refine ⟨fun pins s σ H Q I q => (pe_ifExp hc ha hb).run pins s σ H Q I ?_⟩
  obtain ⟨H0, A, m, M, ρ, P, F, q⟩ := q
  refine sub F q fun x M1 H1 v F1 _ r1 q1 => ?_
  cases (show x = v from r1)
  cases x with
  | true => exact ⟨H0, A, m, M1, ρ, P, F1, q1⟩
  | false => exact ⟨H0, A, m, M1, ρ, P, F1, q1⟩
end
end DL

set_option Elab.async false
set_option linter.all false
set_option maxRecDepth 100000
set_option maxHeartbeats 2000000
/-! The data layer: arguments, displays, calls of built-ins, subscripts, slices. -/
namespace DL
open PySem PySem.Spec PyProof.Rows L2
abbrev EvL (K : PySem.W.Frag) (H0 : Hp) (A m : List Addr) (H : Hp) (xs : List Ev) (vs : List V) : Prop := Paired (EvR K H0 A m H) xs vs
section
variable {K : PySem.W.Frag} {H0 H H' : Hp} {A m : List Addr}
theorem EvL.step (ok : AOk m H) (hA : ∀ a ∈ m, a ∈ A) (s : Stp m H H') {xs : List Ev} {vs : List V} (h : EvL K H0 A m H xs vs) : EvL K H0 A m H' xs vs := Paired.mapP h fun _ _ r => EvR.step ok hA s r
/-- plain data all -/
def datas : List Ev → Option (List D)
  | [] => some []
  | .d x :: r => (datas r).map (x :: ·)
  | _ => none
theorem datas_at : ∀ {xs : List Ev} {vs : List V} {l : List D}, datas xs = some l → EvL K H0 A m H xs vs → Rps K A m H l vs
  | [], _, _, h, r => by cases h; cases r; rfl
  | .d x :: xs, _, l, h, r => by
    cases r with
    | cons r1 r2 =>
      unfold datas at h
      cases e : datas xs with
      | none => rw [e] at h; cases h
      | some q => rw [e] at h; cases h; exact ⟨_, _, rfl, r1, datas_at e r2⟩
  | .ls _ _ :: _, _, _, h, _ => by cases h
  | .rw _ _ :: _, _, _, h, _ => by cases h
  | .dk _ _ _ :: _, _, _, h, _ => by cases h
  | .dt _ _ _ :: _, _, _, h, _ => by cases h
end
section
variable {X : Cx} {T : List (Addr × Str)} {W : WX} {a b c e : Expr} {es : List Expr} {f g h : Sm Ev} {fs : Sm (List Ev)} {pos p : Pos} {x : Str}
def aNil : Sm (List Ev) := fun _ M => .ok [] M
def aCons (f : Sm Ev) (g : Sm (List Ev)) : Sm (List Ev) := fun ρ M => bnd (f ρ M) fun x M1 => bnd (g ρ M1) fun xs M2 => .ok (x :: xs) M2
theorem da_nil : PA X [] (tA (cf X T W) aNil) := by
  refine ⟨fun pos pins s σ H Q I q => pa_nil.run pos pins s σ H Q I ?_⟩
  obtain ⟨H0, A, m, M, ρ, P, F, q⟩ := q
  exact q.fin F .nil
theorem da_cons (ha : PE X e (tE (cf X T W) f)) (hr : PA X es (tA (cf X T W) fs)) (hs : starEach (e :: es) X.env = (false, eval e X.env) :: starEach es X.env := by rfl) : PA X (e :: es) (tA (cf X T W) (aCons f fs)) := by
  refine ⟨fun pos pins s σ H Q I q => (pa_cons ha hr hs).run pos pins s σ H Q I ?_⟩
  obtain ⟨H0, A, m, M, ρ, P, F, q⟩ := q
  refine sub F q fun x M1 H1 v F1 _ r1 q1 => ?_
  refine sub F1 q1 fun xs M2 H2 vs F2 s2 r2 q2 => ?_
  exact q2.fin F2 (.cons (EvR.step F1.wr.aok F1.ma s2 r1) r2)
/-! ### displays -/
def eTup (fs : Sm (List Ev)) : Sm Ev := fun ρ M => bnd (fs ρ M) fun xs M1 => match datas xs with
  | some l => if l.length ≤ most then .ok (.d (.tup l)) M1 else .stuck
  | none => .stuck
def eLst (fs : Sm (List Ev)) : Sm Ev := fun ρ M => bnd (fs ρ M) fun xs M1 => match datas xs with
  | some l => if l.length ≤ most then .ok (.d (.lst l)) M1 else .stuck
  | none => .stuck
theorem de_tup {k} (ha : PA X es (tA (cf X T W) fs)) : PE X (.Tuple es k pos) (tE (cf X T W) (eTup fs)) := by
  refine ⟨fun pins s σ H Q I q => (pe_tup ha).run pins s σ H Q I ?_⟩
  obtain ⟨H0, A, m, M, ρ, P, F, q⟩ := q
  refine sub F q fun xs M1 H1 vs F1 _ r1 q1 => ?_
  split at q1
  · rename_i l hl
    have r := datas_at hl r1
    split at q1
    · rename_i hc
      exact ⟨by rw [Rps.len r]; exact most_line hc, fun p hp => q1.made F1 hp (newT (C := cf X T W) hp r)⟩
    · exact q1.elim
  · exact q1.elim
theorem de_lst (ha : PA X es (tA (cf X T W) fs)) : PE X (.List es pos) (tE (cf X T W) (eLst fs)) := by
  refine ⟨fun pins s σ H Q I q => (pe_lst ha).run pins s σ H Q I ?_⟩
  obtain ⟨H0, A, m, M, ρ, P, F, q⟩ := q
  refine sub F q fun xs M1 H1 vs F1 _ r1 q1 => ?_
  split at q1
  · rename_i l hl
    have r := datas_at hl r1
    split at q1
    · rename_i hc
      exact ⟨by rw [Rps.len r]; exact most_line hc, fun p hp => q1.made F1 hp (newL F1 hp r)⟩
    · exact q1.elim
  · exact q1.elim
/-! ### built-ins by their names -/
def BOk (C : Cf) (op : List Ev → Mem → R Ev) (r : List V → Hp → VK → Prop) : Prop := ∀ H0 A m M H ρ σ P xs vs Q, FR C H0 A m M H ρ σ P → EvL C.K H0 A m H xs vs → PX C m σ (EvR C.K H0 A m) H (op xs M) Q → r vs H Q
def eB (op : List Ev → Mem → R Ev) (fs : Sm (List Ev)) : Sm Ev := fun ρ M => bnd (fs ρ M) fun xs M1 => op xs M1
/-- a built-in function -/
structure BIs (X : Cx) (T : List (Addr × Str)) (W : WX) (v : Value) (op : List Ev → Mem → R Ev) : Prop where
  ex : ∃ r, CallR X v r ∧ BOk (cf X T W) op r
theorem tE_B {op : List Ev → Mem → R Ev} {r : List V → Hp → VK → Prop} {σ : L2.St} {H : Hp} {Q : VK} (ho : BOk (cf X T W) op r) (q : tE (cf X T W) (eB op fs) σ H Q) : tCB r (tA (cf X T W) fs) σ H Q := by
  obtain ⟨H0, A, m, M, ρ, P, F, q⟩ := q
  refine sub F q fun xs M1 H1 vs F1 _ r1 q1 => ?_
  exact ho H0 A m M1 H1 ρ σ P xs vs Q F1 r1 q1
theorem de_B {id : String} {op : List Ev → Mem → R Ev} (bi : BIs X T W (.builtin id) op) (hg : Gl X x) (hm : X.mg x = none) (hv : bootBuiltins x = some (.builtin id)) (ha : PA X (e :: es) (tA (cf X T W) fs)) (hn : x ≠ "__name__" := by decide) (hdb : (x == ("__debug__" : Str)) = false := by decide)
    (he : starEach (e :: es) X.env = (false, eval e X.env) :: starEach es X.env := by rfl) (hpl : (backTo pos (starEach es X.env)).any (·.1) = false := by rfl) : PE X (.Call (.Name x p) (e :: es) [] pos) (tE (cf X T W) (eB op fs)) := by
  obtain ⟨r, h1, h2⟩ := bi.ex
  exact ⟨fun pins s σ H Q I q => (pe_callB h1 hg hm hv ha hn hdb he hpl).run pins s σ H Q I (tE_B h2 q)⟩
theorem de_BT {n : String} {op : List Ev → Mem → R Ev} (bi : BIs X T W (.type n) op) (hg : Gl X x) (hm : X.mg x = none) (hv : bootBuiltins x = some (.type n)) (ha : PA X (e :: es) (tA (cf X T W) fs)) (hn : x ≠ "__name__" := by decide) (hdb : (x == ("__debug__" : Str)) = false := by decide)
    (he : starEach (e :: es) X.env = (false, eval e X.env) :: starEach es X.env := by rfl) (hpl : (backTo pos (starEach es X.env)).any (·.1) = false := by rfl) : PE X (.Call (.Name x p) (e :: es) [] pos) (tE (cf X T W) (eB op fs)) := by
  obtain ⟨r, h1, h2⟩ := bi.ex
  exact ⟨fun pins s σ H Q I q => (pe_callTy h1 hg hm hv ha hn hdb he hpl).run pins s σ H Q I (tE_B h2 q)⟩
/-- len -/
theorem FR.obj {C : Cf} {H0 H : Hp} {A m : List Addr} {M : Mem} {ρ : Env} {σ : L2.St} {P : List Addr} (F : FR C H0 A m M H ρ σ P) {n : Nat} {l : List D} {v : V} (hM : M[n]? = some (.lst l)) (r : Rp C.K A m H (.ob n) v) :
    ∃ a vs, v = .ref a ∧ m[n]? = some a ∧ H a = some (.lst vs) ∧ Rps C.K A m H l vs := by
  obtain ⟨a, e, rfl⟩ := r
  obtain ⟨vs, h1, h2, h3⟩ := F.wr.ok n a _ e hM
  exact ⟨a, vs, rfl, e, h1, Rps.bare _ _ h2 h3⟩
def bLen (xs : List Ev) (M : Mem) : R Ev := match xs with
  | [.d (.ob n)] => match M[n]? with
    | some (.lst l) => .ok (iv l.length) M
    | none => .stuck
  | [.d (.str s)] => if s.length ≤ most then .ok (iv s.length) M else .stuck
  | [.rw .vw rows] => .ok (iv rows.length) M
  | [.d (.dK _ l)] => .ok (iv l.length) M
  | [.dk .vw _ l] => .ok (iv l.length) M
  | [.dk .pv _ l] => .ok (iv l.length) M
  | [x] => match seqOf x with
    | some l => .ok (iv l.length) M
    | none => .stuck
  | _ => .stuck
def rLenA (K : PySem.W.Frag) : List V → Hp → VK → Prop := fun xs H Q => (∃ x n, xs = [x] ∧ LenV K x H n ∧ Q (.int n) H) ∨ ∃ p kvs, xs = [V.ref p] ∧ H p = some (.dK kvs) ∧ Q (.int kvs.length) H
theorem Paired.one {α β : Type} {G : α → β → Prop} {x : α} {vs : List β} (h : Paired G [x] vs) : ∃ v, vs = [v] ∧ G x v := by
  cases h with
  | cons a b => cases b; exact ⟨_, rfl, a⟩
theorem Paired.two {α β : Type} {G : α → β → Prop} {x y : α} {vs : List β} (h : Paired G [x, y] vs) : ∃ v w, vs = [v, w] ∧ G x v ∧ G y w := by
  cases h with
  | cons a b => cases b with
    | cons c d => cases d; exact ⟨_, _, rfl, a, c⟩
theorem call_lenA : CallR X (.builtin "len") (rLenA X.K) := by
  intro pins s σ H xs us Q I r h
  rcases h with h | ⟨p, kvs, rfl, hk, q⟩
  · exact call_len pins s σ H xs us Q I r h
  · obtain ⟨u, rfl, ru⟩ := vals1 r
    cases ru
    exact d_len I (.inl hk) fun t s' I' => ⟨.int _, H, I', ⟨_, rfl⟩, q⟩
theorem bi_len : BIs X T W (.builtin "len") bLen := by
  refine ⟨_, call_lenA, ?_⟩
  intro H0 A m M H ρ σ P xs vs Q F ra h
  unfold bLen at h
  split at h
  · rename_i n
    obtain ⟨v, rfl, r⟩ := Paired.one ra
    split at h
    · rename_i l hM
      obtain ⟨a, vs, e, _, hs, q⟩ := F.obj hM r
      exact .inl ⟨v, l.length, rfl, by rw [e]; exact .inl ⟨vs, SqL.of hs, (Rps.len q).symm⟩, h.fin F rfl⟩
    · exact h.elim
  · rename_i s
    obtain ⟨v, rfl, r⟩ := Paired.one ra
    split at h
    · rename_i hc
      exact .inl ⟨v, s.length, rfl, by rw [show v = V.str s from r]; exact ⟨most_line hc, rfl⟩, h.fin F rfl⟩
    · exact h.elim
  · rename_i rows
    obtain ⟨v, rfl, r⟩ := Paired.one ra
    obtain ⟨a, vs, e, hs, _, _, q⟩ := r
    refine .inl ⟨v, rows.length, rfl, by rw [e]; exact .inl ⟨vs, SqL.of hs, Paired.length q⟩, h.fin F rfl⟩
  · rename_i ks l
    obtain ⟨v, rfl, r⟩ := Paired.one ra
    obtain ⟨a, kvs, e, hs, _, _, q⟩ := r
    refine .inr ⟨a, kvs, by rw [e], hs, ?_⟩
    have e2 : kvs.length = l.length := by have := Rps.len q; simpa using this
    rw [e2]; exact h.fin F rfl
  · rename_i ks l
    obtain ⟨v, rfl, r⟩ := Paired.one ra
    obtain ⟨a, kvs, e, hs, _, _, _, q⟩ := r
    refine .inr ⟨a, kvs, by rw [e], hs, ?_⟩
    have e2 : kvs.length = l.length := by have := Rps.len q; simpa using this
    rw [e2]; exact h.fin F rfl
  · rename_i ks l
    obtain ⟨v, rfl, r⟩ := Paired.one ra
    obtain ⟨a, kvs, e, hs, _, _, _, q⟩ := r
    refine .inr ⟨a, kvs, by rw [e], hs, ?_⟩
    have e2 : kvs.length = l.length := by have := Rps.len q; simpa using this
    rw [e2]; exact h.fin F rfl
  · rename_i x _ _ _ _ _ _
    obtain ⟨v, rfl, r⟩ := Paired.one ra
    split at h
    · rename_i l hl
      obtain ⟨a, vs, e, hs, q⟩ := seqOf_at hl r
      refine .inl ⟨v, l.length, rfl, ?_, h.fin F rfl⟩
      rw [e]
      rcases hs with hs | hs
      · exact .inl ⟨vs, hs, (Rps.len q).symm⟩
      · exact .inr ⟨vs, hs, (Rps.len q).symm⟩
    · exact h.elim
  · exact h.elim
/-- abs, int, bool of an int -/
def bAbs (xs : List Ev) (M : Mem) : R Ev := match xs with
  | [.d (.int i)] => .ok (iv (if i < 0 then -i else i)) M
  | _ => .stuck
theorem bi_abs : BIs X T W (.builtin "abs") bAbs := by
  refine ⟨_, call_abs, ?_⟩
  intro H0 A m M H ρ σ P xs vs Q F ra h
  unfold bAbs at h
  split at h
  · rename_i i
    obtain ⟨v, rfl, r⟩ := Paired.one ra
    exact ⟨i, by rw [show v = V.int i from r], h.fin F rfl⟩
  · exact h.elim
def bInt (xs : List Ev) (M : Mem) : R Ev := match xs with
  | [.d (.int i)] => .ok (iv i) M
  | [.d (.bl b)] => .ok (iv (if b then 1 else 0)) M
  | _ => .stuck
theorem bi_int : BIs X T W (.type "int") bInt := by
  refine ⟨_, call_int1, ?_⟩
  intro H0 A m M H ρ σ P xs vs Q F ra h
  unfold bInt at h
  split at h
  · rename_i i
    obtain ⟨v, rfl, r⟩ := Paired.one ra
    exact .inl ⟨i, by rw [show v = V.int i from r], h.fin F rfl⟩
  · rename_i i
    obtain ⟨v, rfl, r⟩ := Paired.one ra
    exact .inr ⟨i, by rw [show v = V.bl i from r], h.fin F rfl⟩
  · exact h.elim
/-- the greatest, the least of two, of a list -/
def maxL : List Int → Int
  | [] => 0
  | [x] => x
  | x :: r => if x < maxL r then maxL r else x
def minL : List Int → Int
  | [] => 0
  | [x] => x
  | x :: r => if minL r < x then minL r else x
theorem maxL_is : ∀ {ns : List Int}, 0 < ns.length → maxL ns ∈ ns ∧ ∀ y ∈ ns, y ≤ maxL ns
  | [x], _ => ⟨List.mem_cons_self, fun y hy => by rw [List.mem_singleton.mp hy]; exact Int.le_refl _⟩
  | x :: y :: r, _ => by
    have ih := maxL_is (ns := y :: r) (by simp)
    have e : maxL (x :: y :: r) = if x < maxL (y :: r) then maxL (y :: r) else x := rfl
    rw [e]
    by_cases hc : x < maxL (y :: r)
    · rw [if_pos hc]
      refine ⟨List.mem_cons_of_mem _ ih.1, fun z hz => ?_⟩
      rcases List.mem_cons.mp hz with rfl | hz
      · exact Int.le_of_lt hc
      · exact ih.2 z hz
    · rw [if_neg hc]
      refine ⟨List.mem_cons_self, fun z hz => ?_⟩
      rcases List.mem_cons.mp hz with rfl | hz
      · exact Int.le_refl _
      · have := ih.2 z hz; omega
theorem minL_is : ∀ {ns : List Int}, 0 < ns.length → minL ns ∈ ns ∧ ∀ y ∈ ns, minL ns ≤ y
  | [x], _ => ⟨List.mem_cons_self, fun y hy => by rw [List.mem_singleton.mp hy]; exact Int.le_refl _⟩
  | x :: y :: r, _ => by
    have ih := minL_is (ns := y :: r) (by simp)
    have e : minL (x :: y :: r) = if minL (y :: r) < x then minL (y :: r) else x := rfl
    rw [e]
    by_cases hc : minL (y :: r) < x
    · rw [if_pos hc]
      refine ⟨List.mem_cons_of_mem _ ih.1, fun z hz => ?_⟩
      rcases List.mem_cons.mp hz with rfl | hz
      · exact Int.le_of_lt hc
      · exact ih.2 z hz
    · rw [if_neg hc]
      refine ⟨List.mem_cons_self, fun z hz => ?_⟩
      rcases List.mem_cons.mp hz with rfl | hz
      · exact Int.le_refl _
      · have := ih.2 z hz; omega
def intsOf (x : Ev) : Option (List Int) := (lstOf x).bind toInts
theorem intsOf_at {K : PySem.W.Frag} {H0 H : Hp} {A m : List Addr} {x : Ev} {v : V} {ns : List Int} (h : intsOf x = some ns) (r : EvR K H0 A m H x v) : ∃ a, v = .ref a ∧ H a = some (.lst (ns.map V.int)) := by
  unfold intsOf at h
  cases e : lstOf x with
  | none => rw [e] at h; cases h
  | some l =>
    rw [e] at h
    obtain ⟨a, vs, ev, hs, q⟩ := lstOf_at e r
    have el := toInts_map (show toInts l = some ns from h)
    subst el
    exact ⟨a, ev, by rw [hs, Rps.ints q]⟩
def bMax (xs : List Ev) (M : Mem) : R Ev := match xs with
  | [.d (.int i), .d (.int j)] => .ok (iv (if j > i then j else i)) M
  | [x] => match intsOf x with
    | some (n :: ns) => .ok (iv (maxL (n :: ns))) M
    | _ => .stuck
  | _ => .stuck
theorem bi_max (hc : X.calm = true) : BIs X T W (.builtin "max") bMax := by
  refine ⟨_, (call_max2 hc).or (cr_max hc), ?_⟩
  intro H0 A m M H ρ σ P xs vs Q F ra h
  unfold bMax at h
  split at h
  · rename_i i j
    obtain ⟨v, w, rfl, r1, r2⟩ := Paired.two ra
    exact .inl ⟨i, j, by rw [show v = V.int i from r1, show w = V.int j from r2], h.fin F rfl⟩
  · rename_i x
    obtain ⟨v, rfl, r⟩ := Paired.one ra
    split at h
    · rename_i n ns hl
      obtain ⟨a, e, hs⟩ := intsOf_at hl r
      refine .inr ⟨a, n :: ns, by rw [e], SqL.of hs, by simp, fun k h1 h2 => ?_⟩
      have q := maxL_is (ns := n :: ns) (by simp)
      have e : k = maxL (n :: ns) := by have := h2 _ q.1; have := q.2 _ h1; omega
      rw [e]; exact h.fin F rfl
    · exact h.elim
  · exact h.elim
def bMin (xs : List Ev) (M : Mem) : R Ev := match xs with
  | [.d (.int i), .d (.int j)] => .ok (iv (if j < i then j else i)) M
  | [x] => match intsOf x with
    | some (n :: ns) => .ok (iv (minL (n :: ns))) M
    | _ => .stuck
  | _ => .stuck
theorem bi_min (hc : X.calm = true) : BIs X T W (.builtin "min") bMin := by
  refine ⟨_, (call_min2 hc).or (cr_min hc), ?_⟩
  intro H0 A m M H ρ σ P xs vs Q F ra h
  unfold bMin at h
  split at h
  · rename_i i j
    obtain ⟨v, w, rfl, r1, r2⟩ := Paired.two ra
    exact .inl ⟨i, j, by rw [show v = V.int i from r1, show w = V.int j from r2], h.fin F rfl⟩
  · rename_i x
    obtain ⟨v, rfl, r⟩ := Paired.one ra
    split at h
    · rename_i n ns hl
      obtain ⟨a, e, hs⟩ := intsOf_at hl r
      refine .inr ⟨a, n :: ns, by rw [e], SqL.of hs, by simp, fun k h1 h2 => ?_⟩
      have q := minL_is (ns := n :: ns) (by simp)
      have e : k = minL (n :: ns) := by have := h2 _ q.1; have := q.2 _ h1; omega
      rw [e]; exact h.fin F rfl
    · exact h.elim
  · exact h.elim
def bSum (xs : List Ev) (M : Mem) : R Ev := match xs with
  | [x] => match intsOf x with
    | some ns => .ok (iv ns.sum) M
    | _ => .stuck
  | _ => .stuck
theorem bi_sum (hc : X.calm = true) : BIs X T W (.builtin "sum") bSum := by
  refine ⟨_, cr_sum hc, ?_⟩
  intro H0 A m M H ρ σ P xs vs Q F ra h
  unfold bSum at h
  split at h
  · rename_i x
    obtain ⟨v, rfl, r⟩ := Paired.one ra
    split at h
    · rename_i ns hl
      obtain ⟨a, e, hs⟩ := intsOf_at hl r
      exact ⟨a, ns, by rw [e], SqL.of hs, h.fin F rfl⟩
    · exact h.elim
  · exact h.elim
/-- all, any of a list of truths -/
def toBls : List D → Option (List Bool)
  | [] => some []
  | .bl i :: l => (toBls l).map (i :: ·)
  | _ => none
theorem toBls_rps {K : PySem.W.Frag} {A m : List Addr} {H : Hp} : ∀ {l : List D} {bs : List Bool} {vs : List V}, toBls l = some bs → Rps K A m H l vs → vs = bs.map V.bl
  | [], _, _, h, r => by cases h; exact r
  | .bl i :: l, bs, _, h, ⟨v, r, e, h1, h2⟩ => by
    unfold toBls at h
    cases e2 : toBls l with
    | none => rw [e2] at h; cases h
    | some q => rw [e2] at h; cases h; rw [e, show v = V.bl i from h1, toBls_rps e2 h2]; rfl
  | .non :: _, _, _, h, _ => by cases h
  | .int _ :: _, _, _, h, _ => by cases h
  | .str _ :: _, _, _, h, _ => by cases h
  | .ty _ :: _, _, _, h, _ => by cases h
  | .at _ :: _, _, _, h, _ => by cases h
  | .ob _ :: _, _, _, h, _ => by cases h
  | .sc _ :: _, _, _, h, _ => by cases h
  | .tup _ :: _, _, _, h, _ => by cases h
  | .lst _ :: _, _, _, h, _ => by cases h
  | .dK _ _ :: _, _, _, h, _ => by cases h
  | .dT _ _ :: _, _, _, h, _ => by cases h
def blsOf (x : Ev) : Option (List Bool) := (lstOf x).bind toBls
theorem blsOf_at {K : PySem.W.Frag} {H0 H : Hp} {A m : List Addr} {x : Ev} {v : V} {ns : List Bool} (h : blsOf x = some ns) (r : EvR K H0 A m H x v) : ∃ a, v = .ref a ∧ H a = some (.lst (ns.map V.bl)) := by
  unfold blsOf at h
  cases e : lstOf x with
  | none => rw [e] at h; cases h
  | some l =>
    rw [e] at h
    obtain ⟨a, vs, ev, hs, q⟩ := lstOf_at e r
    exact ⟨a, ev, by rw [hs, toBls_rps (show toBls l = some ns from h) q]⟩
def bAll (xs : List Ev) (M : Mem) : R Ev := match xs with
  | [x] => match blsOf x with
    | some ns => .ok (bv (ns.all id)) M
    | _ => .stuck
  | _ => .stuck
def bAny (xs : List Ev) (M : Mem) : R Ev := match xs with
  | [x] => match blsOf x with
    | some ns => .ok (bv (ns.any id)) M
    | _ => .stuck
  | _ => .stuck
theorem bi_all (hc : X.calm = true) : BIs X T W (.builtin "all") bAll := by
  refine ⟨_, cr_all hc, ?_⟩
  intro H0 A m M H ρ σ P xs vs Q F ra h
  unfold bAll at h
  split at h
  · rename_i x
    obtain ⟨v, rfl, r⟩ := Paired.one ra
    split at h
    · rename_i ns hl
      obtain ⟨a, e, hs⟩ := blsOf_at hl r
      exact ⟨a, ns, by rw [e], SqL.of hs, h.fin F rfl⟩
    · exact h.elim
  · exact h.elim
theorem bi_any (hc : X.calm = true) : BIs X T W (.builtin "any") bAny := by
  refine ⟨_, cr_any hc, ?_⟩
  intro H0 A m M H ρ σ P xs vs Q F ra h
  unfold bAny at h
  split at h
  · rename_i x
    obtain ⟨v, rfl, r⟩ := Paired.one ra
    split at h
    · rename_i ns hl
      obtain ⟨a, e, hs⟩ := blsOf_at hl r
      exact ⟨a, ns, by rw [e], SqL.of hs, h.fin F rfl⟩
    · exact h.elim
  · exact h.elim
/-- tuple(x), list(x) of a list or a tuple -/
def bTup (xs : List Ev) (M : Mem) : R Ev := match xs with
  | [.d (.tup l)] => .ok (.d (.tup l)) M
  | [x] => match lstOf x with
    | some l => .ok (.d (.tup l)) M
    | none => .stuck
  | _ => .stuck
def bLst (xs : List Ev) (M : Mem) : R Ev := match xs with
  | [x] => match seqOf x with
    | some l => .ok (.d (.lst l)) M
    | none => .stuck
  | _ => .stuck
theorem bi_tup : BIs X T W (.type "tuple") bTup := by
  refine ⟨_, call_tuple_of, ?_⟩
  intro H0 A m M H ρ σ P xs vs Q F ra h
  unfold bTup at h
  split at h
  · obtain ⟨v, rfl, r⟩ := Paired.one ra
    obtain ⟨a, vs, e, hs, q⟩ := r
    exact ⟨a, vs, by rw [e], .inr ⟨SqT.of hs, h.fin F ⟨a, vs, rfl, hs, q⟩⟩⟩
  · rename_i x _
    obtain ⟨v, rfl, r⟩ := Paired.one ra
    split at h
    · rename_i l hl
      obtain ⟨a, vs, e, hs, q⟩ := lstOf_at hl r
      exact ⟨a, vs, by rw [e], .inl ⟨SqL.of hs, fun p hp => h.made F hp (newT (C := cf X T W) hp q)⟩⟩
    · exact h.elim
  · exact h.elim
theorem bi_lst : BIs X T W (.type "list") bLst := by
  refine ⟨_, call_list_of, ?_⟩
  intro H0 A m M H ρ σ P xs vs Q F ra h
  unfold bLst at h
  split at h
  · rename_i x
    obtain ⟨v, rfl, r⟩ := Paired.one ra
    split at h
    · rename_i l hl
      obtain ⟨a, vs, e, hs, q⟩ := seqOf_at hl r
      exact ⟨a, vs, by rw [e], hs, fun p hp => h.made F hp (newL F hp q)⟩
    · exact h.elim
  · exact h.elim
/-! ### isinstance -/
def tyN : Ev → Option String
  | .d .non => some "NoneType"
  | .d (.bl _) => some "bool"
  | .d (.int _) => some "int"
  | .d (.str _) => some "str"
  | .d (.tup _) => some "tuple"
  | .d (.lst _) => some "list"
  | .d (.dK _ _) => some "dict"
  | .d (.dT _ _) => some "dict"
  | .ls .vw _ => some "list"
  | .ls .pv _ => some "list"
  | .rw .vw _ => some "list"
  | .dk .vw _ _ => some "dict"
  | .dk .pv _ _ => some "dict"
  | .dt .vw _ _ => some "dict"
  | .dt .pv _ _ => some "dict"
  | _ => none
def tyNs : List String := ["NoneType", "bool", "int", "str", "tuple", "list", "dict"]
def clNs : List String := ["bool", "int", "str", "tuple", "list", "dict"]
def isOf (a b : String) : Bool := a == b || (a == "bool" && b == "int")
theorem kit_all : ∀ a ∈ tyNs, ∀ b ∈ clNs, kitB a b = some (isOf a b) := by
  have h : (tyNs.all fun a => clNs.all fun b => decide (kitB a b = some (isOf a b))) = true := by decide +kernel
  intro a ha b hb
  have h1 := List.all_eq_true.mp h a ha
  exact of_decide_eq_true (List.all_eq_true.mp h1 b hb)
theorem tyN_mem {x : Ev} {a : String} (h : tyN x = some a) : a ∈ tyNs := by
  unfold tyN at h
  split at h <;> cases h <;> simp [tyNs]
theorem tyN_at {K : PySem.W.Frag} {H0 H : Hp} {A m : List Addr} {x : Ev} {v : V} {a : String} (h : tyN x = some a) (r : EvR K H0 A m H x v) : TyX K H v (.type a) := by
  unfold tyN at h
  split at h
  · cases h; cases (show v = V.non from r); exact .base .non
  · cases h; rename_i b; have e : v = V.bl b := r; subst e; exact .base (.bl _)
  · cases h; rename_i b; have e : v = V.int b := r; subst e; exact .base (.int _)
  · cases h; rename_i b; have e : v = V.str b := r; subst e; exact .base (.str _)
  · cases h
    obtain ⟨p, vs, e, hs, q⟩ := r
    subst e
    exact .base (.tup hs)
  · cases h; obtain ⟨p, vs, e, hs, q⟩ := r; subst e; exact .base (.lst hs)
  · cases h; obtain ⟨p, vs, e, hs, q⟩ := r; subst e; exact .base (.dK hs)
  · cases h; obtain ⟨p, vs, e, hs, q⟩ := r; subst e; exact .base (.dT hs)
  · cases h; obtain ⟨p, vs, e, hs, q⟩ := r; subst e; exact .base (.lst hs)
  · cases h; obtain ⟨p, vs, e, hs, q⟩ := r; subst e; exact .base (.lst hs)
  · cases h; obtain ⟨p, vs, e, hs, q⟩ := r; subst e; exact .base (.lst hs)
  · cases h; obtain ⟨p, vs, e, hs, q⟩ := r; subst e; exact .base (.dK hs)
  · cases h; obtain ⟨p, vs, e, hs, q⟩ := r; subst e; exact .base (.dK hs)
  · cases h; obtain ⟨p, vs, e, hs, q⟩ := r; subst e; exact .base (.dT hs)
  · cases h; obtain ⟨p, vs, e, hs, q⟩ := r; subst e; exact .base (.dT hs)
  · cases h
def toTys : List D → Option (List String)
  | [] => some []
  | .ty n :: l => if n ∈ clNs then (toTys l).map (n :: ·) else none
  | _ => none
def bIsi (xs : List Ev) (M : Mem) : R Ev := match xs with
  | [x, .d (.ty b)] => match tyN x with
    | some a => if b ∈ clNs then .ok (bv (isOf a b)) M else .stuck
    | none => .stuck
  | [x, .d (.tup l)] => match tyN x, toTys l with
    | some a, some bs => .ok (bv (bs.any (isOf a))) M
    | _, _ => .stuck
  | _ => .stuck
theorem kitAny_of {K : PySem.W.Frag} {a : String} (ha : a ∈ tyNs) : ∀ {bs : List String}, (∀ b ∈ bs, b ∈ clNs) → PySem.W.kitAny K (.type a) (bs.map Value.type) = some (bs.any (isOf a))
  | [], _ => kitAny_nil
  | b :: bs, h => by
    have k := kit_ty (K := K) (kit_all a ha b (h b List.mem_cons_self))
    have ih := kitAny_of ha (K := K) (bs := bs) (fun c hc => h c (List.mem_cons_of_mem _ hc))
    refine kitAny_cons k (fun e => ?_) (fun e => ?_)
    · rw [ih, List.any_cons, e]; rfl
    · rw [List.any_cons, e]; rfl
theorem toTys_at {K : PySem.W.Frag} {A m : List Addr} {H : Hp} : ∀ {l : List D} {bs : List String} {vs : List V}, toTys l = some bs → Rps K A m H l vs → vs = bs.map V.ty ∧ ∀ b ∈ bs, b ∈ clNs
  | [], _, _, h, r => by cases h; exact ⟨r, by simp⟩
  | .ty n :: l, bs, _, h, ⟨v, r, e, h1, h2⟩ => by
    unfold toTys at h
    split at h
    · rename_i hn
      cases e2 : toTys l with
      | none => rw [e2] at h; cases h
      | some q =>
        rw [e2] at h; cases h
        have ih := toTys_at e2 h2
        refine ⟨by rw [e, show v = V.ty n from h1, ih.1]; rfl, fun b hb => ?_⟩
        rcases List.mem_cons.mp hb with rfl | hb
        · exact hn
        · exact ih.2 b hb
    · cases h
  | .non :: _, _, _, h, _ => by cases h
  | .int _ :: _, _, _, h, _ => by cases h
  | .str _ :: _, _, _, h, _ => by cases h
  | .bl _ :: _, _, _, h, _ => by cases h
  | .at _ :: _, _, _, h, _ => by cases h
  | .ob _ :: _, _, _, h, _ => by cases h
  | .sc _ :: _, _, _, h, _ => by cases h
  | .tup _ :: _, _, _, h, _ => by cases h
  | .lst _ :: _, _, _, h, _ => by cases h
  | .dK _ _ :: _, _, _, h, _ => by cases h
  | .dT _ _ :: _, _, _, h, _ => by cases h
theorem clsV_tys : ∀ (bs : List String), Paired ClsV (bs.map V.ty) (bs.map Value.type)
  | [] => .nil
  | b :: bs => .cons (.ty b) (clsV_tys bs)
/-- isinstance(x, (c1, c2)) -/
def rIsiTS (K : PySem.W.Frag) : List V → Hp → VK → Prop := fun xs H Q => ∃ (x : V) (tp : Addr) (cs : List String) (t : Value) (b : Bool), xs = [x, .ref tp] ∧ SqT K H tp (cs.map V.ty) ∧ TyX K H x t ∧ PySem.W.kitAny K t (cs.map Value.type) = some b ∧ Q (.bl b) H
theorem call_isiTS : CallR X (.builtin "isinstance") (rIsiTS X.K) := by
  intro pins s σ H xs us Q I r h
  obtain ⟨x, tp, cs, t, b, rfl, hT, ty, e, q⟩ := h
  obtain ⟨u1, u2, rfl, r1, r2⟩ := vals2 r
  cases (show u2 = Value.ref tp from r2)
  obtain ⟨P, Z, p, hx⟩ := kit_of I r1 ty
  obtain ⟨its, rv, ⟨o, h1, h2, n, h3⟩, _⟩ := I.tuple hT
  have e3 := ClsV.all (clsV_tys cs) rv
  subst e3
  obtain ⟨oc, od, dt, sl⟩ := o
  simp only at h2 h3
  subst h2 h3
  exact PySem.W.kia_tup Z I.kIn p h1 e hx fun tk => ⟨.bl b, H, I.tok tk, rfl, q⟩
theorem bi_isi : BIs X T W (.builtin "isinstance") bIsi := by
  refine ⟨_, call_isi.or call_isiTS, ?_⟩
  intro H0 A m M H ρ σ P xs vs Q F ra h
  unfold bIsi at h
  split at h
  · rename_i x b
    obtain ⟨v, w, rfl, r1, r2⟩ := Paired.two ra
    split at h
    · rename_i a ha
      split at h
      · rename_i hb
        exact .inl ⟨v, w, .type a, .type b, isOf a b, rfl, by rw [show w = V.ty b from r2]; exact .ty b, tyN_at ha r1, kit_ty (kit_all a (tyN_mem ha) b hb), h.fin F rfl⟩
      · exact h.elim
    · exact h.elim
  · rename_i x l
    obtain ⟨v, w, rfl, r1, r2⟩ := Paired.two ra
    split at h
    · rename_i a bs ha hb
      obtain ⟨p, vs, e, hs, q⟩ := r2
      have z := toTys_at hb q
      refine .inr ⟨v, p, bs, .type a, bs.any (isOf a), by rw [e], by rw [← z.1]; exact SqT.of hs, tyN_at ha r1, kitAny_of (tyN_mem ha) z.2, h.fin F rfl⟩
    · exact h.elim
  · exact h.elim
/-! ### subscripts -/
def ixOf (l : List D) (i : Int) : Option D := atI l i
theorem atI_rps {K : PySem.W.Frag} {A m : List Addr} {H : Hp} {l : List D} {vs : List V} {i : Int} {d : D} (r : Rps K A m H l vs) (h : atI l i = some d) : ∃ v, atI vs i = some v ∧ Rp K A m H d v := by
  unfold atI at h ⊢
  rw [Rps.len r]
  cases e : ixN l.length i with
  | none => rw [e] at h; cases h
  | some j =>
    rw [e] at h
    obtain ⟨v, e1, e2⟩ := Rps.get r (show l[j]? = some d from h)
    exact ⟨v, e1, e2⟩
theorem paired_at {α β : Type} {G : α → β → Prop} {l : List α} {vs : List β} {i : Int} {d : α} (r : Paired G l vs) (h : atI l i = some d) : ∃ v, atI vs i = some v ∧ G d v := by
  unfold atI at h ⊢
  rw [← Paired.length r]
  cases e : ixN l.length i with
  | none => rw [e] at h; cases h
  | some j =>
    rw [e] at h
    exact paired_get r (show l[j]? = some d from h)
/-- the place of a key, its value -/
def keyOf : D → Option Key
  | .int i => some (.inl i)
  | .str s => some (.inr s)
  | _ => none
def keysOf : List D → Option (List Key)
  | [] => some []
  | d :: l => match keyOf d, keysOf l with
    | some k, some r => some (k :: r)
    | _, _ => none
def vAt {κ : Type} [DecidableEq κ] : List κ → List D → κ → Option D
  | k :: ks, d :: l, j => if k = j then some d else vAt ks l j
  | _, _, _ => none
def opIx (a b : Ev) (M : Mem) : R Ev := match a, b with
  | .d (.ob n), .d (.int i) => match M[n]? with
    | some (.lst l) => match atI l i with
      | some d => .ok (.d d) M
      | none => .stuck
    | none => .stuck
  | .d (.str s), .d (.int i) => if s.length ≤ most then match atI s.cps.toList i with
    | some c => .ok (.d (.str ⟨#[c]⟩)) M
    | none => .stuck
    else .stuck
  | .rw .vw rows, .d (.int i) => match atI rows i with
    | some row => .ok (.ls .vw row) M
    | none => .stuck
  | a, .d (.int i) => match seqOf a with
    | some l => match atI l i with
      | some d => .ok (.d d) M
      | none => .stuck
    | none => .stuck
  | _, _ => .stuck
theorem ok_ix : OpOk (cf X T W) opIx (rIx X.K) := by
  intro H0 A m M H ρ σ P x y v w Q F rx ry h
  unfold opIx at h
  split at h
  · rename_i n i
    split at h
    · rename_i l hM
      split at h
      · rename_i d hi
        obtain ⟨a, vs, e, _, hs, q⟩ := F.obj hM rx
        obtain ⟨u, e1, e2⟩ := atI_rps q hi
        exact .inl ⟨a, vs, i, u, e, ry, SqL.of hs, e1, h.fin F e2⟩
      · exact h.elim
    · exact h.elim
  · rename_i s i
    split at h
    · rename_i hc
      split at h
      · rename_i c hi
        exact .inr (.inr ⟨s, i, c, rx, ry, most_line hc, hi, h.fin F rfl⟩)
      · exact h.elim
    · exact h.elim
  · rename_i rows i
    split at h
    · rename_i row hi
      obtain ⟨a, vs, e, hs, hm, h0, q⟩ := rx
      obtain ⟨u, e1, b, ws, e2, e3, e4, e5, e6⟩ := paired_at q hi
      exact .inl ⟨a, vs, i, u, e, ry, SqL.of hs, e1, h.fin F ⟨b, ws, e2, e3, e4, e5, e6⟩⟩
    · exact h.elim
  · rename_i i _ _ _
    split at h
    · rename_i l hl
      split at h
      · rename_i d hi
        obtain ⟨a, vs, e, hs, q⟩ := seqOf_at hl rx
        obtain ⟨u, e1, e2⟩ := atI_rps q hi
        rcases hs with hs | hs
        · exact .inl ⟨a, vs, i, u, e, ry, hs, e1, h.fin F e2⟩
        · exact .inr (.inl ⟨a, vs, i, u, e, ry, hs, e1, h.fin F e2⟩)
      · exact h.elim
    · exact h.elim
  · exact h.elim
theorem de_ix (ha : PE X a (tE (cf X T W) f)) (hb : PE X b (tE (cf X T W) g)) (hs : PlainIx b := by exact fun _ _ => rfl) : PE X (.Subscript a b pos) (tE (cf X T W) (eBin opIx f g)) :=
  ⟨fun pins s σ H Q I q => (pe_ix ix_seq ha hb hs).run pins s σ H Q I (tE_bin ok_ix q)⟩
/-! d[k] -/
def dval {κ : Type} [DecidableEq κ] (ks : List κ) (l : List D) (k : κ) (M : Mem) : R Ev := match vAt ks l k with
  | some d => .ok (.d d) M
  | none => .stuck
def opDix (a b : Ev) (M : Mem) : R Ev := match a, b with
  | .d (.dK ks l), .d x => match keyOf x with
    | some k => dval ks l k M
    | none => .stuck
  | .dk .vw ks l, .d x => match keyOf x with
    | some k => dval ks l k M
    | none => .stuck
  | .dk .pv ks l, .d x => match keyOf x with
    | some k => dval ks l k M
    | none => .stuck
  | .d (.dT ks l), .d (.tup x) => match keysOf x with
    | some k => dval ks l k M
    | none => .stuck
  | .dt .vw ks l, .d (.tup x) => match keysOf x with
    | some k => dval ks l k M
    | none => .stuck
  | .dt .pv ks l, .d (.tup x) => match keysOf x with
    | some k => dval ks l k M
    | none => .stuck
  | _, _ => .stuck
theorem keyOf_at {K : PySem.W.Frag} {A m : List Addr} {H : Hp} {d : D} {v : V} {k : Key} (h : keyOf d = some k) (r : Rp K A m H d v) : v = kV k := by
  unfold keyOf at h
  split at h
  · cases h; exact r
  · cases h; exact r
  · cases h
theorem keysOf_at {K : PySem.W.Frag} {A m : List Addr} {H : Hp} : ∀ {l : List D} {vs : List V} {ks : List Key}, keysOf l = some ks → Rps K A m H l vs → vs = ks.map kV
  | [], _, _, h, r => by cases h; exact r
  | d :: l, _, _, h, ⟨v, r, e, h1, h2⟩ => by
    unfold keysOf at h
    split at h
    · rename_i k q e1 e2
      cases h
      rw [e, keyOf_at e1 h1, keysOf_at e2 h2]; rfl
    · cases h
theorem vAt_val {κ : Type} [DecidableEq κ] {K : PySem.W.Frag} {A m : List Addr} {H : Hp} {k : κ} {d : D} : ∀ {kvs : List (κ × V)} {l : List D}, vAt (kvs.map (·.1)) l k = some d → Rps K A m H l (kvs.map (·.2)) → ∃ v, valV kvs k = some v ∧ Rp K A m H d v
  | [], l, h, _ => by cases l <;> cases h
  | p :: kvs, [], h, _ => by cases h
  | p :: kvs, x :: l, h, ⟨v, r, e, h1, h2⟩ => by
    rw [List.map_cons] at e
    cases e
    rw [List.map_cons] at h
    unfold vAt at h
    split at h
    · rename_i hk
      cases h
      exact ⟨p.2, valV_pos hk, h1⟩
    · rename_i hk
      rw [valV_neg hk]
      exact vAt_val h h2
theorem vAt_none {κ : Type} [DecidableEq κ] {K : PySem.W.Frag} {A m : List Addr} {H : Hp} {k : κ} : ∀ {kvs : List (κ × V)} {l : List D}, vAt (kvs.map (·.1)) l k = none → Rps K A m H l (kvs.map (·.2)) → valV kvs k = none
  | [], l, h, _ => valV_nil
  | p :: kvs, [], h, r => by cases (show _ = [] from r)
  | p :: kvs, x :: l, h, ⟨v, r, e, h1, h2⟩ => by
    rw [List.map_cons] at e
    cases e
    rw [List.map_cons] at h
    unfold vAt at h
    split at h
    · cases h
    · rename_i hk
      rw [valV_neg hk]
      exact vAt_none h h2
def OptR (K : PySem.W.Frag) (A m : List Addr) (H : Hp) (o : Option D) (u : Option V) : Prop := match o with
  | some d => ∃ v, u = some v ∧ Rp K A m H d v
  | none => u = none
/-- what a dict has at a key, in the heap -/
def dictIx (a b : Ev) : Option (Option D) := match a, b with
  | .d (.dK ks l), .d x => (keyOf x).map (vAt ks l)
  | .dk .vw ks l, .d x => (keyOf x).map (vAt ks l)
  | .dk .pv ks l, .d x => (keyOf x).map (vAt ks l)
  | .d (.dT ks l), .d (.tup x) => (keysOf x).map (vAt ks l)
  | .dt .vw ks l, .d (.tup x) => (keysOf x).map (vAt ks l)
  | .dt .pv ks l, .d (.tup x) => (keysOf x).map (vAt ks l)
  | _, _ => none
theorem dict_k {K : PySem.W.Frag} {A m : List Addr} {H : Hp} {a : Addr} {kvs : List (Key × V)} {l : List D} {x : D} {w : V} {o : Option D} (hs : H a = some (.dK kvs)) (q : Rps K A m H l (kvs.map (·.2))) (r : Rp K A m H x w)
    (h : (keyOf x).map (vAt (kvs.map (·.1)) l) = some o) : ∃ u, DGet H a w u ∧ OptR K A m H o u := by
  cases e : keyOf x with
  | none => rw [e] at h; cases h
  | some k =>
    rw [e] at h
    have ew := keyOf_at e r
    subst ew
    refine ⟨valV kvs k, .k hs, ?_⟩
    have eo : vAt (kvs.map (·.1)) l k = o := by simpa using h
    cases o with
    | some d => exact vAt_val eo q
    | none => exact vAt_none eo q
theorem dict_t {K : PySem.W.Frag} {A m : List Addr} {H : Hp} {a : Addr} {kvs : List (List Key × V)} {l : List D} {x : List D} {w : V} {o : Option D} (hs : H a = some (.dT kvs)) (q : Rps K A m H l (kvs.map (·.2))) (r : Rp K A m H (.tup x) w)
    (h : (keysOf x).map (vAt (kvs.map (·.1)) l) = some o) : ∃ u, DGet H a w u ∧ OptR K A m H o u := by
  cases e : keysOf x with
  | none => rw [e] at h; cases h
  | some k =>
    rw [e] at h
    obtain ⟨b, vs, ew, hb, rb⟩ := r
    have ev := keysOf_at e rb
    subst ev
    subst ew
    refine ⟨valV kvs k, .t hs hb, ?_⟩
    have eo : vAt (kvs.map (·.1)) l k = o := by simpa using h
    cases o with
    | some d => exact vAt_val eo q
    | none => exact vAt_none eo q
theorem dictIx_at {K : PySem.W.Frag} {H0 H : Hp} {A m : List Addr} {x y : Ev} {v w : V} {o : Option D} (h : dictIx x y = some o) (r1 : EvR K H0 A m H x v) (r2 : EvR K H0 A m H y w) :
    ∃ a u, v = .ref a ∧ DGet H a w u ∧ OptR K A m H o u := by
  unfold dictIx at h
  split at h
  · obtain ⟨a, kvs, e, hs, ek, _, q⟩ := r1; subst ek; obtain ⟨u, q1, q2⟩ := dict_k hs q r2 h; exact ⟨a, u, e, q1, q2⟩
  · obtain ⟨a, kvs, e, hs, ek, _, _, q⟩ := r1; subst ek; obtain ⟨u, q1, q2⟩ := dict_k hs q r2 h; exact ⟨a, u, e, q1, q2⟩
  · obtain ⟨a, kvs, e, hs, ek, _, _, q⟩ := r1; subst ek; obtain ⟨u, q1, q2⟩ := dict_k hs q r2 h; exact ⟨a, u, e, q1, q2⟩
  · obtain ⟨a, kvs, e, hs, ek, _, q⟩ := r1; subst ek; obtain ⟨u, q1, q2⟩ := dict_t hs q r2 h; exact ⟨a, u, e, q1, q2⟩
  · obtain ⟨a, kvs, e, hs, ek, _, _, q⟩ := r1; subst ek; obtain ⟨u, q1, q2⟩ := dict_t hs q r2 h; exact ⟨a, u, e, q1, q2⟩
  · obtain ⟨a, kvs, e, hs, ek, _, _, q⟩ := r1; subst ek; obtain ⟨u, q1, q2⟩ := dict_t hs q r2 h; exact ⟨a, u, e, q1, q2⟩
  · cases h
/-- o[i], o a dict -/
def opDget (a b : Ev) (M : Mem) : R Ev := match dictIx a b with
  | some (some d) => .ok (.d d) M
  | _ => .stuck
theorem de_dget (hu : X.A.units + 1 < cLine) (ha : PE X a (tE (cf X T W) f)) (hb : PE X b (tE (cf X T W) g)) (hs : NoSl b := by exact fun _ _ => rfl) : PE X (.Subscript a b pos) (tE (cf X T W) (eBin opDget f g)) := by
  refine ⟨fun pins s σ H Q I q => (pe_dget hu ha hb hs).run pins s σ H Q I ?_⟩
  obtain ⟨H0, A, m, M, ρ, P, F, q⟩ := q
  refine sub F q fun x M1 H1 v F1 _ r1 q1 => ?_
  refine sub F1 q1 fun y M2 H2 w F2 s2 r2 q2 => ?_
  unfold opDget at q2
  split at q2
  · rename_i d hd
    obtain ⟨a, u, e, g, z, e2, r⟩ := dictIx_at hd (EvR.step F1.wr.aok F1.ma s2 r1) r2
    subst e2
    exact ⟨a, z, e, g, q2.fin F2 r⟩
  · exact q2.elim
/-- k in d, k not in d -/
def opDin (neg : Bool) (a b : Ev) (M : Mem) : R Ev := match dictIx b a with
  | some o => .ok (bv (if neg then !o.isSome else o.isSome)) M
  | none => .stuck
theorem isSome_of {K : PySem.W.Frag} {A m : List Addr} {H : Hp} {o : Option D} {u : Option V} (h : OptR K A m H o u) : u.isSome = o.isSome := by
  cases o with
  | some d => obtain ⟨v, e, _⟩ := h; rw [e]; rfl
  | none => rw [show u = none from h]; rfl
theorem dc_din (hu : X.A.units + 1 < cLine) (ha : PE X a (tE (cf X T W) f)) (hb : PE X b (tE (cf X T W) g)) : PC X .In a b (tE (cf X T W) (eBin (opDin false) f g)) := by
  refine ⟨fun pins s σ H Q I q => (pc_din hu ha hb).run pins s σ H Q I ?_⟩
  obtain ⟨H0, A, m, M, ρ, P, F, q⟩ := q
  refine sub F q fun x M1 H1 v F1 _ r1 q1 => ?_
  refine sub F1 q1 fun y M2 H2 w F2 s2 r2 q2 => ?_
  unfold opDin at q2
  split at q2
  · rename_i o hd
    obtain ⟨a, u, e, g, z⟩ := dictIx_at hd r2 (EvR.step F1.wr.aok F1.ma s2 r1)
    refine ⟨a, u, e, g, ?_⟩
    rw [isSome_of z]; exact q2.fin F2 rfl
  · exact q2.elim
theorem dc_dnotin (hu : X.A.units + 1 < cLine) (ha : PE X a (tE (cf X T W) f)) (hb : PE X b (tE (cf X T W) g)) : PC X .NotIn a b (tE (cf X T W) (eBin (opDin true) f g)) := by
  refine ⟨fun pins s σ H Q I q => (pc_dnotin hu ha hb).run pins s σ H Q I ?_⟩
  obtain ⟨H0, A, m, M, ρ, P, F, q⟩ := q
  refine sub F q fun x M1 H1 v F1 _ r1 q1 => ?_
  refine sub F1 q1 fun y M2 H2 w F2 s2 r2 q2 => ?_
  unfold opDin at q2
  split at q2
  · rename_i o hd
    obtain ⟨a, u, e, g, z⟩ := dictIx_at hd r2 (EvR.step F1.wr.aok F1.ma s2 r1)
    refine ⟨a, u, e, g, ?_⟩
    rw [isSome_of z]; exact q2.fin F2 rfl
  · exact q2.elim
theorem de_pc {op : CmpOp} {o : Sm Ev} (h : PC X op a b (tE (cf X T W) o)) (h1 : behindInMarks op b = false := by first | exact nobehind _ (by decide) (by decide) | rfl) : PE X (.Compare a [op] [b] pos) (tE (cf X T W) o) := pe_cmp h h1
theorem dt_pc {op : CmpOp} {o : Sm Ev} (h : PC X op a b (tE (cf X T W) o)) (h1 : behindInMarks op b = false := by first | exact nobehind _ (by decide) (by decide) | rfl) : PT X (.Compare a [op] [b] pos) (tT (cf X T W) fun ρ M => asB (o ρ M)) := by
  refine ⟨fun pins s σ H Q I q => (pt_cmp h h1).run pins s σ H Q I ?_⟩
  obtain ⟨H0, A, m, M, ρ, P, F, q⟩ := q
  exact asB_run F q
/-! ### x in l, l a list or tuple of flat things -/
def flatD : D → Bool
  | .non => true
  | .bl _ => true
  | .int _ => true
  | .str _ => true
  | _ => false
def flatE : Ev → Bool
  | .d x => flatD x
  | _ => false
def eqD1 : D → D → Bool
  | .non, .non => true
  | .bl a, .bl b => a == b
  | .bl a, .int b => (if a then 1 else 0) == b
  | .int a, .bl b => a == (if b then 1 else 0)
  | .int a, .int b => a == b
  | .str a, .str b => a == b
  | _, _ => false
theorem flat_at {K : PySem.W.Frag} {A m : List Addr} {H : Hp} {x : D} {v : V} (h : flatD x = true) (r : Rp K A m H x v) : flatV v = true ∧ scV x = some v := by
  cases x <;> first | (cases (show v = _ from r); exact ⟨rfl, rfl⟩) | cases h
theorem eqD1_at {x y : D} {v w : V} (h1 : scV x = some v) (h2 : scV y = some w) : eqV v w = eqD1 x y := by
  cases x <;> cases h1 <;> cases y <;> cases h2 <;> rfl
def inD (x : D) (l : List D) : Bool := l.any fun y => eqD1 y x
theorem inD_at {K : PySem.W.Frag} {A m : List Addr} {H : Hp} {x : D} {v : V} (h1 : scV x = some v) : ∀ {l : List D} {vs : List V}, l.all flatD = true → Rps K A m H l vs → vs.all flatV = true ∧ inV v vs = inD x l
  | [], _, _, r => by cases (show _ = [] from r); exact ⟨rfl, rfl⟩
  | y :: l, _, h, ⟨w, r, e, q1, q2⟩ => by
    subst e
    rw [List.all_cons, Bool.and_eq_true] at h
    have a := flat_at h.1 q1
    have ih := inD_at h1 h.2 q2
    refine ⟨by rw [List.all_cons, a.1, ih.1]; rfl, ?_⟩
    show (eqV w v || inV v r) = (eqD1 y x || inD x l)
    rw [eqD1_at a.2 h1, ih.2]
def opIn (neg : Bool) (a b : Ev) (M : Mem) : R Ev := match a, seqOf b with
  | .d x, some l => if flatD x = true ∧ l.all flatD = true then .ok (bv (if neg then !inD x l else inD x l)) M else .stuck
  | _, _ => .stuck
theorem ok_in {neg : Bool} : OpOk (cf X T W) (opIn neg) (rIn X.K neg) := by
  intro H0 A m M H ρ σ P x y v w Q F rx ry h
  unfold opIn at h
  split at h
  · rename_i x' l hl
    split at h
    · rename_i hc
      obtain ⟨a, vs, e, hs, q⟩ := seqOf_at hl ry
      have f := flat_at hc.1 (show Rp _ _ _ _ x' v from rx)
      have z := inD_at f.2 hc.2 q
      refine ⟨a, vs, e, hs, f.1, z.1, ?_⟩
      rw [z.2]; exact h.fin F rfl
    · exact h.elim
  · exact h.elim
theorem ci_in : CmpIs X T W .In (opIn false) := ⟨_, op_in_seq, ok_in⟩
theorem ci_notin : CmpIs X T W .NotIn (opIn true) := ⟨_, op_notIn_seq, ok_in⟩
/-! ### slices -/
def SOk (C : Cf) (op : Ev → Option Int → Option Int → Mem → R Ev) (r : V → Option Int → Option Int → Hp → VK → Prop) : Prop := ∀ H0 A m M H ρ σ P x v lo hi Q, FR C H0 A m M H ρ σ P → EvR C.K H0 A m H x v → PX C m σ (EvR C.K H0 A m) H (op x lo hi M) Q → r v lo hi H Q
def cutD {α : Type} (xs : List α) (lo hi : Option Int) : List α := (xs.drop (HT.sIx xs.length 0 lo)).take (HT.sIx xs.length xs.length hi - HT.sIx xs.length 0 lo)
theorem cutD_rps {K : PySem.W.Frag} {A m : List Addr} {H : Hp} {l : List D} {vs : List V} (r : Rps K A m H l vs) (lo hi : Option Int) : Rps K A m H (cutD l lo hi) (cutV vs lo hi) := by
  unfold cutD cutV
  rw [Rps.len r]
  exact Rps.take _ (Rps.drop _ r)
def opSl (x : Ev) (lo hi : Option Int) (M : Mem) : R Ev := match x with
  | .d (.tup l) => .ok (.d (.tup (cutD l lo hi))) M
  | .d (.sc ns) => .ok (.d (.lst (cutD (ns.map D.int) lo hi))) M
  | x => match lstOf x with
    | some l => .ok (.d (.lst (cutD l lo hi))) M
    | none => .stuck
theorem cutD_all {α : Type} {xs : List α} {lo hi : Option Int} (h : HT.sIx xs.length 0 lo = 0 ∧ HT.sIx xs.length xs.length hi = xs.length) : cutD xs lo hi = xs := by
  unfold cutD
  rw [h.1, h.2]
  simp
theorem sl_A : L2.SlR X (fun x lo hi H Q => rSlL X.K x lo hi H Q ∨ rSlA X.K x lo hi H Q) := sl_list.or sl_tupA
theorem ok_sl : SOk (cf X T W) opSl (fun x lo hi H Q => rSlL X.K x lo hi H Q ∨ rSlA X.K x lo hi H Q) := by
  intro H0 A m M H ρ σ P x v lo hi Q F r h
  unfold opSl at h
  split at h
  · rename_i l
    obtain ⟨a, vs, e, hs, q⟩ := r
    refine .inr ⟨a, vs, e, SqT.of hs, fun z => ?_, fun _ p hp => h.made F hp (newT (C := cf X T W) hp (cutD_rps q lo hi))⟩
    rw [Rps.len q] at z
    rw [cutD_all z] at h
    exact h.fin F ⟨a, vs, rfl, hs, q⟩
  · rename_i ns
    obtain ⟨a, e, hs⟩ := r
    have hq : SqL X.K H a (ns.map V.int) := hs.elim (fun h => .inl (.inr h)) .inr
    exact .inl ⟨a, ns.map V.int, e, hq, fun p hp => h.made F hp (newL (C := cf X T W) F hp (cutD_rps (Rps.of_ints ns) lo hi))⟩
  · split at h
    · rename_i l hl
      obtain ⟨a, vs, e, hs, q⟩ := lstOf_at hl r
      exact .inl ⟨a, vs, e, SqL.of hs, fun p hp => h.made F hp (newL F hp (cutD_rps q lo hi))⟩
    · exact h.elim
/-- a part of a slice -/
def relO : Rel (Option Int) (Option Int) := fun _ _ _ _ a b => a = b
abbrev tOI (C : Cf) (f : Sm (Option Int)) : TO := tX C relO f
def oNone : Sm (Option Int) := fun _ M => .ok none M
def oSome (f : Sm Ev) : Sm (Option Int) := fun ρ M => bnd (f ρ M) fun x M1 => match x with
  | .d (.int i) => .ok (some i) M1
  | _ => .stuck
theorem do_none : PO X none (tOI (cf X T W) oNone) := by
  refine ⟨fun pins s σ H Q I q => po_none.run pins s σ H Q I ?_⟩
  obtain ⟨H0, A, m, M, ρ, P, F, q⟩ := q
  exact q.fin F rfl
theorem do_some (ha : PE X a (tE (cf X T W) f)) : PO X (some a) (tOI (cf X T W) (oSome f)) := by
  refine ⟨fun pins s σ H Q I q => (po_some ha).run pins s σ H Q I ?_⟩
  obtain ⟨H0, A, m, M, ρ, P, F, q⟩ := q
  refine sub F q fun x M1 H1 v F1 _ r1 q1 => ?_
  split at q1
  · rename_i i; exact ⟨i, r1, q1.fin F1 rfl⟩
  · exact q1.elim
def eSl (f : Sm Ev) (lo hi : Sm (Option Int)) : Sm Ev := fun ρ M => bnd (f ρ M) fun x M1 => bnd (lo ρ M1) fun i M2 => bnd (hi ρ M2) fun j M3 => opSl x i j M3
theorem de_sl {lo hi : Option Expr} {ol oh : Sm (Option Int)} {p2 : Pos} (ha : PE X a (tE (cf X T W) f)) (hl : PO X lo (tOI (cf X T W) ol)) (hh : PO X hi (tOI (cf X T W) oh)) : PE X (.Subscript a (.Slice lo hi none p2) pos) (tE (cf X T W) (eSl f ol oh)) := by
  refine ⟨fun pins s σ H Q I q => (pe_slice sl_A ha hl hh).run pins s σ H Q I ?_⟩
  obtain ⟨H0, A, m, M, ρ, P, F, q⟩ := q
  refine sub F q fun x M1 H1 v F1 _ r1 q1 => ?_
  refine sub F1 q1 fun i M2 H2 i' F2 s2 r2 q2 => ?_
  refine sub F2 q2 fun j M3 H3 j' F3 s3 r3 q3 => ?_
  cases (show i = i' from r2)
  cases (show j = j' from r3)
  exact ok_sl H0 A m M3 H3 ρ σ P x v i j Q F3 (EvR.step F2.wr.aok F2.ma s3 (EvR.step F1.wr.aok F1.ma s2 r1)) q3
end
end DL

set_option Elab.async false
set_option linter.all false
set_option maxRecDepth 100000
set_option maxHeartbeats 2000000
/-! The data layer: frames that grow, are written; statements. -/
namespace DL
open PySem PySem.Spec PyProof.Rows L2
theorem not_lv_of {H : Hp} {a : Addr} (h : H a = none) : ¬ Lv H a := fun ⟨o, e, _⟩ => by rw [h] at e; cases e
/-- what a statement may do: write within A, lay new things -/
structure Ext (H0 : Hp) (A : List Addr) (H : Hp) (A' : List Addr) (H' : Hp) : Prop where
  sub : ∀ a ∈ A, Lv H0 a → a ∈ A'
  new : ∀ a ∈ A', a ∈ A ∨ ¬ Lv H a
  keep : Stp A H H'
theorem Ext.refl {H0 : Hp} {A : List Addr} {H : Hp} : Ext H0 A H A H := ⟨fun _ h _ => h, fun _ h => .inl h, Stp.refl _ _⟩
theorem Ext.trans {H0 : Hp} {A A1 A2 : List Addr} {H H1 H2 : Hp} (a : Ext H0 A H A1 H1) (b : Ext H0 A1 H1 A2 H2) : Ext H0 A H A2 H2 :=
  ⟨fun x h z => b.sub x (a.sub x h z) z, fun x h => by
    rcases b.new x h with h | h
    · exact a.new x h
    · by_cases hx : x ∈ A
      · exact .inl hx
      · exact .inr fun z => h (a.keep.lv z hx),
   fun x o e n t => b.keep x o (a.keep x o e n t) (fun z => (a.new x z).elim n fun q => q ⟨o, e, t⟩) t⟩
theorem Ext.step {H0 : Hp} {A m : List Addr} {H H' : Hp} (s : Stp m H H') (hm : ∀ a ∈ m, a ∈ A) : Ext H0 A H A H' := ⟨fun _ h _ => h, fun _ h => .inl h, s.mono hm⟩
/-- fewer addresses are avoided -/
theorem Ext.less {H0 : Hp} {A A' : List Addr} {H : Hp} (h : ∀ a ∈ A', a ∈ A) (k : ∀ a ∈ A, Lv H0 a → a ∈ A') : Ext H0 A H A' H := ⟨k, fun a ha => .inl (h a ha), Stp.refl _ _⟩
theorem Rp.ext {K : PySem.W.Frag} {H0 : Hp} {A A' m : List Addr} {H H' : Hp} (e : Ext H0 A H A' H') (ok : AOk A H) {d : D} {v : V} (h : Rp K A m H d v) : Rp K A' m H' d v :=
  Rp.avoid (fun a ha => .inl (List.mem_append_right _ ha)) d v (Rp.step (A := A ++ A') (B := A) ok (fun a ha => List.mem_append_left _ ha) e.keep d v (Rp.avoid (fun a ha => (List.mem_append.mp ha).elim .inl (e.new a)) d v h))
theorem Rps.ext {K : PySem.W.Frag} {H0 : Hp} {A A' m : List Addr} {H H' : Hp} (e : Ext H0 A H A' H') (ok : AOk A H) {l : List D} {vs : List V} (h : Rps K A m H l vs) : Rps K A' m H' l vs :=
  Rps.avoid (fun a ha => .inl (List.mem_append_right _ ha)) l vs (Rps.step (A := A ++ A') (B := A) ok (fun a ha => List.mem_append_left _ ha) e.keep l vs (Rps.avoid (fun a ha => (List.mem_append.mp ha).elim .inl (e.new a)) l vs h))
section
variable {C : Cf} {K : PySem.W.Frag} {H0 H H' : Hp} {A A' m B : List Addr} {M M' : Mem} {ρ : Env} {σ : L2.St} {P : List Addr}
/-- writes at addresses that are no caller's: the slots whose own addresses are others stay -/
theorem EvR.pvO (ok : AOk B H) (hA : ∀ a ∈ B, a ∈ A) (h0 : ∀ a ∈ B, ¬ Lv H0 a) (s : Stp B H H') : ∀ {x : Ev} {v : V}, (match x with | .ls .pv _ => True | .dk .pv _ _ => True | .dt .pv _ _ => True | _ => False) → EvR K H0 A m H x v → EvR K H0 A m H' x v
  | .ls .pv l, v, _, ⟨a, vs, e, h, n, z, r⟩ => ⟨a, vs, e, s a _ h (fun hb => h0 a hb z) lst_tbl, n, z, Rps.step ok hA s _ _ r⟩
  | .dk .pv ks l, v, _, ⟨a, vs, e, h, ek, n, z, r⟩ => ⟨a, vs, e, s a _ h (fun hb => h0 a hb z) dK_tbl, ek, n, z, Rps.step ok hA s _ _ r⟩
  | .dt .pv ks l, v, _, ⟨a, vs, e, h, ek, n, z, r⟩ => ⟨a, vs, e, s a _ h (fun hb => h0 a hb z) dT_tbl, ek, n, z, Rps.step ok hA s _ _ r⟩
theorem SlR.stepO (ok : AOk B H) (hA : ∀ a ∈ B, a ∈ A) (h0 : ∀ a ∈ B, ¬ Lv H0 a) (s : Stp B H H') : ∀ {x : Ev} {v : V} {P : List Addr}, (∀ a ∈ P, a ∉ B) → SlR K H0 A m H x v P → SlR K H0 A m H' x v P
  | .d x, v, P, hP, ⟨e, h⟩ => ⟨e, Rp.step ok hA s x v h⟩
  | .ls .pv l, v, P, hP, ⟨e, h⟩ => ⟨e, EvR.pvO ok hA h0 s trivial h⟩
  | .ls .own l, v, P, hP, ⟨a, vs, e, h, eP, r⟩ => ⟨a, vs, e, s a _ h (hP a (by rw [eP]; exact List.mem_cons_self)) lst_tbl, eP, Rps.step ok hA s _ _ r⟩
  | .rw .own rows, v, P, hP, ⟨a, vs, P', e, h, eP, r⟩ => ⟨a, vs, P', e, s a _ h (hP a (by rw [eP]; exact List.mem_cons_self)) lst_tbl, eP, RowsR.step ok hA s (fun b hb => hP b (by rw [eP]; exact List.mem_cons_of_mem _ hb)) r⟩
  | .dk .pv ks l, v, P, hP, ⟨e, h⟩ => ⟨e, EvR.pvO ok hA h0 s trivial h⟩
  | .dk .own ks l, v, P, hP, ⟨a, kvs, e, h, ek, eP, r⟩ => ⟨a, kvs, e, s a _ h (hP a (by rw [eP]; exact List.mem_cons_self)) dK_tbl, ek, eP, Rps.step ok hA s _ _ r⟩
  | .dt .pv ks l, v, P, hP, ⟨e, h⟩ => ⟨e, EvR.pvO ok hA h0 s trivial h⟩
  | .dt .own ks l, v, P, hP, ⟨a, kvs, e, h, ek, eP, r⟩ => ⟨a, kvs, e, s a _ h (hP a (by rw [eP]; exact List.mem_cons_self)) dT_tbl, ek, eP, Rps.step ok hA s _ _ r⟩
  | .ls .vw _, _, _, _, h => h.elim
  | .rw .vw _, _, _, _, h => h.elim
  | .rw .pv _, _, _, _, h => h.elim
  | .dk .vw _ _, _, _, _, h => h.elim
  | .dt .vw _ _, _, _, _, h => h.elim
theorem ER.stepO (ok : AOk B H) (hA : ∀ a ∈ B, a ∈ A) (h0 : ∀ a ∈ B, ¬ Lv H0 a) (s : Stp B H H') : ∀ {ρ : Env} {σ : L2.St} {P : List Addr}, (∀ a ∈ P, a ∉ B) → ER K H0 A m H ρ σ P → ER K H0 A m H' ρ σ P
  | [], _, _, _, h => h
  | none :: ρ, σ, P, hP, ⟨y, τ, e, h⟩ => ⟨y, τ, e, ER.stepO ok hA h0 s hP h⟩
  | some x :: ρ, σ, P, hP, ⟨v, τ, P1, P2, e, eP, h1, h2⟩ =>
    ⟨v, τ, P1, P2, e, eP, SlR.stepO ok hA h0 s (fun a ha => hP a (by rw [eP]; exact List.mem_append_left _ ha)) h1, ER.stepO ok hA h0 s (fun a ha => hP a (by rw [eP]; exact List.mem_append_right _ ha)) h2⟩
/-- more addresses are avoided: new ones -/
theorem RowsR.avoid (hA : ∀ a ∈ A', a ∈ A ∨ ¬ Lv H a) : ∀ {rows : List (List D)} {vs : List V} {P : List Addr}, RowsR K A m H rows vs P → RowsR K A' m H rows vs P
  | [], _, _, h => h
  | row :: rows, vs, P, ⟨b, ws, r, P', e, eP, hb, hr, ht⟩ => ⟨b, ws, r, P', e, eP, hb, Rps.avoid hA _ _ hr, RowsR.avoid hA ht⟩
theorem SlR.avoid (hA : ∀ a ∈ A', a ∈ A ∨ ¬ Lv H a) : ∀ {x : Ev} {v : V} {P : List Addr}, SlR K H0 A m H x v P → SlR K H0 A' m H x v P
  | .d x, v, P, ⟨e, h⟩ => ⟨e, Rp.avoid hA x v h⟩
  | .ls .pv l, v, P, ⟨e, a, vs, e1, h, n, z, r⟩ => ⟨e, a, vs, e1, h, n, z, Rps.avoid hA _ _ r⟩
  | .ls .own l, v, P, ⟨a, vs, e, h, eP, r⟩ => ⟨a, vs, e, h, eP, Rps.avoid hA _ _ r⟩
  | .rw .own rows, v, P, ⟨a, vs, P', e, h, eP, r⟩ => ⟨a, vs, P', e, h, eP, RowsR.avoid hA r⟩
  | .dk .pv ks l, v, P, ⟨e, a, vs, e1, h, ek, n, z, r⟩ => ⟨e, a, vs, e1, h, ek, n, z, Rps.avoid hA _ _ r⟩
  | .dk .own ks l, v, P, ⟨a, kvs, e, h, ek, eP, r⟩ => ⟨a, kvs, e, h, ek, eP, Rps.avoid hA _ _ r⟩
  | .dt .pv ks l, v, P, ⟨e, a, vs, e1, h, ek, n, z, r⟩ => ⟨e, a, vs, e1, h, ek, n, z, Rps.avoid hA _ _ r⟩
  | .dt .own ks l, v, P, ⟨a, kvs, e, h, ek, eP, r⟩ => ⟨a, kvs, e, h, ek, eP, Rps.avoid hA _ _ r⟩
  | .ls .vw _, _, _, h => h.elim
  | .rw .vw _, _, _, h => h.elim
  | .rw .pv _, _, _, h => h.elim
  | .dk .vw _ _, _, _, h => h.elim
  | .dt .vw _ _, _, _, h => h.elim
theorem ER.avoid (hA : ∀ a ∈ A', a ∈ A ∨ ¬ Lv H a) : ∀ {ρ : Env} {σ : L2.St} {P : List Addr}, ER K H0 A m H ρ σ P → ER K H0 A' m H ρ σ P
  | [], _, _, h => h
  | none :: ρ, σ, P, ⟨y, τ, e, h⟩ => ⟨y, τ, e, ER.avoid hA h⟩
  | some x :: ρ, σ, P, ⟨v, τ, P1, P2, e, eP, h1, h2⟩ => ⟨v, τ, P1, P2, e, eP, SlR.avoid hA h1, ER.avoid hA h2⟩
theorem Tabs.mut {T : List (Addr × Str)} (t : LamX.Tabs T H) {a : Addr} {o o' : HO} (h : H a = some o) (mu : muta o) : LamX.Tabs T (L2.upd H a o') := by
  intro p hp
  obtain ⟨ps, e, ok, hc⟩ := t p hp
  have ne : p.1 ≠ a := ne_of e h (fun z => by rw [← z] at mu; exact mu)
  refine ⟨ps, by rw [upd_ne ne]; exact e, ok, fun pos cv q => ?_⟩
  obtain ⟨c, e1, e2⟩ := hc pos cv q
  refine ⟨c, e1, ?_⟩
  rw [upd_ne (ne_of e2 h (fun z => by rw [← z] at mu; exact mu))]
  exact e2
theorem WR.mut (w : WR K m M H) {a : Addr} {o o' : HO} (hm : a ∉ m) (h : H a = some o) (mu : muta o) : WR K m M (L2.upd H a o') := by
  refine ⟨w.len, w.nd, fun n b ob e1 e2 => ?_⟩
  have q := w.ok n b ob e1 e2
  have nb : b ≠ a := fun z => hm (by rw [← z]; exact List.mem_of_getElem? e1)
  cases ob with
  | lst l =>
    obtain ⟨vs, e, bl, r⟩ := q
    refine ⟨vs, by rw [upd_ne nb]; exact e, bl, ?_⟩
    have r1 : Rps K [a] m H l vs := Rps.bare l vs bl r
    have r2 : Rps K [a] m (L2.upd H a o') l vs := Rps.step (B := [a]) (fun x hx => by rw [List.mem_singleton.mp hx]; exact ⟨o, h, mu⟩) (fun _ z => z) (fun x u e n _ => by rw [upd_ne (fun z => n (by rw [z]; exact List.mem_singleton_self _))]; exact e) l vs r1
    exact Rps.bare l vs bl r2
theorem stp_upd {a : Addr} {o' : HO} : Stp [a] H (upd H a o') := fun x u e n _ => by rw [upd_ne (fun z => n (by rw [z]; exact List.mem_singleton_self _))]; exact e
theorem aok_one {a : Addr} {o : HO} (h : H a = some o) (mu : muta o) : AOk [a] H := fun x hx => by rw [List.mem_singleton.mp hx]; exact ⟨o, h, mu⟩
/-- an own address that no slot holds is written -/
theorem FR.write (F : FR C H0 A m M H ρ σ P) {a : Addr} {o o' : HO} (ha : a ∈ A) (hm : a ∉ m) (hP : a ∉ P) (h0 : ¬ Lv H0 a) (h : H a = some o) (mu : muta o) (mu' : muta o') : FR C H0 A m M (upd H a o') ρ σ P :=
  ⟨F.wr.mut hm h mu, Tabs.mut F.tb h mu, ER.stepO (B := [a]) (aok_one h mu) (fun x hx => by rw [List.mem_singleton.mp hx]; exact ha) (fun x hx => by rw [List.mem_singleton.mp hx]; exact h0) stp_upd (fun x hx z => hP (by rw [← List.mem_singleton.mp z]; exact hx)) F.er,
    F.nd, F.own, F.ma, fun x hx => by
      by_cases e : x = a
      · subst e; exact ⟨o', upd_same, mu'⟩
      · obtain ⟨u, e1, e2⟩ := F.aok x hx; exact ⟨u, by rw [upd_ne e]; exact e1, e2⟩,
    fun x u e n t => by
      have q := F.base x u e n t
      by_cases ex : x = a
      · subst ex; exact absurd ⟨u, e, t⟩ h0
      · rw [upd_ne ex]; exact q⟩
/-- a new list or dict that is avoided from now on -/
theorem FR.more (F : FR C H0 A m M H ρ σ P) {p : Addr} {o : HO} (hp : H p = none) (mu : muta o) : FR C H0 (p :: A) m M (upd H p o) ρ σ P := by
  have G := F.grow (o := o) hp
  refine ⟨G.wr, G.tb, ?_, F.nd, fun a ha => ⟨List.mem_cons_of_mem _ (F.own a ha).1, (F.own a ha).2⟩, fun a ha => List.mem_cons_of_mem _ (F.ma a ha), fun x hx => ?_, G.base⟩
  · have e1 : ER C.K H0 (p :: A) m H ρ σ P := ER.avoid (fun a ha => (List.mem_cons.mp ha).elim (fun z => .inr (by rw [z]; exact not_lv_of hp)) .inl) F.er
    exact ER.step F.wr.aok (fun a ha => List.mem_cons_of_mem _ (F.ma a ha)) (Stp.upd hp) (fun a ha => (F.own a ha).2.1) e1
  · rcases List.mem_cons.mp hx with rfl | hx
    · exact ⟨o, upd_same, mu⟩
    · exact G.aok x hx
theorem Ext.more {p : Addr} {o : HO} (hp : H p = none) : Ext H0 A H (p :: A) (upd H p o) :=
  ⟨fun a h _ => List.mem_cons_of_mem _ h, fun a h => (List.mem_cons.mp h).elim (fun z => .inr (by rw [z]; exact not_lv_of hp)) .inl, Stp.upd hp⟩
theorem Ext.write {a : Addr} {o' : HO} (ha : a ∈ A) : Ext H0 A H A (upd H a o') := ⟨fun _ h _ => h, fun _ h => .inl h, stp_upd.mono fun x hx => by rw [List.mem_singleton.mp hx]; exact ha⟩
/-! ### slots -/
theorem ER.len : ∀ {ρ : Env} {σ : L2.St} {P : List Addr}, ER K H0 A m H ρ σ P → σ.length = ρ.length
  | [], _, _, h => by rw [h.1]; rfl
  | none :: ρ, _, _, ⟨y, τ, e, h⟩ => by rw [e, List.length_cons, List.length_cons, ER.len h]
  | some x :: ρ, _, _, ⟨v, τ, P1, P2, e, eP, h1, h2⟩ => by rw [e, List.length_cons, List.length_cons, ER.len h2]
/-- a slot takes another thing: its own addresses P1 among those of the others -/
theorem ER.set {x : Ev} {v : V} {P1 : List Addr} (hx : SlR K H0 A m H x v P1) : ∀ {ρ : Env} {σ : L2.St} {P : List Addr} (i : Nat), ER K H0 A m H ρ σ P → i < ρ.length →
    ∃ L R, ER K H0 A m H (ρ.set i (some x)) (σ.set i (some v)) (L ++ P1 ++ R) ∧ (L ++ R).Sublist P
  | [], _, _, _, _, hi => absurd hi (Nat.not_lt_zero _)
  | none :: ρ, σ, P, 0, ⟨y, τ, e, h⟩, _ => ⟨[], P, ⟨v, τ, P1, P, by rw [e]; rfl, rfl, hx, h⟩, List.Sublist.refl _⟩
  | some z :: ρ, σ, P, 0, ⟨w, τ, Q1, Q2, e, eP, h1, h2⟩, _ => ⟨[], Q2, ⟨v, τ, P1, Q2, by rw [e]; rfl, rfl, hx, h2⟩, by rw [eP]; exact List.sublist_append_right _ _⟩
  | none :: ρ, σ, P, i + 1, ⟨y, τ, e, h⟩, hi => by
    obtain ⟨L, R, q, s⟩ := ER.set hx i h (Nat.lt_of_succ_lt_succ hi)
    exact ⟨L, R, ⟨y, τ.set i (some v), by rw [e]; rfl, q⟩, s⟩
  | some z :: ρ, σ, P, i + 1, ⟨w, τ, Q1, Q2, e, eP, h1, h2⟩, hi => by
    obtain ⟨L, R, q, s⟩ := ER.set hx i h2 (Nat.lt_of_succ_lt_succ hi)
    refine ⟨Q1 ++ L, R, ⟨w, τ.set i (some v), Q1, L ++ P1 ++ R, by rw [e]; rfl, by simp, h1, q⟩, ?_⟩
    rw [eP, List.append_assoc]
    exact List.Sublist.append (List.Sublist.refl _) s
/-- a slot takes a thing without own addresses -/
theorem FR.set (F : FR C H0 A m M H ρ σ P) {x : Ev} {v : V} {i : Nat} (hx : SlR C.K H0 A m H x v []) (hi : i < ρ.length) : ∃ P', FR C H0 A m M H (ρ.set i (some x)) (σ.set i (some v)) P' := by
  obtain ⟨L, R, q, s⟩ := ER.set hx i F.er hi
  refine ⟨L ++ R, F.wr, F.tb, by simpa using q, s.nodup F.nd, fun a ha => F.own a (s.subset ha), F.ma, F.aok, F.base⟩
/-- a slot takes a new list or dict of its own -/
theorem FR.setNew (F : FR C H0 A m M H ρ σ P) {x : Ev} {p : Addr} {i : Nat} (hA : p ∈ A) (hP : p ∉ P) (hm : p ∉ m) (h0 : ¬ Lv H0 p) (hx : SlR C.K H0 A m H x (.ref p) [p]) (hi : i < ρ.length) : ∃ P', FR C H0 A m M H (ρ.set i (some x)) (σ.set i (some (.ref p))) P' := by
  obtain ⟨L, R, q, s⟩ := ER.set hx i F.er hi
  refine ⟨L ++ [p] ++ R, F.wr, F.tb, q, ?_, fun a ha => ?_, F.ma, F.aok, F.base⟩
  · have nd := s.nodup F.nd
    rw [List.append_assoc]
    rw [List.nodup_append] at nd ⊢
    refine ⟨nd.1, ?_, ?_⟩
    · rw [List.singleton_append, List.nodup_cons]
      exact ⟨fun z => hP (s.subset (List.mem_append_right _ z)), nd.2.1⟩
    · intro a ha b hb
      rcases List.mem_append.mp hb with hb | hb
      · rw [List.mem_singleton.mp hb]
        exact fun z => hP (s.subset (List.mem_append_left _ (by rw [← z]; exact ha)))
      · exact nd.2.2 a ha b hb
  · rcases List.mem_append.mp ha with ha | ha
    · rcases List.mem_append.mp ha with ha | ha
      · exact F.own a (s.subset (List.mem_append_left _ ha))
      · rw [List.mem_singleton.mp ha]; exact ⟨hA, hm, h0⟩
    · exact F.own a (s.subset (List.mem_append_right _ ha))
/-- an own thing of a slot is written -/
theorem ER.mut {x x' : Ev} {v : V} {a : Addr} (ok : AOk [a] H) (ha : a ∈ A) (h0 : ¬ Lv H0 a) (s : Stp [a] H H')
    (hx : ∀ P1, SlR K H0 A m H x v P1 → P1.Nodup → SlR K H0 A m H' x' v P1) (hy : ∀ P1, SlR K H0 A m H x v P1 → a ∈ P1) : ∀ {ρ : Env} {σ : L2.St} {P : List Addr} {i : Nat}, P.Nodup → ER K H0 A m H ρ σ P → ρ[i]? = some (some x) → σ[i]? = some (some v) → ER K H0 A m H' (ρ.set i (some x')) σ P
  | [], _, _, i, _, _, e, _ => by simp at e
  | none :: ρ, _, _, 0, _, _, e, _ => by simp at e
  | some z :: ρ, σ, P, 0, nd, ⟨w, τ, Q1, Q2, eσ, eP, h1, h2⟩, e, e2 => by
    simp at e
    subst e
    rw [eσ] at e2
    have ew : w = v := by simpa using e2
    rw [eP, List.nodup_append] at nd
    subst ew
    have q1 := hx Q1 h1 nd.1
    have q2 := hy Q1 h1
    refine ⟨w, τ, Q1, Q2, eσ, eP, q1, ER.stepO ok (fun x hx => by rw [List.mem_singleton.mp hx]; exact ha) (fun x hx => by rw [List.mem_singleton.mp hx]; exact h0) s (fun b hb z => ?_) h2⟩
    rw [List.mem_singleton.mp z] at hb
    exact nd.2.2 a q2 a hb rfl
  | none :: ρ, σ, P, i + 1, nd, ⟨y, τ, eσ, h⟩, e, e2 => ⟨y, τ, eσ, ER.mut ok ha h0 s hx hy nd h (by simpa using e) (by rw [eσ] at e2; simpa using e2)⟩
  | some z :: ρ, σ, P, i + 1, nd, ⟨w, τ, Q1, Q2, eσ, eP, h1, h2⟩, e, e2 => by
    rw [eσ] at e2
    rw [eP, List.nodup_append] at nd
    have e' : ρ[i]? = some (some x) := by simpa using e
    have e2' : τ[i]? = some (some v) := by simpa using e2
    obtain ⟨w', P1, q1, q2, q3⟩ := ER.get h2 e'
    have ew : w' = v := by rw [e2'] at q1; cases q1; rfl
    subst ew
    have ha2 : a ∈ Q2 := q3 a (hy P1 q2)
    refine ⟨w, τ, Q1, Q2, eσ, eP, SlR.stepO ok (fun x hx => by rw [List.mem_singleton.mp hx]; exact ha) (fun x hx => by rw [List.mem_singleton.mp hx]; exact h0) s (fun b hb z => ?_) h1, ER.mut ok ha h0 s hx hy nd.2.1 h2 e' e2'⟩
    rw [List.mem_singleton.mp z] at hb
    exact nd.2.2 a hb a ha2 rfl
end
end DL

set_option Elab.async false
set_option linter.all false
set_option maxRecDepth 100000
set_option maxHeartbeats 2000000
/-! The data layer: statements, loops, targets. -/
namespace DL
open PySem PySem.Spec PyProof.Rows L2
inductive SR where
  | nx (ρ : Env) (M : Mem)
  | rt (d : D) (M : Mem)
  | bk (ρ : Env) (M : Mem)
  | ct (ρ : Env) (M : Mem)
  | exc (c : Str) (f : Option (Str × D)) (ρ : Env) (M : Mem)
  | stuck
abbrev Ss := Env → Mem → SR
/-- what is wanted of a statement's end -/
def PZ (C : Cf) (H0 : Hp) (A m : List Addr) (H : Hp) (r : SR) (D : Ends) : Prop := match r with
  | .nx ρ' M' => ∀ A' H' σ' P', Ext H0 A H A' H' → FR C H0 A' m M' H' ρ' σ' P' → D.nx σ' H'
  | .bk ρ' M' => ∀ A' H' σ' P', Ext H0 A H A' H' → FR C H0 A' m M' H' ρ' σ' P' → D.bk σ' H'
  | .ct ρ' M' => ∀ A' H' σ' P', Ext H0 A H A' H' → FR C H0 A' m M' H' ρ' σ' P' → D.ct σ' H'
  | .rt d M' => ∀ H' v, WR C.K m M' H' → LamX.Tabs C.T H' → Stp m H0 H' → (∀ B : List Addr, (∀ a ∈ B, a ∈ A ∧ Lv H0 a) → Rp C.K B m H' d v) → D.rt v H'
  | .exc c f ρ' M' => ∀ A' H' σ' P' cls d, Ext H0 A H A' H' → FR C H0 A' m M' H' ρ' σ' P' → XR C.mg H' c f cls d → C.W cls d σ' H'
  | .stuck => False
def tS (C : Cf) (f : Ss) : TS := fun D σ H => ∃ H0 A m M ρ P, FR C H0 A m M H ρ σ P ∧ PZ C H0 A m H (f ρ M) D
/-- the ends but what follows are as before -/
theorem PZ.step {C : Cf} {H0 H H' : Hp} {A A' m : List Addr} {r : SR} {D : Ends} (e : Ext H0 A H A' H') (h : PZ C H0 A m H r D) : PZ C H0 A' m H' r D := by
  cases r with
  | nx ρ M => exact fun A2 H2 σ2 P2 e2 F => h A2 H2 σ2 P2 (e.trans e2) F
  | bk ρ M => exact fun A2 H2 σ2 P2 e2 F => h A2 H2 σ2 P2 (e.trans e2) F
  | ct ρ M => exact fun A2 H2 σ2 P2 e2 F => h A2 H2 σ2 P2 (e.trans e2) F
  | rt d M => exact fun H2 v w t s q => h H2 v w t s fun B hB => q B fun a ha => ⟨e.sub a (hB a ha).1 (hB a ha).2, (hB a ha).2⟩
  | exc c f ρ M => exact fun A2 H2 σ2 P2 cls d e2 F x => h A2 H2 σ2 P2 cls d (e.trans e2) F x
  | stuck => exact h
/-- an expression within a statement -/
def sE {α : Type} (r : R α) (ρ : Env) (k : α → Mem → SR) : SR := match r with
  | .ok a M => k a M
  | .exc c f M => .exc c f ρ M
  | .stuck => .stuck
theorem subS {α β : Type} {C : Cf} {H0 H : Hp} {A m : List Addr} {M : Mem} {ρ : Env} {σ : L2.St} {P : List Addr} {rel : Rel α β} {f : Sm α} {k : α → Mem → SR} {D : Ends} (F : FR C H0 A m M H ρ σ P) (h : PZ C H0 A m H (sE (f ρ M) ρ k) D) {G : β → Hp → Prop}
    (hk : ∀ d M1 H1 v, FR C H0 A m M1 H1 ρ σ P → Stp m H H1 → rel H0 A m H1 d v → PZ C H0 A m H1 (k d M1) D → G v H1) : tX C rel f σ H G := by
  refine ⟨H0, A, m, M, ρ, P, F, ?_⟩
  cases e : f ρ M with
  | ok d M1 =>
    rw [e] at h
    exact fun H1 v s w t q => hk d M1 H1 v (F.step s w t) s q (PZ.step (Ext.step s F.ma) h)
  | exc c g M1 =>
    rw [e] at h
    exact fun H1 cls d s w t x => h A H1 σ P cls d (Ext.step s F.ma) (F.step s w t) x
  | stuck => rw [e] at h; exact h.elim
section
variable {X : Cx} {T : List (Addr × Str)} {W : WX} {st : Stmt} {rest : List Stmt} {a b c e : Expr} {pos : Pos} {f g : Ss} {fe ge : Sm Ev} {tc : Sm Bool}
def sNext : Ss := fun ρ M => .nx ρ M
def sSeq (f g : Ss) : Ss := fun ρ M => match f ρ M with
  | .nx ρ' M' => g ρ' M'
  | r => r
theorem dss_nil : PSs X [] (tS (cf X T W) sNext) := by
  refine ⟨fun pins s σ H D I q => pss_nil.run pins s σ H D I ?_⟩
  obtain ⟨H0, A, m, M, ρ, P, F, q⟩ := q
  exact q A H σ P Ext.refl F
theorem dss_one (h : PS X st (tS (cf X T W) f)) : PSs X [st] (tS (cf X T W) f) := pss_one h
theorem seq_run {C : Cf} {H0 H : Hp} {A m : List Addr} {M : Mem} {ρ : Env} {D : Ends} (q : PZ C H0 A m H (sSeq f g ρ M) D) : PZ C H0 A m H (f ρ M) { D with nx := tS C g D } := by
  unfold sSeq at q
  cases e : f ρ M with
  | nx ρ' M' => rw [e] at q; exact fun A' H' σ' P' x F => ⟨H0, A', m, M', ρ', P', F, PZ.step x q⟩
  | bk ρ' M' => rw [e] at q; exact q
  | ct ρ' M' => rw [e] at q; exact q
  | rt d M' => rw [e] at q; exact q
  | exc c g ρ' M' => rw [e] at q; exact q
  | stuck => rw [e] at q; exact q
theorem dss_cons (h1 : PS X st (tS (cf X T W) f)) (h2 : PSs X rest (tS (cf X T W) g)) : PSs X (st :: rest) (tS (cf X T W) (sSeq f g)) := by
  refine ⟨fun pins s σ H D I q => (pss_cons h1 h2).run pins s σ H D I ?_⟩
  obtain ⟨H0, A, m, M, ρ, P, F, q⟩ := q
  exact ⟨H0, A, m, M, ρ, P, F, seq_run q⟩
theorem ds_pass : PS X (.Pass pos) (tS (cf X T W) sNext) := by
  refine ⟨fun pins s σ H D I q => ps_pass.run pins s σ H D I ?_⟩
  obtain ⟨H0, A, m, M, ρ, P, F, q⟩ := q
  exact q A H σ P Ext.refl F
def sBreak : Ss := fun ρ M => .bk ρ M
def sCont : Ss := fun ρ M => .ct ρ M
theorem ds_break : PS X (.Break pos) (tS (cf X T W) sBreak) := by
  refine ⟨fun pins s σ H D I q => ps_break.run pins s σ H D I ?_⟩
  obtain ⟨H0, A, m, M, ρ, P, F, q⟩ := q
  exact q A H σ P Ext.refl F
theorem ds_continue : PS X (.Continue pos) (tS (cf X T W) sCont) := by
  refine ⟨fun pins s σ H D I q => ps_continue.run pins s σ H D I ?_⟩
  obtain ⟨H0, A, m, M, ρ, P, F, q⟩ := q
  exact q A H σ P Ext.refl F
/-- an expression whose value is dropped -/
def sDrop (fe : Sm Ev) : Ss := fun ρ M => sE (fe ρ M) ρ fun _ M1 => .nx ρ M1
theorem ds_expr (he : PE X e (tE (cf X T W) fe)) (hs : swapsWith e none pos.line X.env = pure false := by rfl) : PS X (.Expr e pos) (tS (cf X T W) (sDrop fe)) := by
  refine ⟨fun pins s σ H D I q => (ps_expr he hs).run pins s σ H D I ?_⟩
  obtain ⟨H0, A, m, M, ρ, P, F, q⟩ := q
  refine subS F q fun x M1 H1 v F1 _ r1 q1 => ?_
  exact q1 A H1 σ P Ext.refl F1
/-- what is handed back -/
def retD : Ev → Option D
  | .d x => some x
  | .ls .vw l => some (.lst l)
  | .dk .vw ks l => some (.dK ks l)
  | .dt .vw ks l => some (.dT ks l)
  | .rw .vw rows => some (.lst (rows.map D.lst))
  | _ => none
def sRet (fe : Sm Ev) : Ss := fun ρ M => sE (fe ρ M) ρ fun x M1 => match retD x with
  | some d => .rt d M1
  | none => .stuck
theorem retD_at {K : PySem.W.Frag} {H0 H : Hp} {A B m : List Addr} {x : Ev} {d : D} {v : V} (h : retD x = some d) (r : EvR K H0 A m H x v) (hB : ∀ a ∈ B, a ∈ A ∧ Lv H0 a) : Rp K B m H d v := by
  have av : ∀ a ∈ B, a ∈ A ∨ ¬ Lv H a := fun a ha => .inl (hB a ha).1
  unfold retD at h
  split at h
  · cases h; exact Rp.avoid av _ _ r
  · cases h; obtain ⟨a, vs, e, hl, _, z, q⟩ := r; exact ⟨a, vs, e, hl, fun w => z (hB a w).2, Rps.avoid av _ _ q⟩
  · cases h; obtain ⟨a, vs, e, hl, ek, _, z, q⟩ := r; exact ⟨a, vs, e, hl, ek, fun w => z (hB a w).2, Rps.avoid av _ _ q⟩
  · cases h; obtain ⟨a, vs, e, hl, ek, _, z, q⟩ := r; exact ⟨a, vs, e, hl, ek, fun w => z (hB a w).2, Rps.avoid av _ _ q⟩
  · cases h
    rename_i rows
    obtain ⟨a, vs, e, hl, _, z, q⟩ := r
    refine ⟨a, vs, e, hl, fun w => z (hB a w).2, ?_⟩
    have all : ∀ {rows : List (List D)} {vs : List V}, Paired (fun row u => ∃ b ws, u = V.ref b ∧ H b = some (.lst ws) ∧ b ∉ m ∧ ¬ Lv H0 b ∧ Rps K A m H row ws) rows vs → Rps K B m H (rows.map D.lst) vs := by
      intro rows vs h
      induction h with
      | nil => exact rfl
      | cons h1 h2 ih =>
        obtain ⟨b, ws, e1, e2, e3, e4, e5⟩ := h1
        exact ⟨_, _, rfl, ⟨b, ws, e1, e2, fun w => e4 (hB b w).2, Rps.avoid av _ _ e5⟩, ih⟩
    exact all q
  · cases h
theorem ds_ret (he : PE X e (tE (cf X T W) fe)) : PS X (.Return (some e) pos) (tS (cf X T W) (sRet fe)) := by
  refine ⟨fun pins s σ H D I q => (ps_ret he).run pins s σ H D I ?_⟩
  obtain ⟨H0, A, m, M, ρ, P, F, q⟩ := q
  refine subS F q fun x M1 H1 v F1 _ r1 q1 => ?_
  split at q1
  · rename_i d hd
    exact q1 H1 v F1.wr F1.tb F1.base fun B hB => retD_at hd r1 hB
  · exact q1.elim
def sRetN : Ss := fun _ M => .rt .non M
theorem ds_retN : PS X (.Return none pos) (tS (cf X T W) sRetN) := by
  refine ⟨fun pins s σ H D I q => ps_retN.run pins s σ H D I ?_⟩
  obtain ⟨H0, A, m, M, ρ, P, F, q⟩ := q
  exact q H .non F.wr F.tb F.base fun B hB => rfl
/-- if -/
def sIf (tc : Sm Bool) (f g : Ss) : Ss := fun ρ M => sE (tc ρ M) ρ fun k M1 => if k = true then f ρ M1 else g ρ M1
theorem ds_if {p q : List Stmt} (hc : PT X c (tT (cf X T W) tc)) (ha : PSs X p (tS (cf X T W) f)) (hb : PSs X q (tS (cf X T W) g)) : PS X (.If c p q pos) (tS (cf X T W) (sIf tc f g)) := by
  refine ⟨fun pins s σ H D I w => (ps_if hc ha hb).run pins s σ H D I ?_⟩
  obtain ⟨H0, A, m, M, ρ, P, F, w⟩ := w
  refine subS F w fun x M1 H1 v F1 _ r1 q1 => ?_
  cases (show x = v from r1)
  cases x with
  | true => exact ⟨H0, A, m, M1, ρ, P, F1, q1⟩
  | false => exact ⟨H0, A, m, M1, ρ, P, F1, q1⟩
/-- name = e -/
def stor : Ev → Option Ev
  | .d x => some (.d x)
  | .ls .pv l => some (.ls .pv l)
  | .dk .pv ks l => some (.dk .pv ks l)
  | .dt .pv ks l => some (.dt .pv ks l)
  | _ => none
theorem stor_at {K : PySem.W.Frag} {H0 H : Hp} {A m : List Addr} {x y : Ev} {v : V} (h : stor x = some y) (r : EvR K H0 A m H x v) : SlR K H0 A m H y v [] := by
  unfold stor at h
  split at h <;> cases h
  · exact ⟨rfl, r⟩
  · exact ⟨rfl, r⟩
  · exact ⟨rfl, r⟩
  · exact ⟨rfl, r⟩
def sAsg (i : Nat) (fe : Sm Ev) : Ss := fun ρ M => sE (fe ρ M) ρ fun x M1 => match stor x with
  | some y => if i < ρ.length then .nx (ρ.set i (some y)) M1 else .stuck
  | none => .stuck
theorem asg_run {C : Cf} {H0 H : Hp} {A m : List Addr} {M : Mem} {ρ : Env} {σ : L2.St} {P : List Addr} {D : Ends} {x : Ev} {v : V} {i : Nat} (F : FR C H0 A m M H ρ σ P) (r : EvR C.K H0 A m H x v)
    (q : PZ C H0 A m H (match stor x with | some y => if i < ρ.length then .nx (ρ.set i (some y)) M else .stuck | none => .stuck) D) : D.nx (σ.set i (some v)) H := by
  split at q
  · rename_i y hy
    split at q
    · rename_i hi
      obtain ⟨P', F'⟩ := F.set (stor_at hy r) hi
      exact q A H _ P' Ext.refl F'
    · exact q.elim
  · exact q.elim
theorem ds_set {i : Nat} {x : Str} {pos' : Pos} (hN : X.N.Nodup) (he : PE X e (tE (cf X T W) fe)) (hi : X.N[i]? = some x := by rfl) (hx : Loc X.env.scope x := by first | exact Or.inl rfl | exact Or.inr rfl) (hs : swapsWith e (some (.Name x pos')) pos.line X.env = pure false := by rfl) (hf : X.fn x = true ∨ X.env.scope.names.lookup x = some .local := by first | exact .inl rfl | exact .inr rfl | assumption) :
    PS X (.Assign [.Name x pos'] e pos) (tS (cf X T W) (sAsg i fe)) := by
  refine ⟨fun pins s σ H D I q => (ps_set hN hi hx he hs hf).run pins s σ H D I ?_⟩
  obtain ⟨H0, A, m, M, ρ, P, F, q⟩ := q
  refine subS F q fun x M1 H1 v F1 _ r1 q1 => ?_
  exact asg_run F1 r1 q1
/-! ### targets -/
inductive Tgt where
  | one (i : Nat)
  | many (is : List Nat)
def gsN : List Nat → TGs
  | [] => gNil
  | i :: is => gCons (gName i) (gsN is)
def tgG (K : PySem.W.Frag) : Tgt → TG
  | .one i => gName i
  | .many is => gTup K is.length (gsN is)
/-- .. a list unpacked -/
def tgL (K : PySem.W.Frag) : Tgt → TG
  | .one i => gName i
  | .many is => gLst K is.length (gsN is)
def setAll (σ : L2.St) : List Nat → List V → L2.St
  | i :: is, v :: vs => setAll (σ.set i (some v)) is vs
  | _, _ => σ
def setAllE (ρ : Env) : List Nat → List D → Env
  | i :: is, d :: l => setAllE (ρ.set i (some (.d d))) is l
  | _, _ => ρ
theorem setAllE_len : ∀ {is : List Nat} {l : List D} {ρ : Env}, (setAllE ρ is l).length = ρ.length
  | [], _, _ => rfl
  | _ :: _, [], _ => rfl
  | i :: is, d :: l, ρ => by show (setAllE (ρ.set i (some (.d d))) is l).length = _; rw [setAllE_len, List.length_set]
theorem gsN_run {H : Hp} {Q : L2.St → Hp → Prop} : ∀ {is : List Nat} {vs : List V} {σ : L2.St}, vs.length = is.length → Q (setAll σ is vs) H → gsN is vs σ H Q
  | [], [], σ, _, q => ⟨rfl, q⟩
  | i :: is, v :: vs, σ, h, q => ⟨v, vs, rfl, gsN_run (by simpa using h) q⟩
theorem FR.setAll {C : Cf} {H0 H : Hp} {A m : List Addr} {M : Mem} : ∀ {is : List Nat} {l : List D} {vs : List V} {ρ : Env} {σ : L2.St} {P : List Addr}, FR C H0 A m M H ρ σ P → Rps C.K A m H l vs → (∀ i ∈ is, i < ρ.length) → ∃ P', FR C H0 A m M H (setAllE ρ is l) (DL.setAll σ is vs) P'
  | [], _, _, ρ, σ, P, F, _, _ => ⟨P, F⟩
  | i :: is, [], vs, ρ, σ, P, F, r, _ => by cases (show vs = [] from r); exact ⟨P, F⟩
  | i :: is, d :: l, _, ρ, σ, P, F, ⟨v, r, e, h1, h2⟩, hi => by
    subst e
    obtain ⟨P1, F1⟩ := F.set (x := .d d) (v := v) (i := i) ⟨rfl, h1⟩ (hi i List.mem_cons_self)
    have q := FR.setAll (is := is) F1 h2 (fun j hj => by rw [List.length_set]; exact hi j (List.mem_cons_of_mem _ hj))
    exact q
/-- what a target makes of the slots -/
def tgE (g : Tgt) (ρ : Env) (d : D) : Option Env := match g with
  | .one i => if i < ρ.length then some (ρ.set i (some (.d d))) else none
  | .many is => match d with
    | .tup l => if l.length = is.length ∧ ∀ i ∈ is, i < ρ.length then some (setAllE ρ is l) else none
    | _ => none
theorem tg_run {C : Cf} {H0 H : Hp} {A m : List Addr} {M : Mem} {ρ ρ' : Env} {σ : L2.St} {P : List Addr} {g : Tgt} {d : D} {v : V} {Q : L2.St → Hp → Prop} (F : FR C H0 A m M H ρ σ P) (r : Rp C.K A m H d v) (h : tgE g ρ d = some ρ')
    (q : ∀ σ' P', FR C H0 A m M H ρ' σ' P' → Q σ' H) : tgG C.K g v σ H Q := by
  cases g with
  | one i =>
    have h' : (if i < ρ.length then some (ρ.set i (some (.d d))) else none) = some ρ' := h
    split at h'
    · rename_i hi
      cases h'
      obtain ⟨P', F'⟩ := F.set (x := .d d) (v := v) ⟨rfl, r⟩ hi
      exact q _ P' F'
    · cases h'
  | many is =>
    cases d with
    | tup l =>
      have h' : (if l.length = is.length ∧ ∀ i ∈ is, i < ρ.length then some (setAllE ρ is l) else none) = some ρ' := h
      split at h'
      · rename_i hc
        cases h'
        obtain ⟨a, vs, e, hs, r⟩ := r
        obtain ⟨P', F'⟩ := FR.setAll (is := is) F r hc.2
        exact ⟨a, vs, e, SqT.of hs, by rw [Rps.len r]; exact hc.1, gsN_run (by rw [Rps.len r]; exact hc.1) (q _ P' F')⟩
      · cases h'
    | _ => cases h
/-- a, b = e (e a tuple) -/
def sAsgT (g : Tgt) (fe : Sm Ev) : Ss := fun ρ M => sE (fe ρ M) ρ fun x M1 => match x with
  | .d d => match tgE g ρ d with
    | some ρ' => .nx ρ' M1
    | none => .stuck
  | _ => .stuck
theorem ds_asg {tg : Expr} {g : Tgt} (he : PE X e (tE (cf X T W) fe)) (hg : PG X tg (tgG X.K g)) (hs : swapsWithSole [tg] e pos.line X.env = pure false := by rfl) (hw : swappedStores [tg] e X.env = pure none := by rfl)
    (h1 : (assignEach [tg] X.env).map (·.2) = [assign tg X.env] := by rfl) : PS X (.Assign [tg] e pos) (tS (cf X T W) (sAsgT g fe)) := by
  refine ⟨fun pins s σ H D I q => (ps_asg he hg hs hw h1).run pins s σ H D I ?_⟩
  obtain ⟨H0, A, m, M, ρ, P, F, q⟩ := q
  refine subS F q fun x M1 H1 v F1 _ r1 q1 => ?_
  split at q1
  · rename_i d
    split at q1
    · rename_i ρ' hρ
      exact tg_run F1 r1 hρ fun σ' P' F' => q1 A H1 σ' P' Ext.refl F'
    · exact q1.elim
  · exact q1.elim
/-- a, b = x, y with plain names -/
def stors : List Ev → Option (List Ev)
  | [] => some []
  | x :: l => match stor x, stors l with
    | some y, some r => some (y :: r)
    | _, _ => none
def setEvs (ρ : Env) : List Nat → List Ev → Env
  | i :: is, x :: l => setEvs (ρ.set i (some x)) is l
  | _, _ => ρ
def sPar (is : List Nat) (fs : Sm (List Ev)) : Ss := fun ρ M => sE (fs ρ M) ρ fun xs M1 => match stors xs with
  | some ys => if ys.length = is.length ∧ ∀ i ∈ is, i < ρ.length then .nx (setEvs ρ is ys) M1 else .stuck
  | none => .stuck
theorem FR.setEvs {C : Cf} {H0 H : Hp} {A m : List Addr} {M : Mem} : ∀ {is : List Nat} {xs ys : List Ev} {vs : List V} {ρ : Env} {σ : L2.St} {P : List Addr}, FR C H0 A m M H ρ σ P → EvL C.K H0 A m H xs vs → stors xs = some ys → (∀ i ∈ is, i < ρ.length) → ∃ P', FR C H0 A m M H (DL.setEvs ρ is ys) (DL.setAll σ is vs) P'
  | [], _, _, _, ρ, σ, P, F, _, _, _ => ⟨P, F⟩
  | i :: is, [], ys, vs, ρ, σ, P, F, r, h, _ => by cases r; cases h; exact ⟨P, F⟩
  | i :: is, x :: xs, ys, vs, ρ, σ, P, F, r, h, hi => by
    cases r with
    | cons r1 r2 =>
      unfold stors at h
      split at h
      · rename_i y r e1 e2
        cases h
        obtain ⟨P1, F1⟩ := F.set (i := i) (stor_at e1 r1) (hi i List.mem_cons_self)
        have q := FR.setEvs (is := is) F1 r2 e2 (fun j hj => by rw [List.length_set]; exact hi j (List.mem_cons_of_mem _ hj))
        exact q
      · cases h
theorem stors_len : ∀ {xs ys : List Ev}, stors xs = some ys → ys.length = xs.length
  | [], _, h => by cases h; rfl
  | x :: xs, _, h => by
    unfold stors at h
    split at h
    · rename_i y r e1 e2; cases h; rw [List.length_cons, List.length_cons, stors_len e2]
    · cases h
theorem ds_par {i j : Nat} {x y : Str} {fs : Sm (List Ev)} {px py pt : Pos} {kt k2 pt2} (hc : X.calm = true) (hN : X.N.Nodup) (ha : PA X [a, b] (tA (cf X T W) fs)) (hi : X.N[i]? = some x := by rfl) (hj : X.N[j]? = some y := by rfl) (hij : i ≠ j := by decide)
    (hx : X.env.scope.names.lookup x = some .local := by rfl) (hy : X.env.scope.names.lookup y = some .local := by rfl)
    (hw : swappedStores [.Tuple [.Name x px, .Name y py] kt pt] (.Tuple [a, b] k2 pt2) X.env = pure (some [x, y]) := by rfl)
    (hs : swapsWithSole [.Tuple [.Name x px, .Name y py] kt pt] (.Tuple [a, b] k2 pt2) pos.line X.env = pure false := by rfl) :
    PS X (.Assign [.Tuple [.Name x px, .Name y py] kt pt] (.Tuple [a, b] k2 pt2) pos) (tS (cf X T W) (sPar [i, j] fs)) := by
  refine ⟨fun pins s σ H D I q => (ps_par hc hN hi hj hij hx hy ha hw hs).run pins s σ H D I ?_⟩
  obtain ⟨H0, A, m, M, ρ, P, F, q⟩ := q
  refine subS F q fun xs M1 H1 vs F1 _ r1 q1 => ?_
  split at q1
  · rename_i ys hy
    split at q1
    · rename_i hc
      have e1 : xs.length = 2 := by rw [← stors_len hy]; exact hc.1
      obtain ⟨P', F'⟩ := FR.setEvs (is := [i, j]) F1 r1 hy hc.2
      have e2 : vs.length = 2 := by rw [← Paired.length r1]; exact e1
      match vs, e2 with
      | [v, w], _ => exact ⟨v, w, rfl, q1 A H1 _ P' Ext.refl F'⟩
    · exact q1.elim
  · exact q1.elim
theorem ds_par3 {i j l : Nat} {x y z : Str} {c : Expr} {fs : Sm (List Ev)} {px py pz pt : Pos} {kt k2 pt2} (hc : X.calm = true) (hN : X.N.Nodup) (ha : PA X [a, b, c] (tA (cf X T W) fs)) (hi : X.N[i]? = some x := by rfl) (hj : X.N[j]? = some y := by rfl) (hl : X.N[l]? = some z := by rfl) (hij : i ≠ j := by decide) (hil : i ≠ l := by decide) (hjl : j ≠ l := by decide)
    (hx : X.env.scope.names.lookup x = some .local := by rfl) (hy : X.env.scope.names.lookup y = some .local := by rfl) (hz : X.env.scope.names.lookup z = some .local := by rfl)
    (hw : swappedStores [.Tuple [.Name x px, .Name y py, .Name z pz] kt pt] (.Tuple [a, b, c] k2 pt2) X.env = pure (some [x, y, z]) := by rfl)
    (hs : swapsWithSole [.Tuple [.Name x px, .Name y py, .Name z pz] kt pt] (.Tuple [a, b, c] k2 pt2) pos.line X.env = pure false := by rfl) :
    PS X (.Assign [.Tuple [.Name x px, .Name y py, .Name z pz] kt pt] (.Tuple [a, b, c] k2 pt2) pos) (tS (cf X T W) (sPar [i, j, l] fs)) := by
  refine ⟨fun pins s σ H D I q => (ps_par3 hc hN hi hj hl hij hil hjl hx hy hz ha hw hs).run pins s σ H D I ?_⟩
  obtain ⟨H0, A, m, M, ρ, P, F, q⟩ := q
  refine subS F q fun xs M1 H1 vs F1 _ r1 q1 => ?_
  split at q1
  · rename_i ys hy
    split at q1
    · rename_i hc
      have e1 : xs.length = 3 := by rw [← stors_len hy]; exact hc.1
      obtain ⟨P', F'⟩ := FR.setEvs (is := [i, j, l]) F1 r1 hy hc.2
      have e2 : vs.length = 3 := by rw [← Paired.length r1]; exact e1
      match vs, e2 with
      | [v, w, u], _ => exact ⟨v, w, u, rfl, q1 A H1 _ P' Ext.refl F'⟩
    · exact q1.elim
  · exact q1.elim
/-! ### while -/
def sWhile (tc : Sm Bool) (f : Ss) : Nat → Ss
  | 0 => fun _ _ => .stuck
  | n + 1 => fun ρ M => sE (tc ρ M) ρ fun k M1 => if k = true then match f ρ M1 with
      | .nx ρ' M' => sWhile tc f n ρ' M'
      | .ct ρ' M' => sWhile tc f n ρ' M'
      | .bk ρ' M' => .nx ρ' M'
      | r => r
    else .nx ρ M1
/-- a turn's end: what the rest of the loop makes of it -/
theorem loop_run {C : Cf} {H0 H : Hp} {A m : List Addr} {r : SR} {k : Ss} {D : Ends} {N : L2.St → Hp → Prop}
    (q : PZ C H0 A m H (match r with | .nx ρ' M' => k ρ' M' | .ct ρ' M' => k ρ' M' | .bk ρ' M' => .nx ρ' M' | r => r) D)
    (hN : ∀ A' H' σ' P' ρ' M', Ext H0 A H A' H' → FR C H0 A' m M' H' ρ' σ' P' → PZ C H0 A' m H' (k ρ' M') D → N σ' H') : PZ C H0 A m H r { D with nx := N, ct := N, bk := D.nx } := by
  cases r with
  | nx ρ' M' => exact fun A' H' σ' P' e F => hN A' H' σ' P' ρ' M' e F (PZ.step e q)
  | ct ρ' M' => exact fun A' H' σ' P' e F => hN A' H' σ' P' ρ' M' e F (PZ.step e q)
  | bk ρ' M' => exact q
  | rt d M' => exact q
  | exc c g ρ' M' => exact q
  | stuck => exact q
theorem ds_while {n : Nat} {body : List Stmt} (hp : PassesOwn (model X.prog X.w) X.A X.env X.xe) (hc : PT X c (tT (cf X T W) tc)) (hb : PSs X body (tS (cf X T W) f)) : PS X (.While c body [] pos) (tS (cf X T W) (sWhile tc f n)) := by
  refine ⟨fun pins s σ H D I q => (ps_while hp hc hb).run pins s σ H D I ?_⟩
  refine ⟨fun k σ H => tS (cf X T W) (sWhile tc f k) D σ H, ⟨n, q⟩, fun k σ H q => ?_⟩
  obtain ⟨H0, A, m, M, ρ, P, F, q⟩ := q
  cases k with
  | zero => exact q.elim
  | succ k =>
    refine subS F q fun x M1 H1 v F1 _ r1 q1 => ?_
    cases (show x = v from r1)
    cases x with
    | false => exact q1 A H1 σ P Ext.refl F1
    | true =>
      refine ⟨fun σ' H' => tS (cf X T W) (sWhile tc f k) D σ' H', fun σ' H' h => ⟨k, Nat.lt_succ_self k, h⟩, H0, A, m, M1, ρ, P, F1, ?_⟩
      exact loop_run (k := sWhile tc f k) q1 fun A' H' σ' P' ρ' M' e F' q' => ⟨H0, A', m, M', ρ', P', F', q'⟩
/-- turns over items -/
def forL (g : Tgt) (f : Ss) : List D → Ss
  | [] => fun ρ M => .nx ρ M
  | d :: r => fun ρ M => match tgE g ρ d with
    | some ρ1 => match f ρ1 M with
      | .nx ρ' M' => forL g f r ρ' M'
      | .ct ρ' M' => forL g f r ρ' M'
      | .bk ρ' M' => .nx ρ' M'
      | r => r
    | none => .stuck
def sFor (it : Sm (List D)) (g : Tgt) (f : Ss) : Ss := fun ρ M => sE (it ρ M) ρ fun items M1 => forL g f items ρ M1
end
end DL

set_option Elab.async false
set_option linter.all false
set_option maxRecDepth 100000
set_option maxHeartbeats 2000000
/-! The data layer: walked things, comprehensions. -/
namespace DL
open PySem PySem.Spec PyProof.Rows L2
/-- how far the heap may have gone while something is walked: by statements, within a comprehension -/
def RchS (A m : List Addr) (H0 H1 : Hp) (A' : List Addr) (H2 : Hp) : Prop := Ext H0 A H1 A' H2 ∧ Stp m H0 H2
def RchC (A m : List Addr) (H1 : Hp) (A' : List Addr) (H2 : Hp) : Prop := (∀ a ∈ A', a ∈ A ∨ ¬ Lv H1 a) ∧ (∀ a ∈ A, a ∈ A') ∧ Stp m H1 H2
/-- the walk J gives items -/
structure Wk (C : Cf) (m : List Addr) (Rch : List Addr → Hp → Prop) (items : List D) (J : It) : Prop where
  go : ∀ A' H2, Rch A' H2 → ∀ (i : Nat) (d : D), items[i]? = some d → J.go i H2 ∧ ∀ x H3, J.yld i H2 x H3 → (H3 = H2 ∨ ∃ p o, H2 p = none ∧ H3 = upd H2 p o) ∧ Rp C.K A' m H3 d x
  stop : ∀ A' H2, Rch A' H2 → J.stop items.length H2
/-- k: within a comprehension -/
def tI (C : Cf) (k : Bool) (f : Sm (List D)) : TI := fun σ H G => ∃ H0 A m M ρ P, FR C H0 A m M H ρ σ P ∧ match f ρ M with
  | .ok items M1 => ∀ J H1, Stp m H H1 → WR C.K m M1 H1 → LamX.Tabs C.T H1 → Wk C m (if k = true then RchC A m H1 else RchS A m H0 H1) items J → G J H1
  | .exc c g M1 => ∀ H1 cls d, Stp m H H1 → WR C.K m M1 H1 → LamX.Tabs C.T H1 → XR C.mg H1 c g cls d → C.W cls d σ H1
  | .stuck => False
theorem subI {C : Cf} {k : Bool} {H0 H : Hp} {A m : List Addr} {M : Mem} {ρ : Env} {σ : L2.St} {P : List Addr} {α β : Type} {rel : Rel α β} {f : Sm α} {q : α → Mem → R (List D)} {G : It → Hp → Prop} (F : FR C H0 A m M H ρ σ P)
    (h : match bnd (f ρ M) q with
      | .ok items M1 => ∀ J H1, Stp m H H1 → WR C.K m M1 H1 → LamX.Tabs C.T H1 → Wk C m (if k = true then RchC A m H1 else RchS A m H0 H1) items J → G J H1
      | .exc c g M1 => ∀ H1 cls d, Stp m H H1 → WR C.K m M1 H1 → LamX.Tabs C.T H1 → XR C.mg H1 c g cls d → C.W cls d σ H1
      | .stuck => False) {G' : β → Hp → Prop}
    (hk : ∀ d M1 H1 v, FR C H0 A m M1 H1 ρ σ P → rel H0 A m H1 d v → (match q d M1 with
      | .ok items M2 => ∀ J H2, Stp m H1 H2 → WR C.K m M2 H2 → LamX.Tabs C.T H2 → Wk C m (if k = true then RchC A m H2 else RchS A m H0 H2) items J → G J H2
      | .exc c g M2 => ∀ H2 cls d, Stp m H1 H2 → WR C.K m M2 H2 → LamX.Tabs C.T H2 → XR C.mg H2 c g cls d → C.W cls d σ H2
      | .stuck => False) → G' v H1) : tX C rel f σ H G' := by
  refine ⟨H0, A, m, M, ρ, P, F, ?_⟩
  cases e : f ρ M with
  | stuck => rw [e] at h; exact h.elim
  | exc c g M1 => rw [e] at h; exact h
  | ok d M1 =>
    rw [e] at h
    intro H1 v s w t r
    refine hk d M1 H1 v (F.step s w t) r ?_
    have h' : (match q d M1 with
      | .ok items M1 => ∀ J H1, Stp m H H1 → WR C.K m M1 H1 → LamX.Tabs C.T H1 → Wk C m (if k = true then RchC A m H1 else RchS A m H0 H1) items J → G J H1
      | .exc c g M1 => ∀ H1 cls d, Stp m H H1 → WR C.K m M1 H1 → LamX.Tabs C.T H1 → XR C.mg H1 c g cls d → C.W cls d σ H1
      | .stuck => False) := h
    cases e2 : q d M1 with
    | stuck => rw [e2] at h'; exact h'.elim
    | exc c g M2 => rw [e2] at h'; exact fun H2 cls d s2 w t x => h' H2 cls d (s.trans s2) w t x
    | ok items M2 => rw [e2] at h'; exact fun J H2 s2 w t K => h' J H2 (s.trans s2) w t K
/-- a thing that is walked -/
def itemsOf (k : Bool) : Ev → Option (List D)
  | .d (.tup l) => some l
  | .d (.lst l) => some l
  | .ls .pv l => some l
  | .ls .vw l => if k = true then some l else none
  | _ => none
theorem list_stays {C : Cf} {k : Bool} {H0 H1 : Hp} {A m : List Addr} {M : Mem} {ρ : Env} {σ : L2.St} {P : List Addr} (F : FR C H0 A m M H1 ρ σ P) {x : Ev} {v : V} {l : List D} (hx : (∃ l, x = .d (.tup l)) → False) (h : itemsOf k x = some l) (r : EvR C.K H0 A m H1 x v) :
    ∃ a vs, v = .ref a ∧ H1 a = some (.lst vs) ∧ vs.length = l.length ∧ ∀ A' H2, (if k = true then RchC A m H1 else RchS A m H0 H1) A' H2 → H2 a = some (.lst vs) ∧ Rps C.K A' m H2 l vs := by
  have key : ∀ {a : Addr} {vs : List V}, H1 a = some (.lst vs) → a ∉ m → (a ∉ A ∨ (Lv H0 a ∨ k = true)) → Rps C.K A m H1 l vs → ∀ A' H2, (if k = true then RchC A m H1 else RchS A m H0 H1) A' H2 → H2 a = some (.lst vs) ∧ Rps C.K A' m H2 l vs := by
    intro a vs hl hm ha q A' H2 hr
    cases k with
    | true =>
      obtain ⟨h1, h2, h3⟩ := hr
      exact ⟨h3 a _ hl hm lst_tbl, Rps.step (B := m) F.wr.aok (fun b hb => h2 b (F.ma b hb)) h3 _ _ (Rps.avoid h1 _ _ q)⟩
    | false =>
      obtain ⟨h1, h2⟩ := hr
      refine ⟨?_, Rps.ext h1 F.aok q⟩
      rcases ha with ha | ha | ha
      · exact h1.keep a _ hl ha lst_tbl
      · obtain ⟨o, e, t⟩ := ha
        have e1 := F.base a o e hm t
        rw [hl] at e1; cases e1
        exact h2 a _ e hm t
      · cases ha
  unfold itemsOf at h
  split at h
  · exact (hx ⟨_, rfl⟩).elim
  · cases h
    obtain ⟨a, vs, e, hl, hn, q⟩ := r
    exact ⟨a, vs, e, hl, Rps.len q, key hl (fun z => hn (F.ma a z)) (.inl hn) q⟩
  · cases h
    obtain ⟨a, vs, e, hl, hm, hv, q⟩ := r
    exact ⟨a, vs, e, hl, Rps.len q, key hl hm (.inr (.inl hv)) q⟩
  · split at h
    · rename_i hk
      cases h
      obtain ⟨a, vs, e, hl, hm, hv, q⟩ := r
      exact ⟨a, vs, e, hl, Rps.len q, key hl hm (.inr (.inr hk)) q⟩
    · cases h
  · cases h
theorem tup_stays {C : Cf} {k : Bool} {H0 H1 : Hp} {A m : List Addr} {M : Mem} {ρ : Env} {σ : L2.St} {P : List Addr} (F : FR C H0 A m M H1 ρ σ P) {v : V} {l : List D} (r : Rp C.K A m H1 (.tup l) v) :
    ∃ a vs, v = .ref a ∧ H1 a = some (.tup vs) ∧ vs.length = l.length ∧ ∀ A' H2, (if k = true then RchC A m H1 else RchS A m H0 H1) A' H2 → H2 a = some (.tup vs) ∧ Rps C.K A' m H2 l vs := by
  obtain ⟨a, vs, e, hl, q⟩ := r
  refine ⟨a, vs, e, hl, Rps.len q, fun A' H2 hr => ?_⟩
  cases k with
  | true =>
    obtain ⟨h1, h2, h3⟩ := hr
    exact ⟨tup_step F.wr.aok h3 hl, Rps.step (B := m) F.wr.aok (fun b hb => h2 b (F.ma b hb)) h3 _ _ (Rps.avoid h1 _ _ q)⟩
  | false =>
    obtain ⟨h1, h2⟩ := hr
    exact ⟨tup_step F.aok h1.keep hl, Rps.ext h1 F.aok q⟩
section
variable {X : Cx} {T : List (Addr × Str)} {W : WX} {a b c e : Expr} {es : List Expr} {tg : Expr} {pos p : Pos} {f g : Sm Ev} {fs : Sm (List Ev)} {k : Bool}
theorem PI.or {w1 w2 : TI} (h1 : PI X tg e w1) (h2 : PI X tg e w2) : PI X tg e (fun σ H G => w1 σ H G ∨ w2 σ H G) := ⟨fun pins s σ H G I h => h.elim (fun q => h1.run pins s σ H G I q) (fun q => h2.run pins s σ H G I q)⟩
def iSeq (k : Bool) (f : Sm Ev) : Sm (List D) := fun ρ M => bnd (f ρ M) fun x M1 => match itemsOf k x with
  | some l => .ok l M1
  | none => .stuck
theorem walkT {C : Cf} {k : Bool} {H0 H1 : Hp} {A m : List Addr} {M : Mem} {ρ : Env} {σ : L2.St} {P : List Addr} (F : FR C H0 A m M H1 ρ σ P) {v : V} {l : List D} (r : Rp C.K A m H1 (.tup l) v) :
    ∃ a, v = .ref a ∧ (∃ xs, SqT C.K H1 a xs) ∧ Wk C m (if k = true then RchC A m H1 else RchS A m H0 H1) l (Itt C.K a) := by
  obtain ⟨a, vs, e, hl, len, st⟩ := tup_stays (k := k) F r
  refine ⟨a, e, ⟨vs, SqT.of hl⟩, ⟨fun A' H2 hr i d hd => ?_, fun A' H2 hr => ?_⟩⟩
  · obtain ⟨h2, q⟩ := st A' H2 hr
    obtain ⟨u, e1, e2⟩ := Rps.get q hd
    refine ⟨⟨vs, u, SqT.of h2, e1⟩, fun y H3 hy => ?_⟩
    obtain ⟨rfl, hy⟩ := hy
    have e3 := hy vs (SqT.of h2)
    rw [e1] at e3; cases e3
    exact ⟨.inl rfl, e2⟩
  · obtain ⟨h2, q⟩ := st A' H2 hr
    exact ⟨vs, SqT.of h2, by rw [len]; exact Nat.le_refl _⟩
theorem walkL {C : Cf} {k : Bool} {H0 H1 : Hp} {A m : List Addr} {M : Mem} {ρ : Env} {σ : L2.St} {P : List Addr} (F : FR C H0 A m M H1 ρ σ P) {x : Ev} {v : V} {l : List D} (hx : (∃ l, x = .d (.tup l)) → False) (h : itemsOf k x = some l) (r : EvR C.K H0 A m H1 x v) :
    ∃ a, v = .ref a ∧ (∃ xs, SqL C.K H1 a xs) ∧ Wk C m (if k = true then RchC A m H1 else RchS A m H0 H1) l (Itl C.K a) := by
  obtain ⟨a, vs, e, hl, len, st⟩ := list_stays F hx h r
  refine ⟨a, e, ⟨vs, SqL.of hl⟩, ⟨fun A' H2 hr i d hd => ?_, fun A' H2 hr => ?_⟩⟩
  · obtain ⟨h2, q⟩ := st A' H2 hr
    obtain ⟨u, e1, e2⟩ := Rps.get q hd
    refine ⟨⟨vs, u, SqL.of h2, e1⟩, fun y H3 hy => ?_⟩
    obtain ⟨rfl, hy⟩ := hy
    have e3 := hy vs (SqL.of h2)
    rw [e1] at e3; cases e3
    exact ⟨.inl rfl, e2⟩
  · obtain ⟨h2, q⟩ := st A' H2 hr
    exact ⟨vs, SqL.of h2, by rw [len]; exact Nat.le_refl _⟩
theorem di_seq (ha : PE X e (tE (cf X T W) f)) : PI X tg e (tI (cf X T W) k (iSeq k f)) := by
  refine ⟨fun pins s σ H G I q => (PI.or (pi_list ha) (pi_tup ha)).run pins s σ H G I ?_⟩
  obtain ⟨H0, A, m, M, ρ, P, F, q⟩ := q
  unfold iSeq at q
  cases e1 : f ρ M with
  | stuck => rw [e1] at q; exact q.elim
  | exc c g M1 =>
    rw [e1] at q
    exact .inl ⟨H0, A, m, M, ρ, P, F, by rw [e1]; exact q⟩
  | ok x M1 =>
    rw [e1, bnd_ok] at q
    cases e2 : itemsOf k x with
    | none => rw [e2] at q; exact q.elim
    | some l =>
      rw [e2] at q
      by_cases hx : ∃ l, x = .d (.tup l)
      · obtain ⟨l', rfl⟩ := hx
        cases e2
        refine .inr ⟨H0, A, m, M, ρ, P, F, by
          rw [e1]
          intro H1 v s w t r
          obtain ⟨a, ev, hs, K⟩ := walkT (k := k) (F.step s w t) r
          exact ⟨a, ev, hs, q _ H1 s w t K⟩⟩
      · refine .inl ⟨H0, A, m, M, ρ, P, F, by
          rw [e1]
          intro H1 v s w t r
          obtain ⟨a, ev, hs, K⟩ := walkL (F.step s w t) hx e2 r
          exact ⟨a, ev, hs, q _ H1 s w t K⟩⟩
/-! range -/
def rangeL (lo : Int) (n : Nat) (c : Int) : List D := (List.range n).map fun (i : Nat) => .int (lo + (i : Int) * c)
def rngOk (i : Int) : Prop := -1000000000000 ≤ i ∧ i ≤ 1000000000000
instance (i : Int) : Decidable (rngOk i) := by unfold rngOk; infer_instance
def optR {α : Type} (o : Option α) (M : Mem) : R α := match o with
  | some a => .ok a M
  | none => .stuck
def rng1 (xs : List Ev) : Option (List D) := match xs with
  | [.d (.int j)] => if rngOk j then some (rangeL 0 j.toNat 1) else none
  | _ => none
def rng2 (xs : List Ev) : Option (List D) := match xs with
  | [.d (.int i), .d (.int j)] => if rngOk i ∧ rngOk j then some (rangeL i (j - i).toNat 1) else none
  | _ => none
def rng3 (xs : List Ev) : Option (List D) := match xs with
  | [.d (.int i), .d (.int j), .d (.int c)] => if c ≠ 0 ∧ c.natAbs < 1073741824 ∧ Builtin.Range.small i j c = true ∧ 0 ≤ Builtin.Range.rangeSize i j c then some (rangeL i (Builtin.Range.rangeSize i j c).toNat c) else none
  | _ => none
def iO (o : List Ev → Option (List D)) (fs : Sm (List Ev)) : Sm (List D) := fun ρ M => bnd (fs ρ M) fun xs M1 => optR (o xs) M1
theorem wk_range {C : Cf} {m : List Addr} {Rch : List Addr → Hp → Prop} (lo : Int) (n : Nat) : Wk C m Rch (rangeL lo n 1) (Itr lo n) := by
  refine ⟨fun A' H2 _ i d hd => ?_, fun A' H2 _ => ?_⟩
  · unfold rangeL at hd
    rw [List.getElem?_map] at hd
    cases e : (List.range n)[i]? with
    | none => rw [e] at hd; cases hd
    | some j =>
      rw [e] at hd
      have hi : i < n := by have := (List.getElem?_eq_some_iff.mp e).1; simpa using this
      have ej : i = j := by have := (List.getElem?_eq_some_iff.mp e).2; simpa using this
      subst ej
      cases hd
      refine ⟨hi, fun x H3 hy => ?_⟩
      obtain ⟨rfl, rfl⟩ := hy
      refine ⟨.inl rfl, ?_⟩
      show V.int (lo + (i : Int)) = V.int (lo + (i : Int) * 1)
      rw [Int.mul_one]
  · show n ≤ (rangeL lo n 1).length
    unfold rangeL; simp
theorem wk_rangeC {C : Cf} {m : List Addr} {Rch : List Addr → Hp → Prop} (lo c : Int) (n : Nat) : Wk C m Rch (rangeL lo n c) (Itc lo c n) := by
  refine ⟨fun A' H2 _ i d hd => ?_, fun A' H2 _ => ?_⟩
  · unfold rangeL at hd
    rw [List.getElem?_map] at hd
    cases e : (List.range n)[i]? with
    | none => rw [e] at hd; cases hd
    | some j =>
      rw [e] at hd
      have hi : i < n := by have := (List.getElem?_eq_some_iff.mp e).1; simpa using this
      have ej : i = j := by have := (List.getElem?_eq_some_iff.mp e).2; simpa using this
      subst ej
      cases hd
      refine ⟨hi, fun x H3 hy => ?_⟩
      obtain ⟨rfl, rfl⟩ := hy
      exact ⟨.inl rfl, rfl⟩
  · show n ≤ (rangeL lo n c).length
    unfold rangeL; simp
theorem Paired.three {α β : Type} {G : α → β → Prop} {x y z : α} {vs : List β} (h : Paired G [x, y, z] vs) : ∃ v w u, vs = [v, w, u] ∧ G x v ∧ G y w ∧ G z u := by
  cases h with
  | cons a b => cases b with
    | cons c d => cases d with
      | cons e f => cases f; exact ⟨_, _, _, rfl, a, c, e⟩
theorem di_O {o : List Ev → Option (List D)} {H0 H : Hp} {A m : List Addr} {M : Mem} {ρ : Env} {σ : L2.St} {P : List Addr} {G : It → Hp → Prop} {C : Cf} (F : FR C H0 A m M H ρ σ P)
    (q : match iO o fs ρ M with
      | .ok items M1 => ∀ J H1, Stp m H H1 → WR C.K m M1 H1 → LamX.Tabs C.T H1 → Wk C m (if k = true then RchC A m H1 else RchS A m H0 H1) items J → G J H1
      | .exc c g M1 => ∀ H1 cls d, Stp m H H1 → WR C.K m M1 H1 → LamX.Tabs C.T H1 → XR C.mg H1 c g cls d → C.W cls d σ H1
      | .stuck => False) {G' : List V → Hp → Prop}
    (hk : ∀ xs items M1 H1 vs, FR C H0 A m M1 H1 ρ σ P → EvL C.K H0 A m H1 xs vs → o xs = some items → (∀ J, Wk C m (if k = true then RchC A m H1 else RchS A m H0 H1) items J → G J H1) → G' vs H1) : tA C fs σ H G' := by
  refine subI F q fun xs M1 H1 vs F1 r1 q1 => ?_
  cases e : o xs with
  | none => rw [e] at q1; exact q1.elim
  | some items =>
    rw [e] at q1
    exact hk xs items M1 H1 vs F1 r1 e fun J K => q1 J H1 (Stp.refl _ _) F1.wr F1.tb K
theorem di_rng1 (hg : Gl X "range") (hm : X.mg "range" = none) (ha : PA X [a] (tA (cf X T W) fs)) (hs : starEach [a] X.env = [(false, eval a X.env)] := by rfl) : PI X tg (.Call (.Name "range" p) [a] [] pos) (tI (cf X T W) k (iO rng1 fs)) := by
  refine ⟨fun pins s σ H G I q => (pi_range1 hg hm ha hs).run pins s σ H G I ?_⟩
  obtain ⟨H0, A, m, M, ρ, P, F, q⟩ := q
  refine di_O F q fun xs items M1 H1 vs F1 r1 e q1 => ?_
  unfold rng1 at e
  split at e
  · rename_i j
    split at e
    · rename_i hc
      cases e
      obtain ⟨v, rfl, r⟩ := Paired.one r1
      unfold rngOk at hc
      exact ⟨j, by rw [show v = V.int j from r], by omega, by omega, q1 _ (wk_range 0 j.toNat)⟩
    · cases e
  · cases e
theorem di_rng2 (hg : Gl X "range") (hm : X.mg "range" = none) (ha : PA X [a, b] (tA (cf X T W) fs)) (hs : starEach [a, b] X.env = [(false, eval a X.env), (false, eval b X.env)] := by rfl) (hs2 : starEach [b] X.env = [(false, eval b X.env)] := by rfl) : PI X tg (.Call (.Name "range" p) [a, b] [] pos) (tI (cf X T W) k (iO rng2 fs)) := by
  refine ⟨fun pins s σ H G I q => (pi_range2 hg hm ha hs hs2).run pins s σ H G I ?_⟩
  obtain ⟨H0, A, m, M, ρ, P, F, q⟩ := q
  refine di_O F q fun xs items M1 H1 vs F1 r1 e q1 => ?_
  unfold rng2 at e
  split at e
  · rename_i i j
    split at e
    · rename_i hc
      cases e
      obtain ⟨v, w, rfl, r, r'⟩ := Paired.two r1
      unfold rngOk at hc
      exact ⟨i, j, by rw [show v = V.int i from r, show w = V.int j from r'], ⟨by omega, by omega, by omega, by omega⟩, q1 _ (wk_range i (j - i).toNat)⟩
    · cases e
  · cases e
theorem di_rng3 (hg : Gl X "range") (hm : X.mg "range" = none) (ha : PA X [a, b, c] (tA (cf X T W) fs)) (hs : starEach [a, b, c] X.env = (false, eval a X.env) :: starEach [b, c] X.env := by rfl) (hpl : (backTo pos (starEach [b, c] X.env)).any (·.1) = false := by rfl) : PI X tg (.Call (.Name "range" p) [a, b, c] [] pos) (tI (cf X T W) k (iO rng3 fs)) := by
  refine ⟨fun pins s σ H G I q => (pi_range3 hg hm ha hs hpl).run pins s σ H G I ?_⟩
  obtain ⟨H0, A, m, M, ρ, P, F, q⟩ := q
  refine di_O F q fun xs items M1 H1 vs F1 r1 e q1 => ?_
  unfold rng3 at e
  split at e
  · rename_i i j c'
    split at e
    · rename_i hc
      cases e
      obtain ⟨v, w, u, rfl, r, r', r''⟩ := Paired.three r1
      refine ⟨i, j, c', (Builtin.Range.rangeSize i j c').toNat, by rw [show v = V.int i from r, show w = V.int j from r', show u = V.int c' from r''], ⟨hc.1, hc.2.1, hc.2.2.1, ?_⟩, q1 _ (wk_rangeC i c' _)⟩
      rw [Int.toNat_of_nonneg hc.2.2.2]
    · cases e
  · cases e
/-! enumerate(list), zip -/
def pairL (l : List D) : List D := l.zipIdx.map fun p => .tup [.int (p.2 : Int), p.1]
def zipL (l l' : List D) : List D := (l.zip l').map fun p => .tup [p.1, p.2]
theorem pairL_get {l : List D} {i : Nat} {d : D} (h : (pairL l)[i]? = some d) : ∃ x, l[i]? = some x ∧ d = .tup [.int (i : Int), x] := by
  unfold pairL at h
  rw [List.getElem?_map, List.getElem?_zipIdx] at h
  cases e : l[i]? with
  | none => rw [e] at h; cases h
  | some x => rw [e] at h; simp at h; exact ⟨x, rfl, h.symm⟩
theorem pairL_len (l : List D) : (pairL l).length = l.length := by unfold pairL; simp
theorem zipL_get {l l' : List D} {i : Nat} {d : D} (h : (zipL l l')[i]? = some d) : ∃ x y, l[i]? = some x ∧ l'[i]? = some y ∧ d = .tup [x, y] := by
  unfold zipL at h
  rw [List.getElem?_map] at h
  cases e : (l.zip l')[i]? with
  | none => rw [e] at h; cases h
  | some p =>
    rw [e] at h
    have q := List.getElem?_zip_eq_some.mp e
    simp at h
    exact ⟨p.1, p.2, q.1, q.2, h.symm⟩
theorem pair_new {K : PySem.W.Frag} {A m : List Addr} {H : Hp} {x y : D} {v w : V} {p : Addr} (hp : H p = none) (h1 : Rp K A m H x v) (h2 : Rp K A m H y w) : Rp K A m (upd H p (.tup [v, w])) (.tup [x, y]) (.ref p) :=
  ⟨p, [v, w], rfl, upd_same, Rps.grow ⟨v, [w], rfl, h1, w, [], rfl, h2, rfl⟩ hp⟩
/-- what enumerate's argument may be -/
def enum1 (k : Bool) (xs : List Ev) : Option (List D) := match xs with
  | [.d (.tup _)] => none
  | [x] => (itemsOf k x).map pairL
  | _ => none
theorem wk_enum {C : Cf} {m : List Addr} {Rch : List Addr → Hp → Prop} {a : Addr} {l : List D} {vs : List V} (hl : vs.length = l.length) (st : ∀ A' H2, Rch A' H2 → H2 a = some (.lst vs) ∧ Rps C.K A' m H2 l vs) : Wk C m Rch (pairL l) (Ite C.K a) := by
  refine ⟨fun A' H2 hr i d hd => ?_, fun A' H2 hr => ?_⟩
  · obtain ⟨x, hx, rfl⟩ := pairL_get hd
    obtain ⟨h2, q⟩ := st A' H2 hr
    obtain ⟨u, e1, e2⟩ := Rps.get q hx
    refine ⟨⟨vs, u, SqL.of h2, e1⟩, fun y H3 hy => ?_⟩
    obtain ⟨p, z, rfl, hp, rfl, hz⟩ := hy
    have e3 := hz vs (SqL.of h2)
    rw [e1] at e3; cases e3
    exact ⟨.inr ⟨p, _, hp, rfl⟩, pair_new hp rfl e2⟩
  · obtain ⟨h2, q⟩ := st A' H2 hr
    exact ⟨vs, SqL.of h2, by rw [pairL_len, hl]; exact Nat.le_refl _⟩
theorem di_enum {elts : List Expr} {kk : Nat} {tpos : Pos} (hg : Gl X "enumerate") (hm : X.mg "enumerate" = none) (ha : PA X [e] (tA (cf X T W) fs)) (hs : starEach [e] X.env = [(false, eval e X.env)] := by rfl) : PI X (.Tuple elts kk tpos) (.Call (.Name "enumerate" p) [e] [] pos) (tI (cf X T W) k (iO (enum1 k) fs)) := by
  refine ⟨fun pins s σ H G I q => (pi_enum hg hm ha hs).run pins s σ H G I ?_⟩
  obtain ⟨H0, A, m, M, ρ, P, F, q⟩ := q
  refine di_O F q fun xs items M1 H1 vs F1 r1 e q1 => ?_
  unfold enum1 at e
  split at e
  · cases e
  · rename_i x hx
    obtain ⟨v, rfl, r⟩ := Paired.one r1
    cases e2 : itemsOf k x with
    | none => rw [e2] at e; cases e
    | some l =>
      rw [e2] at e
      cases e
      obtain ⟨a, vs, ev, hl, len, st⟩ := list_stays F1 (fun ⟨l, z⟩ => hx l (by rw [z])) e2 r
      exact ⟨a, vs, by rw [ev], SqL.of hl, q1 _ (wk_enum len st)⟩
  · cases e
/-- zip of two lists, of two tuples -/
def zip2 (k : Bool) (xs : List Ev) : Option (List D) := match xs with
  | [.d (.tup l), .d (.tup l')] => some (zipL l l')
  | [.d (.tup _), _] => none
  | [_, .d (.tup _)] => none
  | [x, y] => match itemsOf k x, itemsOf k y with
    | some l, some l' => some (zipL l l')
    | _, _ => none
  | _ => none
theorem zipL_len (l l' : List D) : (zipL l l').length = min l.length l'.length := by unfold zipL; simp
theorem wk_zip {C : Cf} {m : List Addr} {Rch : List Addr → Hp → Prop} {a b : Addr} {l l' : List D} {vs ws : List V} (hl : vs.length = l.length) (hl' : ws.length = l'.length) (st : ∀ A' H2, Rch A' H2 → H2 a = some (.lst vs) ∧ Rps C.K A' m H2 l vs) (st' : ∀ A' H2, Rch A' H2 → H2 b = some (.lst ws) ∧ Rps C.K A' m H2 l' ws) :
    Wk C m Rch (zipL l l') (Itz C.K a b) := by
  refine ⟨fun A' H2 hr i d hd => ?_, fun A' H2 hr => ?_⟩
  · obtain ⟨x, y, hx, hy, rfl⟩ := zipL_get hd
    obtain ⟨h2, q⟩ := st A' H2 hr
    obtain ⟨h2', q'⟩ := st' A' H2 hr
    obtain ⟨u, e1, e2⟩ := Rps.get q hx
    obtain ⟨u', e1', e2'⟩ := Rps.get q' hy
    refine ⟨⟨vs, ws, u, u', SqL.of h2, SqL.of h2', e1, e1'⟩, fun y H3 hy => ?_⟩
    obtain ⟨p, z, z', rfl, hp, rfl, hz, hz'⟩ := hy
    have e3 := hz vs (SqL.of h2)
    have e3' := hz' ws (SqL.of h2')
    rw [e1] at e3; cases e3
    rw [e1'] at e3'; cases e3'
    exact ⟨.inr ⟨p, _, hp, rfl⟩, pair_new hp e2 e2'⟩
  · obtain ⟨h2, q⟩ := st A' H2 hr
    obtain ⟨h2', q'⟩ := st' A' H2 hr
    refine ⟨vs, ws, SqL.of h2, SqL.of h2', ?_⟩
    rw [zipL_len, hl, hl']; omega
theorem wk_zipT {C : Cf} {m : List Addr} {Rch : List Addr → Hp → Prop} {a b : Addr} {l l' : List D} {vs ws : List V} (hl : vs.length = l.length) (hl' : ws.length = l'.length) (st : ∀ A' H2, Rch A' H2 → H2 a = some (.tup vs) ∧ Rps C.K A' m H2 l vs) (st' : ∀ A' H2, Rch A' H2 → H2 b = some (.tup ws) ∧ Rps C.K A' m H2 l' ws) :
    Wk C m Rch (zipL l l') (RZ.ItzT C.K a b) := by
  refine ⟨fun A' H2 hr i d hd => ?_, fun A' H2 hr => ?_⟩
  · obtain ⟨x, y, hx, hy, rfl⟩ := zipL_get hd
    obtain ⟨h2, q⟩ := st A' H2 hr
    obtain ⟨h2', q'⟩ := st' A' H2 hr
    obtain ⟨u, e1, e2⟩ := Rps.get q hx
    obtain ⟨u', e1', e2'⟩ := Rps.get q' hy
    refine ⟨⟨vs, ws, u, u', SqT.of h2, SqT.of h2', e1, e1'⟩, fun y H3 hy => ?_⟩
    obtain ⟨p, z, z', rfl, hp, rfl, hz, hz'⟩ := hy
    have e3 := hz vs (SqT.of h2)
    have e3' := hz' ws (SqT.of h2')
    rw [e1] at e3; cases e3
    rw [e1'] at e3'; cases e3'
    exact ⟨.inr ⟨p, _, hp, rfl⟩, pair_new hp e2 e2'⟩
  · obtain ⟨h2, q⟩ := st A' H2 hr
    obtain ⟨h2', q'⟩ := st' A' H2 hr
    refine ⟨vs, ws, SqT.of h2, SqT.of h2', ?_⟩
    rw [zipL_len, hl, hl']; omega
theorem di_zip {elts : List Expr} {kk : Nat} {tpos : Pos} {e2 : Expr} (hg : Gl X "zip") (hm : X.mg "zip" = none) (ha : PA X [e, e2] (tA (cf X T W) fs)) (hs : starEach [e, e2] X.env = (false, eval e X.env) :: starEach [e2] X.env := by rfl) (hpl : (backTo pos (starEach [e2] X.env)).any (·.1) = false := by rfl) :
    PI X (.Tuple elts kk tpos) (.Call (.Name "zip" p) [e, e2] [] pos) (tI (cf X T W) k (iO (zip2 k) fs)) := by
  refine ⟨fun pins s σ H G I q => (RZ.pi_zipA hg hm ha hs hpl).run pins s σ H G I ?_⟩
  obtain ⟨H0, A, m, M, ρ, P, F, q⟩ := q
  refine di_O F q fun xs items M1 H1 vs F1 r1 e q1 => ?_
  unfold zip2 at e
  split at e
  · rename_i l l'
    cases e
    obtain ⟨v, w, rfl, r, r'⟩ := Paired.two r1
    obtain ⟨a, vs, ev, hl, len, st⟩ := tup_stays (k := k) F1 r
    obtain ⟨b, ws, ew, hl', len', st'⟩ := tup_stays (k := k) F1 r'
    exact ⟨a, b, vs, ws, by rw [ev, ew], .inr ⟨SqT.of hl, SqT.of hl', q1 _ (wk_zipT len len' st st')⟩⟩
  · cases e
  · cases e
  · rename_i x y hx hy _
    obtain ⟨v, w, rfl, r, r'⟩ := Paired.two r1
    cases ex : itemsOf k x with
    | none => rw [ex] at e; cases e
    | some l =>
      cases ey : itemsOf k y with
      | none => rw [ex, ey] at e; cases e
      | some l' =>
        rw [ex, ey] at e
        cases e
        obtain ⟨a, vs, ev, hl, len, st⟩ := list_stays F1 (by
          rintro ⟨z, rfl⟩
          first | exact hx z _ rfl | exact hx z rfl | (exact hx _ _ rfl rfl) | simp_all) ex r
        obtain ⟨b, ws, ew, hl', len', st'⟩ := list_stays F1 (by
          rintro ⟨z, rfl⟩
          first | exact hy z rfl | exact hy _ z rfl | simp_all) ey r'
        exact ⟨a, b, vs, ws, by rw [ev, ew], .inl ⟨SqL.of hl, SqL.of hl', q1 _ (wk_zip len len' st st')⟩⟩
  · cases e
/-! ### for -/
variable {st : Stmt} {sf : Ss}
theorem ds_for {iter tg : Expr} {body : List Stmt} {it : Sm (List D)} {g : Tgt} (hp : PassesOwn (model X.prog X.w) X.A X.env X.xe) (hc : X.calm = true) (hi : PI X tg iter (tI (cf X T W) false it)) (hg : PG X tg (tgG X.K g)) (hb : PSs X body (tS (cf X T W) sf))
    (hs : ∀ x, foldedSetIterable iter X.env x = pure x := by intro _; rfl) : PS X (.For tg iter body [] pos) (tS (cf X T W) (sFor it g sf)) := by
  refine ⟨fun pins s σ H D I q => (ps_for hp hc hi hg hb hs).run pins s σ H D I ?_⟩
  obtain ⟨H0, A, m, M, ρ, P, F, q⟩ := q
  refine ⟨H0, A, m, M, ρ, P, F, ?_⟩
  unfold sFor at q
  cases e : it ρ M with
  | stuck => rw [e] at q; exact q.elim
  | exc c g M1 =>
    rw [e] at q
    exact fun H1 cls d s w t x => q A H1 σ P cls d (Ext.step s F.ma) (F.step s w t) x
  | ok items M1 =>
    rw [e] at q
    intro J H1 s w t K
    have F1 := F.step s w t
    have q1 : PZ (cf X T W) H0 A m H1 (forL g sf items ρ M1) D := PZ.step (Ext.step s F.ma) q
    refine ⟨fun i k σ2 H2 => k + i = items.length ∧ ∃ A' M2 ρ2 P2, Ext H0 A H1 A' H2 ∧ FR (cf X T W) H0 A' m M2 H2 ρ2 σ2 P2 ∧ PZ (cf X T W) H0 A' m H2 (forL g sf (items.drop i) ρ2 M2) D,
      ⟨items.length, by simp, A, M1, ρ, P, Ext.refl, F1, by simpa using q1⟩, fun i k σ2 H2 h => ?_⟩
    obtain ⟨hk, A', M2, ρ2, P2, x2, F2, q2⟩ := h
    have hr : RchS A m H0 H1 A' H2 := ⟨x2, F2.base⟩
    cases k with
    | zero =>
      have hi : i = items.length := by omega
      subst hi
      rw [List.drop_length] at q2
      exact .inl ⟨K.stop A' H2 hr, q2 A' H2 σ2 P2 Ext.refl F2⟩
    | succ k =>
      have hi : i < items.length := by omega
      have ed : items.drop i = items[i] :: items.drop (i + 1) := List.drop_eq_getElem_cons hi
      rw [ed] at q2
      obtain ⟨hgo, hy⟩ := K.go A' H2 hr i items[i] (List.getElem?_eq_getElem hi)
      refine .inr ⟨hgo, fun σ' H' => ∃ A3 M3 ρ3 P3, Ext H0 A H1 A3 H' ∧ FR (cf X T W) H0 A3 m M3 H' ρ3 σ' P3 ∧ PZ (cf X T W) H0 A3 m H' (forL g sf (items.drop (i + 1)) ρ3 M3) D, fun σ' H' h => ⟨k, Nat.lt_succ_self k, by omega, h⟩, fun v H3 hv => ?_⟩
      obtain ⟨h3, r3⟩ := hy v H3 hv
      have F3 : FR (cf X T W) H0 A' m M2 H3 ρ2 σ2 P2 ∧ Ext H0 A' H2 A' H3 := by
        rcases h3 with rfl | ⟨p, o, hp, rfl⟩
        · exact ⟨F2, Ext.refl⟩
        · exact ⟨F2.grow hp, ⟨fun _ h _ => h, fun _ h => .inl h, Stp.upd hp⟩⟩
      have q3 := PZ.step F3.2 q2
      unfold forL at q3
      split at q3
      · rename_i ρ3 h3
        refine tg_run F3.1 r3 h3 fun σ' P' F' => ?_
        refine ⟨H0, A', m, M2, ρ3, P', F', loop_run (k := forL g sf (items.drop (i + 1))) q3 fun A4 H4 σ4 P4 ρ4 M4 e4 F4 q4 => ?_⟩
        exact ⟨A4, M4, ρ4, P4, x2.trans (F3.2.trans e4), F4, q4⟩
      · exact q3.elim
end
end DL

set_option Elab.async false
set_option linter.all false
set_option maxRecDepth 100000
set_option maxHeartbeats 2000000
/-! The data layer: comprehensions, new lists. -/
namespace DL
open PySem PySem.Spec PyProof.Rows L2
def wipeE (ρ : Env) : List Nat → Env
  | [] => ρ
  | v :: vs => (wipeE ρ vs).set v none
section
variable {C : Cf} {K : PySem.W.Frag} {H0 H : Hp} {A m : List Addr} {M : Mem} {ρ : Env} {σ : L2.St} {P : List Addr}
theorem ER.clear : ∀ {ρ : Env} {σ : L2.St} {P : List Addr} (i : Nat), ER K H0 A m H ρ σ P → ∃ P', ER K H0 A m H (ρ.set i none) (σ.set i none) P' ∧ P'.Sublist P
  | [], _, P, _, h => ⟨P, by rw [h.1]; exact ⟨rfl, h.2⟩, List.Sublist.refl _⟩
  | none :: ρ, _, P, 0, ⟨y, τ, e, h⟩ => ⟨P, ⟨none, τ, by rw [e]; rfl, h⟩, List.Sublist.refl _⟩
  | some z :: ρ, _, P, 0, ⟨w, τ, Q1, Q2, e, eP, h1, h2⟩ => ⟨Q2, ⟨none, τ, by rw [e]; rfl, h2⟩, by rw [eP]; exact List.sublist_append_right _ _⟩
  | none :: ρ, _, P, i + 1, ⟨y, τ, e, h⟩ => by
    obtain ⟨P', q, s⟩ := ER.clear i h
    exact ⟨P', ⟨y, τ.set i none, by rw [e]; rfl, q⟩, s⟩
  | some z :: ρ, _, P, i + 1, ⟨w, τ, Q1, Q2, e, eP, h1, h2⟩ => by
    obtain ⟨P', q, s⟩ := ER.clear i h2
    exact ⟨Q1 ++ P', ⟨w, τ.set i none, Q1, P', by rw [e]; rfl, rfl, h1, q⟩, by rw [eP]; exact List.Sublist.append (List.Sublist.refl _) s⟩
theorem FR.wipe (F : FR C H0 A m M H ρ σ P) : ∀ vs : List Nat, ∃ P', FR C H0 A m M H (wipeE ρ vs) (L2.wipe σ vs) P'
  | [] => ⟨P, F⟩
  | v :: vs => by
    obtain ⟨P1, F1⟩ := FR.wipe F vs
    obtain ⟨P', q, s⟩ := ER.clear v F1.er
    exact ⟨P', F1.wr, F1.tb, q, s.nodup F1.nd, fun a ha => F1.own a (s.subset ha), F1.ma, F1.aok, F1.base⟩
theorem FR.wish {C' : Cf} (F : FR C H0 A m M H ρ σ P) (h1 : C'.K = C.K) (h2 : C'.T = C.T) : FR C' H0 A m M H ρ σ P := by
  refine ⟨by rw [h1]; exact F.wr, by rw [h2]; exact F.tb, by rw [h1]; exact F.er, F.nd, F.own, F.ma, F.aok, F.base⟩
/-- the slots of a target -/
def Tgt.slots : Tgt → List Nat
  | .one i => [i]
  | .many is => is
theorem wipe_set {i : Nat} {x : Option V} : ∀ {vs : List Nat} {σ : L2.St}, i ∈ vs → L2.wipe (σ.set i x) vs = L2.wipe σ vs
  | v :: vs, σ, h => by
    show (L2.wipe (σ.set i x) vs).set v none = (L2.wipe σ vs).set v none
    by_cases hv : i ∈ vs
    · rw [wipe_set hv]
    · have e : i = v := (List.mem_cons.mp h).resolve_right hv
      subst e
      have q : ∀ {vs : List Nat} {σ : L2.St}, i ∉ vs → L2.wipe (σ.set i x) vs = (L2.wipe σ vs).set i x := by
        intro vs
        induction vs with
        | nil => intro σ _; rfl
        | cons u vs ih =>
          intro σ hu
          show (L2.wipe (σ.set i x) vs).set u none = ((L2.wipe σ vs).set u none).set i x
          rw [ih (fun z => hu (List.mem_cons_of_mem _ z)), List.set_comm]
          exact fun z => hu (by rw [z]; exact List.mem_cons_self)
      rw [q hv, List.set_set]
theorem wipe_wipe : ∀ (vs us : List Nat) (σ : L2.St), (∀ v ∈ vs, v ∈ us) → L2.wipe (L2.wipe σ vs) us = L2.wipe σ us
  | [], us, σ, _ => rfl
  | v :: vs, us, σ, h => by
    show L2.wipe ((L2.wipe σ vs).set v none) us = _
    rw [wipe_set (h v List.mem_cons_self), wipe_wipe vs us σ fun u hu => h u (List.mem_cons_of_mem _ hu)]
theorem wipe_setAll {us : List Nat} : ∀ {is : List Nat} {vs : List V} {σ : L2.St}, (∀ i ∈ is, i ∈ us) → L2.wipe (setAll σ is vs) us = L2.wipe σ us
  | [], _, _, _ => rfl
  | _ :: _, [], _, _ => rfl
  | i :: is, v :: vs, σ, h => by
    show L2.wipe (setAll (σ.set i (some v)) is vs) us = _
    rw [wipe_setAll fun j hj => h j (List.mem_cons_of_mem _ hj), wipe_set (h i List.mem_cons_self)]
/-- a target within a comprehension's block -/
theorem tg_blk {ρ' : Env} {g : Tgt} {d : D} {v : V} {vs : List Nat} {Q : L2.St → Hp → Prop} (F : FR C H0 A m M H ρ σ P) (hv : ∀ i ∈ g.slots, i ∈ vs) (r : Rp C.K A m H d v) (h : tgE g (wipeE ρ vs) d = some ρ')
    (q : ∀ σ' P', FR C H0 A m M H ρ' σ' P' → L2.wipe σ' vs = L2.wipe σ vs → Q σ' H) : tgG C.K g v (L2.wipe σ vs) H Q := by
  obtain ⟨P1, F1⟩ := F.wipe vs
  have ww : L2.wipe (L2.wipe σ vs) vs = L2.wipe σ vs := wipe_wipe vs vs σ fun _ z => z
  cases g with
  | one i =>
    have h' : (if i < (wipeE ρ vs).length then some ((wipeE ρ vs).set i (some (.d d))) else none) = some ρ' := h
    split at h'
    · rename_i hi
      cases h'
      obtain ⟨P', F'⟩ := F1.set (x := .d d) (v := v) ⟨rfl, r⟩ hi
      exact q _ P' F' (by rw [wipe_set (hv i List.mem_cons_self), ww])
    · cases h'
  | many is =>
    cases d with
    | tup l =>
      have h' : (if l.length = is.length ∧ ∀ i ∈ is, i < (wipeE ρ vs).length then some (setAllE (wipeE ρ vs) is l) else none) = some ρ' := h
      split at h'
      · rename_i hc
        cases h'
        obtain ⟨a, ws, e, hs, r⟩ := r
        obtain ⟨P', F'⟩ := FR.setAll (is := is) F1 r hc.2
        exact ⟨a, ws, e, SqT.of hs, by rw [Rps.len r]; exact hc.1, gsN_run (by rw [Rps.len r]; exact hc.1) (q _ P' F' (by rw [wipe_setAll (is := is) hv, ww]))⟩
      · cases h'
    | _ => cases h
end
/-! ### new lists -/
/-- a list that was just laid: nothing else knows it -/
def tF (C : Cf) (f : Sm (List D)) : TE := fun σ H Q => ∃ H0 A m M ρ P, FR C H0 A m M H ρ σ P ∧ match f ρ M with
  | .ok l M' => ∀ H' p vs, Stp m H H' → WR C.K m M' H' → LamX.Tabs C.T H' → ¬ Lv H p → H' p = some (.lst vs) → Rps C.K (p :: A) m H' l vs → Q (.ref p) H'
  | .exc c g M' => ∀ H' cls d, Stp m H H' → WR C.K m M' H' → LamX.Tabs C.T H' → XR C.mg H' c g cls d → C.W cls d σ H'
  | .stuck => False
/-- .. as a value -/
def eF (f : Sm (List D)) : Sm Ev := fun ρ M => bnd (f ρ M) fun l M1 => .ok (.d (.lst l)) M1
theorem not_in_A {A : List Addr} {H : Hp} {p : Addr} (ok : AOk A H) (h : ¬ Lv H p) : p ∉ A := fun hp => by
  obtain ⟨o, e, mu⟩ := ok p hp
  exact h ⟨o, e, muta_tbl mu⟩
theorem de_F {X : Cx} {T : List (Addr × Str)} {W : WX} {e : Expr} {f : Sm (List D)} (h : PE X e (tF (cf X T W) f)) : PE X e (tE (cf X T W) (eF f)) := by
  refine ⟨fun pins s σ H Q I q => h.run pins s σ H Q I ?_⟩
  obtain ⟨H0, A, m, M, ρ, P, F, q⟩ := q
  refine ⟨H0, A, m, M, ρ, P, F, ?_⟩
  unfold eF at q
  cases e : f ρ M with
  | stuck => rw [e] at q; exact q.elim
  | exc c g M1 => rw [e] at q; exact q
  | ok l M1 =>
    rw [e] at q
    exact fun H' p vs s w t n hp r => q H' (.ref p) s w t ⟨p, vs, rfl, hp, not_in_A F.aok n, Rps.avoid (fun a ha => .inl (List.mem_cons_of_mem _ ha)) _ _ r⟩
section
variable {X : Cx} {T : List (Addr × Str)} {W : WX} {a b c e : Expr} {es : List Expr} {tg : Expr} {pos p : Pos} {f g : Sm Ev} {fs : Sm (List Ev)} {k : Bool}
/-- from a rule that lays a list at a free place -/
theorem mk_new {C : Cf} {H0 H H1 : Hp} {A m : List Addr} {M M1 : Mem} {ρ : Env} {σ : L2.St} {P : List Addr} {l : List D} {vs : List V} {Q : VK} {p : Addr} (F : FR C H0 A m M H ρ σ P) (F1 : FR C H0 A m M1 H1 ρ σ P) (s : Stp m H H1) (r : Rps C.K A m H1 l vs) (hp : H1 p = none)
    (q : ∀ H' p vs, Stp m H H' → WR C.K m M1 H' → LamX.Tabs C.T H' → ¬ Lv H p → H' p = some (.lst vs) → Rps C.K (p :: A) m H' l vs → Q (.ref p) H') : Q (.ref p) (upd H1 p (.lst vs)) := by
  refine q _ p vs (s.trans (Stp.upd hp)) (F1.wr.upd hp) (Tabs.upd F1.tb hp) (fun z => ?_) upd_same ?_
  · have hm : p ∉ m := fun h => by
      obtain ⟨o, e, _⟩ := F1.wr.aok p h; rw [hp] at e; cases e
    obtain ⟨o, e, _⟩ := s.lv z hm
    rw [hp] at e; cases e
  · exact Rps.grow (Rps.avoid (fun a ha => (List.mem_cons.mp ha).elim (fun z => .inr (by rw [z]; exact not_lv_of hp)) .inl) _ _ r) hp
theorem subF {C : Cf} {H0 H : Hp} {A m : List Addr} {M : Mem} {ρ : Env} {σ : L2.St} {P : List Addr} {α β : Type} {rel : Rel α β} {f : Sm α} {kk : α → Mem → R (List D)} {Q : VK} (F : FR C H0 A m M H ρ σ P)
    (h : match bnd (f ρ M) kk with
      | .ok l M' => ∀ H' p vs, Stp m H H' → WR C.K m M' H' → LamX.Tabs C.T H' → ¬ Lv H p → H' p = some (.lst vs) → Rps C.K (p :: A) m H' l vs → Q (.ref p) H'
      | .exc c g M' => ∀ H' cls d, Stp m H H' → WR C.K m M' H' → LamX.Tabs C.T H' → XR C.mg H' c g cls d → C.W cls d σ H'
      | .stuck => False) {G : β → Hp → Prop}
    (hk : ∀ d M1 H1 v, FR C H0 A m M1 H1 ρ σ P → Stp m H H1 → rel H0 A m H1 d v → (match kk d M1 with
      | .ok l M' => ∀ H' p vs, Stp m H H' → WR C.K m M' H' → LamX.Tabs C.T H' → ¬ Lv H p → H' p = some (.lst vs) → Rps C.K (p :: A) m H' l vs → Q (.ref p) H'
      | .exc c g M' => ∀ H' cls d, Stp m H H' → WR C.K m M' H' → LamX.Tabs C.T H' → XR C.mg H' c g cls d → C.W cls d σ H'
      | .stuck => False) → G v H1) : tX C rel f σ H G := by
  refine ⟨H0, A, m, M, ρ, P, F, ?_⟩
  cases e : f ρ M with
  | stuck => rw [e] at h; exact h.elim
  | exc c g M1 => rw [e] at h; exact h
  | ok d M1 =>
    rw [e] at h
    exact fun H1 v s w t r => hk d M1 H1 v (F.step s w t) s r h
/-- [a, b, ..] -/
def fLst (fs : Sm (List Ev)) : Sm (List D) := fun ρ M => bnd (fs ρ M) fun xs M1 => optR ((datas xs).bind fun l => if l.length ≤ most then some l else none) M1
theorem df_lst (ha : PA X es (tA (cf X T W) fs)) : PE X (.List es pos) (tF (cf X T W) (fLst fs)) := by
  refine ⟨fun pins s σ H Q I q => (pe_lst ha).run pins s σ H Q I ?_⟩
  obtain ⟨H0, A, m, M, ρ, P, F, q⟩ := q
  refine subF F q fun xs M1 H1 vs F1 s1 r1 q1 => ?_
  cases e : datas xs with
  | none => rw [e] at q1; exact q1.elim
  | some l =>
    rw [e] at q1
    have r := datas_at e r1
    by_cases hc : l.length ≤ most
    · have e2 : ((some l : Option (List D)).bind fun l => if l.length ≤ most then some l else none) = some l := by simp [hc]
      rw [e2] at q1
      exact ⟨by rw [Rps.len r]; exact most_line hc, fun p hp => mk_new F F1 s1 r hp q1⟩
    · have e2 : ((some l : Option (List D)).bind fun l => if l.length ≤ most then some l else none) = none := by simp [hc]
      rw [e2] at q1
      exact q1.elim
/-- [a] * n -/
def mulL (a b : Ev) : Option (List D) := match lstOf a, b with
  | some l, .d (.int k) => if -1000000 ≤ k ∧ k ≤ 1000000 ∧ l.length * k.toNat ≤ most then some (List.replicate k.toNat l).flatten else none
  | _, _ => none
def fMul (f g : Sm Ev) : Sm (List D) := fun ρ M => bnd (f ρ M) fun a M1 => bnd (g ρ M1) fun b M2 => optR (mulL a b) M2
theorem df_mul (ha : PE X a (tE (cf X T W) f)) (hb : PE X b (tE (cf X T W) g)) : PE X (.BinOp a .Mult b pos) (tF (cf X T W) (fMul f g)) := by
  refine ⟨fun pins s σ H Q I q => (pe_op op_rep ha hb).run pins s σ H Q I ?_⟩
  obtain ⟨H0, A, m, M, ρ, P, F, q⟩ := q
  refine subF F q fun x M1 H1 v F1 s1 r1 q1 => ?_
  have q1' : match bnd (g ρ M1) (fun b M2 => optR (mulL x b) M2) with
      | .ok l M' => ∀ H' p vs, Stp m H1 H' → WR X.K m M' H' → LamX.Tabs T H' → ¬ Lv H1 p → H' p = some (.lst vs) → Rps X.K (p :: A) m H' l vs → Q (.ref p) H'
      | .exc c g M' => ∀ H' cls d, Stp m H1 H' → WR X.K m M' H' → LamX.Tabs T H' → XR X.mg H' c g cls d → W cls d σ H'
      | .stuck => False := by
    cases e : bnd (g ρ M1) (fun b M2 => optR (mulL x b) M2) with
    | stuck => rw [e] at q1; exact q1
    | exc c g M' => rw [e] at q1; exact fun H' cls d s w t x => q1 H' cls d (s1.trans s) w t x
    | ok l M' =>
      rw [e] at q1
      exact fun H' p vs s w t n hp r => q1 H' p vs (s1.trans s) w t (fun z => by
        by_cases hm : p ∈ m
        · obtain ⟨o, e, mu⟩ := F1.wr.aok p hm; exact n ⟨o, e, muta_tbl mu⟩
        · exact n (s1.lv z hm)) hp r
  refine subF F1 q1' fun y M2 H2 w F2 s2 r2 q2 => ?_
  cases e : mulL x y with
  | none => rw [e] at q2; exact q2.elim
  | some l =>
    rw [e] at q2
    unfold mulL at e
    split at e
    · rename_i l' k' e1
      obtain ⟨p0, vs, ev, hs, q⟩ := lstOf_at e1 (EvR.step F1.wr.aok F1.ma s2 r1)
      split at e
      · rename_i hc
        cases e
        exact ⟨p0, k', vs, ev, r2, hs, by omega, by omega, by rw [Rps.len q]; exact most_line hc.2.2, fun p hp => mk_new F1 F2 s2 (Rps.rep q _) hp q2⟩
      · cases e
    · cases e
/-- list(x) -/
def fLstOf (f : Sm Ev) : Sm (List D) := fun ρ M => bnd (f ρ M) fun x M1 => optR (seqOf x) M1
/-! ### comprehensions -/
def noX {α : Type} (r : R α) : R α := match r with
  | .ok a M => .ok a M
  | _ => .stuck
def lcL (g : Tgt) (vs : List Nat) (t : Sm Bool) (f : Sm Ev) (ρ : Env) : List D → List D → Mem → R (List D)
  | acc, [], M => .ok acc M
  | acc, d :: r, M => match tgE g (wipeE ρ vs) d with
    | some ρ1 => bnd (noX (t ρ1 M)) fun k M1 => if k = true then bnd (noX (f ρ1 M1)) fun y M2 => match y with
        | .d y => lcL g vs t f ρ (acc ++ [y]) r M2
        | _ => .stuck
      else lcL g vs t f ρ acc r M1
    | none => .stuck
def fLc (it : Sm (List D)) (g : Tgt) (vs : List Nat) (t : Sm Bool) (f : Sm Ev) : Sm (List D) := fun ρ M => bnd (it ρ M) fun items M1 => if items.length ≤ most then lcL g vs t f ρ [] items M1 else .stuck
def W0 : WX := fun _ _ _ _ => False
/-- what the block's run is to reach -/
def Gd (Z : List D → Mem → Prop) (r : R (List D)) : Prop := match r with
  | .ok l M => Z l M
  | _ => False
theorem subB {C : Cf} {H0 H : Hp} {A m : List Addr} {M : Mem} {ρ : Env} {σ : L2.St} {P : List Addr} {α β : Type} {rel : Rel α β} {f : Sm α} {kk : α → Mem → R (List D)} {Z : List D → Mem → Prop} (F : FR C H0 A m M H ρ σ P) (h : Gd Z (bnd (noX (f ρ M)) kk)) {G : β → Hp → Prop}
    (hk : ∀ d M1 H1 v, FR C H0 A m M1 H1 ρ σ P → Stp m H H1 → rel H0 A m H1 d v → Gd Z (kk d M1) → G v H1) : tX C rel f σ H G := by
  refine ⟨H0, A, m, M, ρ, P, F, ?_⟩
  cases e : f ρ M with
  | stuck => rw [e] at h; exact h.elim
  | exc c g M1 => rw [e] at h; exact h.elim
  | ok d M1 =>
    rw [e] at h
    exact fun H1 v s w t r => hk d M1 H1 v (F.step s w t) s r h
def NoE {α : Type} : R α → Prop
  | .exc _ _ _ => False
  | _ => True
theorem NoE.bnd {α β : Type} {r : R α} {k : α → Mem → R β} (h : ∀ a M, NoE (k a M)) : NoE (bnd (noX r) k) := by
  cases r with
  | ok a M => exact h a M
  | _ => trivial
theorem lcL_noX {g : Tgt} {vs : List Nat} {t : Sm Bool} {f : Sm Ev} {ρ : Env} : ∀ (its acc : List D) (M : Mem), NoE (lcL g vs t f ρ acc its M)
  | [], acc, M => trivial
  | d :: r, acc, M => by
    unfold lcL
    cases tgE g (wipeE ρ vs) d with
    | none => trivial
    | some ρ1 =>
      refine NoE.bnd fun b M1 => ?_
      cases b with
      | false => exact lcL_noX r acc M1
      | true =>
        refine NoE.bnd fun y M2 => ?_
        cases y with
        | d y => exact lcL_noX r _ M2
        | _ => trivial
theorem lc_run {it : Sm (List D)} {tgt : Tgt} {vs : List Nat} {t : Sm Bool} (hv : ∀ i ∈ tgt.slots, i ∈ vs) {σ : L2.St} {H : Hp} {Q : VK} (q : tF (cf X T W) (fLc it tgt vs t f) σ H Q) : tLc (tI (cf X T W) true it) (tgG X.K tgt) (tT (cf X T W0) t) (tE (cf X T W0) f) vs σ H Q := by
  obtain ⟨H0, A, m, M, ρ, P, F, q⟩ := q
  refine ⟨H0, A, m, M, ρ, P, F, ?_⟩
  unfold fLc at q
  cases e : it ρ M with
  | stuck => rw [e] at q; exact q.elim
  | exc c g M1 => rw [e] at q; exact q
  | ok items M1 =>
    rw [e, bnd_ok] at q
    intro J H1 s w tb Wl Da nD
    have F1 := F.step s w tb
    have hDm : Da ∉ m := fun z => by obtain ⟨o, e, _⟩ := F1.wr.aok Da z; rw [nD] at e; cases e
    have nH : ¬ Lv H Da := fun z => by obtain ⟨o, e, _⟩ := s.lv z hDm; rw [nD] at e; cases e
    by_cases hc : items.length ≤ most
    · rw [if_pos hc] at q
      have q' : Gd (fun l M' => ∀ H' p ws, Stp m H H' → WR X.K m M' H' → LamX.Tabs T H' → ¬ Lv H p → H' p = some (.lst ws) → Rps X.K (p :: A) m H' l ws → Q (.ref p) H') (lcL tgt vs t f ρ [] items M1) := by
        cases e2 : lcL tgt vs t f ρ [] items M1 with
        | stuck => rw [e2] at q; exact q
        | exc c g M2 => have z := lcL_noX (g := tgt) (vs := vs) (t := t) (f := f) (ρ := ρ) items [] M1; rw [e2] at z; exact z.elim
        | ok l M2 => rw [e2] at q; exact q
      have G0 : FR (cf X T W0) H0 (Da :: A) m M1 (upd H1 Da (.lst [])) ρ σ P := (F1.more nD (o := .lst []) trivial).wish rfl rfl
      refine ⟨fun i k H2 => k + i = items.length ∧ Stp m H1 H2 ∧ ∃ M2 acc accV, FR (cf X T W0) H0 (Da :: A) m M2 H2 ρ σ P ∧ H2 Da = some (.lst accV) ∧ Rps X.K (Da :: A) m H2 acc accV ∧ acc.length ≤ i ∧
        Gd (fun l M' => ∀ H' p ws, Stp m H H' → WR X.K m M' H' → LamX.Tabs T H' → ¬ Lv H p → H' p = some (.lst ws) → Rps X.K (p :: A) m H' l ws → Q (.ref p) H') (lcL tgt vs t f ρ acc (items.drop i) M2),
        ⟨items.length, by simp, Stp.upd nD, M1, [], [], G0, upd_same, rfl, Nat.le_refl _, by simpa using q'⟩, fun i k H2 h => ?_⟩
      obtain ⟨hk, st, M2, acc, accV, F2, hD, rD, la, q2⟩ := h
      have hr : RchC A m H1 (Da :: A) H2 := ⟨fun a ha => (List.mem_cons.mp ha).elim (fun z => .inr (by rw [z]; exact not_lv_of nD)) .inl, fun a ha => List.mem_cons_of_mem _ ha, st⟩
      cases k with
      | zero =>
        have hi : i = items.length := by omega
        subst hi
        rw [List.drop_length] at q2
        exact .inl ⟨Wl.stop _ H2 hr, q2 H2 Da accV (s.trans st) F2.wr F2.tb nH hD rD⟩
      | succ k =>
        have hi : i < items.length := by omega
        have ed : items.drop i = items[i] :: items.drop (i + 1) := List.drop_eq_getElem_cons hi
        rw [ed] at q2
        obtain ⟨hgo, hy⟩ := Wl.go _ H2 hr i items[i] (List.getElem?_eq_getElem hi)
        refine .inr ⟨hgo, fun H' => Stp m H1 H' ∧ ∃ M2 acc accV, FR (cf X T W0) H0 (Da :: A) m M2 H' ρ σ P ∧ H' Da = some (.lst accV) ∧ Rps X.K (Da :: A) m H' acc accV ∧ acc.length ≤ i + 1 ∧
          Gd (fun l M' => ∀ H' p ws, Stp m H H' → WR X.K m M' H' → LamX.Tabs T H' → ¬ Lv H p → H' p = some (.lst ws) → Rps X.K (p :: A) m H' l ws → Q (.ref p) H') (lcL tgt vs t f ρ acc (items.drop (i + 1)) M2),
          fun H' h => ⟨k, Nat.lt_succ_self k, by omega, h⟩, fun v H3 hv3 => ?_⟩
        obtain ⟨h3, r3⟩ := hy v H3 hv3
        have F3 : FR (cf X T W0) H0 (Da :: A) m M2 H3 ρ σ P ∧ Stp m H2 H3 := by
          rcases h3 with rfl | ⟨p, o, hp, rfl⟩
          · exact ⟨F2, Stp.refl _ _⟩
          · exact ⟨F2.grow hp, Stp.upd hp⟩
        unfold lcL at q2
        split at q2
        · rename_i ρ1 h1
          refine tg_blk F3.1 hv r3 h1 fun σ' P' F4 hw => ⟨hw, ?_⟩
          refine subB F4 q2 fun b M5 H5 b' F5 s5 r5 q5 => ?_
          cases (show b = b' from r5)
          have back : ∀ {M6 : Mem} {H6 : Hp}, WR X.K m M6 H6 → LamX.Tabs T H6 → Stp m H3 H6 → FR (cf X T W0) H0 (Da :: A) m M6 H6 ρ σ P ∧ Stp m H1 H6 ∧ H6 Da = some (.lst accV) ∧ Rps X.K (Da :: A) m H6 acc accV := by
            intro M6 H6 w6 t6 s6
            have s26 : Stp m H2 H6 := F3.2.trans s6
            exact ⟨F2.step s26 w6 t6, st.trans s26, s26 Da _ hD hDm lst_tbl, Rps.step F2.wr.aok F2.ma s26 _ _ rD⟩
          cases b with
          | false =>
            rw [if_neg (by decide)] at q5
            obtain ⟨b1, b2, b3, b4⟩ := back F5.wr F5.tb s5
            rw [if_neg (by decide)]
            exact ⟨b2, M5, acc, accV, b1, b3, b4, Nat.le_succ_of_le la, q5⟩
          | true =>
            rw [if_pos rfl] at q5
            rw [if_pos rfl]
            refine subB F5 q5 fun y M6 H6 u F6 s6 r6 q6 => ?_
            obtain ⟨b1, b2, b3, b4⟩ := back F6.wr F6.tb (s5.trans s6)
            split at q6
            · rename_i y
              have hP : Da ∉ P := fun z => by
                have := F1.own Da z
                exact (not_in_A F1.aok (not_lv_of nD)) this.1
              have h0 : ¬ Lv H0 Da := F1.h0 nD
              have F7 := b1.write (a := Da) (o' := .lst (accV ++ [u])) List.mem_cons_self hDm hP h0 b3 trivial trivial
              have up : Stp [Da] H6 (upd H6 Da (.lst (accV ++ [u]))) := stp_upd
              have r7 : Rps X.K (Da :: A) m (upd H6 Da (.lst (accV ++ [u]))) (acc ++ [y]) (accV ++ [u]) :=
                Rps.step (B := [Da]) (aok_one b3 trivial) (fun x hx => by rw [List.mem_singleton.mp hx]; exact List.mem_cons_self) up _ _ (Rps.app b4 (Rps.one r6))
              refine ⟨accV, b3, ?_, fun a o e n tt => ?_, M6, acc ++ [y], accV ++ [u], F7, upd_same, r7, by simp; omega, q6⟩
              · rw [Rps.len b4]; have := most_line hc; omega
              · by_cases ea : a = Da
                · subst ea; rw [nD] at e; cases e
                · rw [upd_ne ea]; exact b2 a o e n tt
            · exact q6.elim
        · exact q2.elim
    · rw [if_neg hc] at q; exact q.elim
theorem df_lc {elt tge iter : Expr} {ifs : List Expr} {scope : Scope} {own : List (Str × Nat)} {it : Sm (List D)} {tgt : Tgt} {t : Sm Bool} (hc : X.calm = true) (hN : X.N.Nodup) (hi : PI X tge iter (tI (cf X T W) true it)) (ok : BlkOk X.N X.env.scope scope own)
    (hg : ∀ (s : Shared) (H : Hp) (C : Addr) (cl : List (Str × Addr)) (fp : List Addr), PG (X.blk s H scope (compEnvC scope cl C X.env) fp) tge (tgG X.K tgt)) (ht : ∀ (s : Shared) (H : Hp) (C : Addr) (cl : List (Str × Addr)) (fp : List Addr), PTs (X.blk s H scope (compEnvC scope cl C X.env) fp) ifs (tT (cf X T W0) t))
    (he : ∀ (s : Shared) (H : Hp) (C : Addr) (cl : List (Str × Addr)) (fp : List Addr), PE (X.blk s H scope (compEnvC scope cl C X.env) fp) elt (tE (cf X T W0) f)) (hv : ∀ i ∈ tgt.slots, i ∈ own.map (·.2) := by decide) (hs : ∀ x, foldedSetIterable iter X.env x = pure x := by intro _; rfl) :
    PE X (.ListComp elt [⟨tge, iter, ifs, 0⟩] scope pos) (tF (cf X T W) (fLc it tgt (own.map (·.2)) t f)) :=
  ⟨fun pins s σ H Q I q => (pe_lc hc hN hi ok hg ht he hs).run pins s σ H Q I (lc_run hv q)⟩
/-- no if -/
def tYesE : Sm Bool := fun _ M => .ok true M
theorem dts_nil : PTs X [] (tT (cf X T W) tYesE) := by
  refine ⟨fun pins s σ H Q I q => pts_nil.run pins s σ H Q I ?_⟩
  obtain ⟨H0, A, m, M, ρ, P, F, q⟩ := q
  exact q.fin F rfl
theorem dts_one {t : Sm Bool} (h : PT X c (tT (cf X T W) t)) : PTs X [c] (tT (cf X T W) t) := pts_one h
end
end DL

set_option Elab.async false
set_option linter.all false
set_option maxRecDepth 100000
set_option maxHeartbeats 2000000
/-! The data layer: names that take lists and dicts of their own. -/
namespace DL
open PySem PySem.Spec PyProof.Rows L2
section
variable {C : Cf} {K : PySem.W.Frag} {H0 H H' : Hp} {A A' m : List Addr} {M M' : Mem} {ρ : Env} {σ : L2.St} {P : List Addr}
theorem FR.gro (F : FR C H0 A m M H ρ σ P) (r : RchC A m H A' H') (w : WR C.K m M' H') (t : LamX.Tabs C.T H') (k : AOk A' H') : FR C H0 A' m M' H' ρ σ P :=
  ⟨w, t, ER.step F.wr.aok (fun a ha => r.2.1 a (F.ma a ha)) r.2.2 (fun a ha => (F.own a ha).2.1) (ER.avoid r.1 F.er), F.nd, fun a ha => ⟨r.2.1 a (F.own a ha).1, (F.own a ha).2⟩, fun a ha => r.2.1 a (F.ma a ha), k, F.base.trans r.2.2⟩
theorem FR.not_live (F : FR C H0 A m M H ρ σ P) {p : Addr} (h : ¬ Lv H p) : p ∉ A ∧ p ∉ m ∧ p ∉ P ∧ ¬ Lv H0 p := by
  have hA : p ∉ A := fun z => by obtain ⟨o, e, mu⟩ := F.aok p z; exact h ⟨o, e, muta_tbl mu⟩
  exact ⟨hA, fun z => hA (F.ma p z), fun z => hA (F.own p z).1, fun z => h (F.base.lv z fun y => hA (F.ma p y))⟩
/-- a slot takes a thing with own addresses, new ones -/
theorem FR.setO (F : FR C H0 A m M H ρ σ P) {x : Ev} {v : V} {P1 : List Addr} {i : Nat} (hx : SlR C.K H0 A m H x v P1) (n1 : P1.Nodup) (h1 : ∀ p ∈ P1, p ∈ A ∧ p ∉ m ∧ ¬ Lv H0 p ∧ p ∉ P) (hi : i < ρ.length) : ∃ P', FR C H0 A m M H (ρ.set i (some x)) (σ.set i (some v)) P' ∧ ∀ p ∈ P', p ∈ P ∨ p ∈ P1 := by
  obtain ⟨L, R, e, sl⟩ := ER.set hx i F.er hi
  have nd := sl.nodup F.nd
  rw [List.nodup_append] at nd
  have mem : ∀ a, a ∈ L ∨ a ∈ R → a ∈ P := fun a h => sl.subset (List.mem_append.mpr h)
  refine ⟨L ++ P1 ++ R, ⟨F.wr, F.tb, e, ?_, fun a ha => ?_, F.ma, F.aok, F.base⟩, fun p hp => ?_⟩
  · rw [List.nodup_append, List.nodup_append]
    refine ⟨⟨nd.1, n1, fun a ha b hb e => ?_⟩, nd.2.1, fun a ha b hb e => ?_⟩
    · subst e; exact (h1 a hb).2.2.2 (mem a (.inl ha))
    · subst e
      rcases List.mem_append.mp ha with z | z
      · exact nd.2.2 a z a hb rfl
      · exact (h1 a z).2.2.2 (mem a (.inr hb))
  · rcases List.mem_append.mp ha with z | z
    · rcases List.mem_append.mp z with z | z
      · exact F.own a (mem a (.inl z))
      · exact ⟨(h1 a z).1, (h1 a z).2.1, (h1 a z).2.2.1⟩
    · exact F.own a (mem a (.inr z))
  · rcases List.mem_append.mp hp with z | z
    · rcases List.mem_append.mp z with z | z
      · exact .inl (mem p (.inl z))
      · exact .inr z
    · exact .inl (mem p (.inr z))
end
/-- a value that a slot may take -/
def PN (C : Cf) (m : List Addr) (H0 : Hp) (A : List Addr) (H : Hp) (σ : L2.St) (r : R Ev) (Q : VK) : Prop := match r with
  | .ok x M' => ∀ A' P1 H' v, RchC A m H A' H' → WR C.K m M' H' → LamX.Tabs C.T H' → AOk A' H' → SlR C.K H0 A' m H' x v P1 → P1.Nodup → (∀ p ∈ P1, p ∈ A' ∧ ¬ Lv H p) → Q v H'
  | .exc c g M' => ∀ H' cls d, Stp m H H' → WR C.K m M' H' → LamX.Tabs C.T H' → XR C.mg H' c g cls d → C.W cls d σ H'
  | .stuck => False
def tN (C : Cf) (f : Sm Ev) : TE := fun σ H Q => ∃ H0 A m M ρ P, FR C H0 A m M H ρ σ P ∧ PN C m H0 A H σ (f ρ M) Q
def nE (f : Sm Ev) : Sm Ev := fun ρ M => bnd (f ρ M) fun x M1 => optR (stor x) M1
def nF (f : Sm (List D)) : Sm Ev := fun ρ M => bnd (f ρ M) fun l M1 => .ok (.ls .own l) M1
theorem tN_E {C : Cf} {f : Sm Ev} {σ : L2.St} {H : Hp} {Q : VK} (h : tN C (nE f) σ H Q) : tE C f σ H Q := by
  obtain ⟨H0, A, m, M, ρ, P, F, q⟩ := h
  refine ⟨H0, A, m, M, ρ, P, F, ?_⟩
  unfold nE at q
  cases e : f ρ M with
  | stuck => rw [e] at q; exact q.elim
  | exc c g M1 => rw [e] at q; exact q
  | ok x M1 =>
    rw [e, bnd_ok] at q
    cases e2 : stor x with
    | none => rw [e2] at q; exact q.elim
    | some y =>
      rw [e2] at q
      intro H' v s w t r
      have F' := F.step s w t
      exact q A [] H' v ⟨fun a h => .inl h, fun a h => h, s⟩ w t F'.aok (stor_at e2 r) List.nodup_nil fun p h => nomatch h
theorem tN_F {C : Cf} {f : Sm (List D)} {σ : L2.St} {H : Hp} {Q : VK} (h : tN C (nF f) σ H Q) : tF C f σ H Q := by
  obtain ⟨H0, A, m, M, ρ, P, F, q⟩ := h
  refine ⟨H0, A, m, M, ρ, P, F, ?_⟩
  unfold nF at q
  cases e : f ρ M with
  | stuck => rw [e] at q; exact q.elim
  | exc c g M1 => rw [e] at q; exact q
  | ok l M1 =>
    rw [e, bnd_ok] at q
    intro H' p vs s w t n hp r
    have ok' : AOk (p :: A) H' := fun a ha => by
      rcases List.mem_cons.mp ha with z | z
      · exact ⟨.lst vs, by rw [z]; exact hp, trivial⟩
      · exact (F.step s w t).aok a z
    exact q (p :: A) [p] H' (.ref p) ⟨fun a h => (List.mem_cons.mp h).elim (fun z => .inr (by rw [z]; exact n)) .inl, fun a h => List.mem_cons_of_mem _ h, s⟩ w t ok' ⟨p, vs, rfl, hp, rfl, r⟩ (by simp) fun a h => by
      rw [List.mem_singleton.mp h]; exact ⟨List.mem_cons_self, n⟩
theorem tE_F {C : Cf} {f : Sm (List D)} {σ : L2.St} {H : Hp} {Q : VK} (h : tE C (eF f) σ H Q) : tF C f σ H Q := by
  obtain ⟨H0, A, m, M, ρ, P, F, q⟩ := h
  refine ⟨H0, A, m, M, ρ, P, F, ?_⟩
  unfold eF at q
  cases e : f ρ M with
  | stuck => rw [e] at q; exact q.elim
  | exc c g M1 => rw [e] at q; exact q
  | ok l M1 =>
    rw [e] at q
    exact fun H' p vs s w t n hp r => q H' (.ref p) s w t ⟨p, vs, rfl, hp, not_in_A F.aok n, Rps.avoid (fun a ha => .inl (List.mem_cons_of_mem _ ha)) _ _ r⟩
section
variable {X : Cx} {T : List (Addr × Str)} {W : WX} {a b c e : Expr} {es : List Expr} {pos p : Pos} {f g : Sm Ev} {fs : Sm (List Ev)}
theorem dn_E (h : PE X e (tE (cf X T W) f)) : PE X e (tN (cf X T W) (nE f)) := ⟨fun pins s σ H Q I q => h.run pins s σ H Q I (tN_E q)⟩
theorem dn_F {f : Sm (List D)} (h : PE X e (tF (cf X T W) f)) : PE X e (tN (cf X T W) (nF f)) := ⟨fun pins s σ H Q I q => h.run pins s σ H Q I (tN_F q)⟩
/-- {}: with keys, with tuples as keys -/
def nDk : Sm Ev := fun _ M => .ok (.dk .own [] []) M
def nDt : Sm Ev := fun _ M => .ok (.dt .own [] []) M
theorem new_own {C : Cf} {H0 H : Hp} {A m : List Addr} {M : Mem} {ρ : Env} {σ : L2.St} {P : List Addr} {x : Ev} {Q : VK} {p : Addr} {o : HO} (F : FR C H0 A m M H ρ σ P) (mu : muta o) (q : PN C m H0 A H σ (.ok x M) Q) (hp : H p = none) (hx : SlR C.K H0 (p :: A) m (upd H p o) x (.ref p) [p]) : Q (.ref p) (upd H p o) := by
  have F' := F.more hp mu
  exact q (p :: A) [p] _ _ ⟨fun a h => (List.mem_cons.mp h).elim (fun z => .inr (by rw [z]; exact not_lv_of hp)) .inl, fun a h => List.mem_cons_of_mem _ h, Stp.upd hp⟩ F'.wr F'.tb F'.aok hx (by simp) fun a h => by
    rw [List.mem_singleton.mp h]; exact ⟨List.mem_cons_self, not_lv_of hp⟩
theorem dn_dk : PE X (.Dict [] [] pos) (tN (cf X T W) nDk) := by
  refine ⟨fun pins s σ H Q I q => pe_dnewK.run pins s σ H Q I ?_⟩
  obtain ⟨H0, A, m, M, ρ, P, F, q⟩ := q
  exact fun p hp => new_own F trivial q hp ⟨p, [], rfl, upd_same, rfl, rfl, rfl⟩
theorem dn_dt : PE X (.Dict [] [] pos) (tN (cf X T W) nDt) := by
  refine ⟨fun pins s σ H Q I q => pe_dnewT.run pins s σ H Q I ?_⟩
  obtain ⟨H0, A, m, M, ρ, P, F, q⟩ := q
  exact fun p hp => new_own F trivial q hp ⟨p, [], rfl, upd_same, rfl, rfl, rfl⟩
/-! several -/
def SlRs (K : PySem.W.Frag) (H0 : Hp) (A m : List Addr) (H : Hp) : List Ev → List V → List Addr → Prop
  | [], vs, P => vs = [] ∧ P = []
  | x :: xs, vs, P => ∃ v r P1 P2, vs = v :: r ∧ P = P1 ++ P2 ∧ SlR K H0 A m H x v P1 ∧ SlRs K H0 A m H xs r P2
theorem SlRs.len {K : PySem.W.Frag} {H0 : Hp} {A m : List Addr} {H : Hp} : ∀ {xs : List Ev} {vs : List V} {P : List Addr}, SlRs K H0 A m H xs vs P → vs.length = xs.length
  | [], _, _, ⟨e, _⟩ => by rw [e]; rfl
  | x :: xs, _, _, ⟨v, r, P1, P2, e, eP, h1, h2⟩ => by rw [e, List.length_cons, List.length_cons, SlRs.len h2]
def tNs (C : Cf) (fs : Sm (List Ev)) : TA := fun σ H Q => ∃ H0 A m M ρ P, FR C H0 A m M H ρ σ P ∧ match fs ρ M with
  | .ok xs M' => ∀ A' P1 H' vs, RchC A m H A' H' → WR C.K m M' H' → LamX.Tabs C.T H' → AOk A' H' → SlRs C.K H0 A' m H' xs vs P1 → P1.Nodup → (∀ p ∈ P1, p ∈ A' ∧ ¬ Lv H p) → Q vs H'
  | .exc c g M' => ∀ H' cls d, Stp m H H' → WR C.K m M' H' → LamX.Tabs C.T H' → XR C.mg H' c g cls d → C.W cls d σ H'
  | .stuck => False
def nNil : Sm (List Ev) := fun _ M => .ok [] M
def nCons (f : Sm Ev) (fs : Sm (List Ev)) : Sm (List Ev) := fun ρ M => bnd (f ρ M) fun x M1 => bnd (fs ρ M1) fun xs M2 => .ok (x :: xs) M2
theorem dns_nil : PA X [] (tNs (cf X T W) nNil) := by
  refine ⟨fun pos pins s σ H Q I q => pa_nil.run pos pins s σ H Q I ?_⟩
  obtain ⟨H0, A, m, M, ρ, P, F, q⟩ := q
  exact q A [] H [] ⟨fun a h => .inl h, fun a h => h, Stp.refl _ _⟩ F.wr F.tb F.aok ⟨rfl, rfl⟩ List.nodup_nil fun p h => nomatch h
theorem dns_cons (he : PE X e (tN (cf X T W) f)) (ha : PA X es (tNs (cf X T W) fs)) (hs : starEach (e :: es) X.env = (false, eval e X.env) :: starEach es X.env := by rfl) : PA X (e :: es) (tNs (cf X T W) (nCons f fs)) := by
  refine ⟨fun pos pins s σ H Q I q => (pa_cons he ha hs).run pos pins s σ H Q I ?_⟩
  obtain ⟨H0, A, m, M, ρ, P, F, q⟩ := q
  refine ⟨H0, A, m, M, ρ, P, F, ?_⟩
  unfold nCons at q
  cases e1 : f ρ M with
  | stuck => rw [e1] at q; exact q.elim
  | exc c g M1 => rw [e1] at q; exact q
  | ok x M1 =>
    rw [e1, bnd_ok] at q
    intro A1 P1 H1 v r1 w1 t1 k1 x1 n1 h1
    have F1 := F.gro r1 w1 t1 k1
    refine ⟨H0, A1, m, M1, ρ, P, F1, ?_⟩
    cases e2 : fs ρ M1 with
    | stuck => rw [e2] at q; exact q.elim
    | exc c g M2 => rw [e2] at q; exact fun H' cls d s w t x => q H' cls d (r1.2.2.trans s) w t x
    | ok xs M2 =>
      rw [e2] at q
      intro A2 P2 H2 vs r2 w2 t2 k2 x2 n2 h2
      have hl : ∀ p ∈ P1, Lv H1 p := fun p hp => by obtain ⟨o, e, mu⟩ := k1 p (h1 p hp).1; exact ⟨o, e, muta_tbl mu⟩
      have n12 : ∀ p, ¬ Lv H1 p → ¬ Lv H p := fun p z y => z (by
        by_cases hm : p ∈ m
        · obtain ⟨o, e, mu⟩ := w1.aok p hm; exact ⟨o, e, muta_tbl mu⟩
        · exact r1.2.2.lv y hm)
      refine q A2 (P1 ++ P2) H2 (v :: vs) ⟨fun a ha => ?_, fun a ha => r2.2.1 a (r1.2.1 a ha), r1.2.2.trans r2.2.2⟩ w2 t2 k2 ⟨v, vs, P1, P2, rfl, rfl, ?_, x2⟩ ?_ fun p hp => ?_
      · rcases r2.1 a ha with z | z
        · exact r1.1 a z
        · exact .inr (n12 a z)
      · exact SlR.step w1.aok (fun a ha => r2.2.1 a (F1.ma a ha)) r2.2.2 (fun a ha => (F.not_live (h1 a ha).2).2.1) (SlR.avoid r2.1 x1)
      · rw [List.nodup_append]
        exact ⟨n1, n2, fun a ha b hb e => (h2 b hb).2 (by rw [← e]; exact hl a ha)⟩
      · rcases List.mem_append.mp hp with z | z
        · exact ⟨r2.2.1 p (h1 p z).1, (h1 p z).2⟩
        · exact ⟨(h2 p z).1, n12 p (h2 p z).2⟩
/-- slots take things, some with own addresses -/
theorem FR.setNs {C : Cf} {H0 H : Hp} {A m : List Addr} {M : Mem} : ∀ {is : List Nat} {xs : List Ev} {vs : List V} {ρ : Env} {σ : L2.St} {P P1 : List Addr}, FR C H0 A m M H ρ σ P → SlRs C.K H0 A m H xs vs P1 → P1.Nodup → (∀ p ∈ P1, p ∈ A ∧ p ∉ m ∧ ¬ Lv H0 p ∧ p ∉ P) → (∀ i ∈ is, i < ρ.length) →
    ∃ P', FR C H0 A m M H (DL.setEvs ρ is xs) (DL.setAll σ is vs) P'
  | [], xs, vs, _, _, P, P1, F, _, _, _, _ => ⟨P, by cases xs <;> cases vs <;> exact F⟩
  | i :: is, [], vs, _, _, P, P1, F, ⟨e, _⟩, _, _, _ => ⟨P, by rw [e]; exact F⟩
  | i :: is, x :: xs, vs, ρ, σ, P, P1, F, ⟨v, r, Q1, Q2, e, eP, h1, h2⟩, n, hp, hi => by
    subst e; subst eP
    rw [List.nodup_append] at n
    obtain ⟨P', F', hP'⟩ := F.setO h1 n.1 (fun p h => hp p (List.mem_append_left _ h)) (hi i List.mem_cons_self)
    exact FR.setNs (is := is) (xs := xs) (vs := r) F' h2 n.2.1 (fun p h => ⟨(hp p (List.mem_append_right _ h)).1, (hp p (List.mem_append_right _ h)).2.1, (hp p (List.mem_append_right _ h)).2.2.1, fun z => (hP' p z).elim (hp p (List.mem_append_right _ h)).2.2.2 fun y => n.2.2 p y p h rfl⟩) fun j hj => by
      rw [List.length_set]; exact hi j (List.mem_cons_of_mem _ hj)
/-! ### the statements -/
def sSetN (i : Nat) (f : Sm Ev) : Ss := fun ρ M => sE (f ρ M) ρ fun x M1 => if i < ρ.length then .nx (ρ.set i (some x)) M1 else .stuck
theorem setN_run {C : Cf} {f : Sm Ev} {i : Nat} {σ : L2.St} {H : Hp} {Dn : Ends} (q : tS C (sSetN i f) Dn σ H) : tN C f σ H fun v H1 => Dn.nx (σ.set i (some v)) H1 := by
  obtain ⟨H0, A, m, M, ρ, P, F, q⟩ := q
  refine ⟨H0, A, m, M, ρ, P, F, ?_⟩
  unfold sSetN at q
  cases e1 : f ρ M with
  | stuck => rw [e1] at q; exact q.elim
  | exc c g M1 =>
    rw [e1] at q
    exact fun H' cls d s w t x => q A H' σ P cls d (Ext.step s F.ma) (F.step s w t) x
  | ok x M1 =>
    rw [e1] at q
    intro A1 P1 H1 v r1 w1 t1 k1 x1 n1 h1
    have F1 := F.gro r1 w1 t1 k1
    have q' : PZ C H0 A m H (if i < ρ.length then .nx (ρ.set i (some x)) M1 else .stuck) Dn := q
    by_cases hi : i < ρ.length
    · rw [if_pos hi] at q'
      obtain ⟨P', F', _⟩ := F1.setO x1 n1 (fun p hp => ⟨(h1 p hp).1, (F.not_live (h1 p hp).2).2.1, (F.not_live (h1 p hp).2).2.2.2, (F.not_live (h1 p hp).2).2.2.1⟩) hi
      exact q' A1 H1 _ P' ⟨fun a h _ => r1.2.1 a h, r1.1, r1.2.2.mono F.ma⟩ F'
    · rw [if_neg hi] at q'; exact q'.elim
theorem ds_setN {i : Nat} {x : Str} {pos' : Pos} (hN : X.N.Nodup) (he : PE X e (tN (cf X T W) f)) (hi : X.N[i]? = some x := by rfl) (hx : Loc X.env.scope x := by first | exact Or.inl rfl | exact Or.inr rfl) (hs : swapsWith e (some (.Name x pos')) pos.line X.env = pure false := by rfl) (hf : X.fn x = true ∨ X.env.scope.names.lookup x = some .local := by first | exact .inl rfl | exact .inr rfl | assumption) :
    PS X (.Assign [.Name x pos'] e pos) (tS (cf X T W) (sSetN i f)) :=
  ⟨fun pins s σ H Dn I q => (ps_set hN hi hx he hs hf).run pins s σ H Dn I (setN_run q)⟩
/-- name = [.. for ..] on one line -/
theorem ds_setLc {i : Nat} {y : Str} {py : Pos} {elt tg iter : Expr} {ifs : List Expr} {scope : Scope} {own : List (Str × Nat)} {spos : Pos} {it : Sm (List D)} {tgt : Tgt} {t : Sm Bool} {n : Sm Ev} (hc : X.calm = true) (hN : X.N.Nodup) (hi : PI X tg iter (tI (cf X T W) true it)) (ok : BlkOk X.N X.env.scope scope own)
    (hg : ∀ (s : Shared) (H : Hp) (C : Addr) (cl : List (Str × Addr)) (fp : List Addr), PG (X.blk s H scope (compEnvC scope cl C X.env) fp) tg (tgG X.K tgt)) (ht : ∀ (s : Shared) (H : Hp) (C : Addr) (cl : List (Str × Addr)) (fp : List Addr), PTs (X.blk s H scope (compEnvC scope cl C X.env) fp) ifs (tT (cf X T W0) t))
    (he : ∀ (s : Shared) (H : Hp) (C : Addr) (cl : List (Str × Addr)) (fp : List Addr), PE (X.blk s H scope (compEnvC scope cl C X.env) fp) elt (tE (cf X T W0) f)) (hn : ∀ σ H Q, tN (cf X T W) n σ H Q → tF (cf X T W) (fLc it tgt (own.map (·.2)) t f) σ H Q)
    (hsw : swapsWith (.ListComp elt [⟨tg, iter, ifs, 0⟩] scope pos) (some (.Name y py)) spos.line X.env = pure true) (hy : X.N[i]? = some y := by rfl) (hyl : X.env.scope.names.lookup y = some .local := by rfl) (hv : ∀ i ∈ tgt.slots, i ∈ own.map (·.2) := by decide) (hs : ∀ x, foldedSetIterable iter X.env x = pure x := by intro _; rfl) :
    PS X (.Assign [.Name y py] (.ListComp elt [⟨tg, iter, ifs, 0⟩] scope pos) spos) (tS (cf X T W) (sSetN i n)) :=
  ⟨fun pins s σ H Dn I q => (ps_setLc hc hN hy hyl hsw hi ok hg ht he hs).run pins s σ H Dn I (lc_run hv (hn _ _ _ (setN_run q)))⟩
theorem hn_own {C : Cf} {f : Sm (List D)} : ∀ σ H Q, tN C (nF f) σ H Q → tF C f σ H Q := fun _ _ _ => tN_F
theorem hn_dat {C : Cf} {f : Sm (List D)} : ∀ σ H Q, tN C (nE (eF f)) σ H Q → tF C f σ H Q := fun _ _ _ q => tE_F (tN_E q)
/-- a, b = .. with plain names, some lists and dicts of their own -/
def sParN (is : List Nat) (fs : Sm (List Ev)) : Ss := fun ρ M => sE (fs ρ M) ρ fun xs M1 => if xs.length = is.length ∧ ∀ i ∈ is, i < ρ.length then .nx (setEvs ρ is xs) M1 else .stuck
theorem parN_run {C : Cf} {fs : Sm (List Ev)} {is : List Nat} {σ : L2.St} {H : Hp} {Dn : Ends} (q : tS C (sParN is fs) Dn σ H) : tNs C fs σ H fun vs H1 => vs.length = is.length ∧ Dn.nx (setAll σ is vs) H1 := by
  obtain ⟨H0, A, m, M, ρ, P, F, q⟩ := q
  refine ⟨H0, A, m, M, ρ, P, F, ?_⟩
  unfold sParN at q
  cases e1 : fs ρ M with
  | stuck => rw [e1] at q; exact q.elim
  | exc c g M1 =>
    rw [e1] at q
    exact fun H' cls d s w t x => q A H' σ P cls d (Ext.step s F.ma) (F.step s w t) x
  | ok xs M1 =>
    rw [e1] at q
    intro A1 P1 H1 vs r1 w1 t1 k1 x1 n1 h1
    have F1 := F.gro r1 w1 t1 k1
    have q' : PZ C H0 A m H (if xs.length = is.length ∧ ∀ i ∈ is, i < ρ.length then .nx (setEvs ρ is xs) M1 else .stuck) Dn := q
    by_cases hi : xs.length = is.length ∧ ∀ i ∈ is, i < ρ.length
    · rw [if_pos hi] at q'
      obtain ⟨P', F'⟩ := FR.setNs F1 x1 n1 (fun p hp => ⟨(h1 p hp).1, (F.not_live (h1 p hp).2).2.1, (F.not_live (h1 p hp).2).2.2.2, (F.not_live (h1 p hp).2).2.2.1⟩) hi.2
      exact ⟨by rw [SlRs.len x1]; exact hi.1, q' A1 H1 _ P' ⟨fun a h _ => r1.2.1 a h, r1.1, r1.2.2.mono F.ma⟩ F'⟩
    · rw [if_neg hi] at q'; exact q'.elim
theorem ds_parN {i j : Nat} {x y : Str} {px py pt : Pos} {kt k2 pt2} (hc : X.calm = true) (hN : X.N.Nodup) (ha : PA X [a, b] (tNs (cf X T W) fs)) (hi : X.N[i]? = some x := by rfl) (hj : X.N[j]? = some y := by rfl) (hij : i ≠ j := by decide)
    (hx : X.env.scope.names.lookup x = some .local := by rfl) (hy : X.env.scope.names.lookup y = some .local := by rfl)
    (hw : swappedStores [.Tuple [.Name x px, .Name y py] kt pt] (.Tuple [a, b] k2 pt2) X.env = pure (some [x, y]) := by rfl)
    (hs : swapsWithSole [.Tuple [.Name x px, .Name y py] kt pt] (.Tuple [a, b] k2 pt2) pos.line X.env = pure false := by rfl) :
    PS X (.Assign [.Tuple [.Name x px, .Name y py] kt pt] (.Tuple [a, b] k2 pt2) pos) (tS (cf X T W) (sParN [i, j] fs)) := by
  refine ⟨fun pins s σ H Dn I q => (ps_par hc hN hi hj hij hx hy ha hw hs).run pins s σ H Dn I ?_⟩
  obtain ⟨H0, A, m, M, ρ, P, F, h⟩ := parN_run q
  refine ⟨H0, A, m, M, ρ, P, F, ?_⟩
  have two : ∀ vs H1, vs.length = [i, j].length ∧ Dn.nx (setAll σ [i, j] vs) H1 → ∃ v w, vs = [v, w] ∧ Dn.nx ((σ.set i (some v)).set j (some w)) H1 := by
    intro vs H1 h
    match vs, h with
    | [v, w], h => exact ⟨v, w, rfl, h.2⟩
  cases e1 : fs ρ M with
  | stuck => rw [e1] at h; exact h
  | exc c g M1 => rw [e1] at h; exact h
  | ok xs M1 =>
    rw [e1] at h
    exact fun A1 P1 H1 vs r1 w1 t1 k1 x1 n1 h1 => two _ _ (h A1 P1 H1 vs r1 w1 t1 k1 x1 n1 h1)
theorem ds_parN3 {i j l : Nat} {x y z : Str} {c : Expr} {px py pz pt : Pos} {kt k2 pt2} (hc : X.calm = true) (hN : X.N.Nodup) (ha : PA X [a, b, c] (tNs (cf X T W) fs)) (hi : X.N[i]? = some x := by rfl) (hj : X.N[j]? = some y := by rfl) (hl : X.N[l]? = some z := by rfl) (hij : i ≠ j := by decide) (hil : i ≠ l := by decide) (hjl : j ≠ l := by decide)
    (hx : X.env.scope.names.lookup x = some .local := by rfl) (hy : X.env.scope.names.lookup y = some .local := by rfl) (hz : X.env.scope.names.lookup z = some .local := by rfl)
    (hw : swappedStores [.Tuple [.Name x px, .Name y py, .Name z pz] kt pt] (.Tuple [a, b, c] k2 pt2) X.env = pure (some [x, y, z]) := by rfl)
    (hs : swapsWithSole [.Tuple [.Name x px, .Name y py, .Name z pz] kt pt] (.Tuple [a, b, c] k2 pt2) pos.line X.env = pure false := by rfl) :
    PS X (.Assign [.Tuple [.Name x px, .Name y py, .Name z pz] kt pt] (.Tuple [a, b, c] k2 pt2) pos) (tS (cf X T W) (sParN [i, j, l] fs)) := by
  refine ⟨fun pins s σ H Dn I q => (ps_par3 hc hN hi hj hl hij hil hjl hx hy hz ha hw hs).run pins s σ H Dn I ?_⟩
  obtain ⟨H0, A, m, M, ρ, P, F, h⟩ := parN_run q
  refine ⟨H0, A, m, M, ρ, P, F, ?_⟩
  have three : ∀ vs H1, vs.length = [i, j, l].length ∧ Dn.nx (setAll σ [i, j, l] vs) H1 → ∃ v w u, vs = [v, w, u] ∧ Dn.nx (((σ.set i (some v)).set j (some w)).set l (some u)) H1 := by
    intro vs H1 h
    match vs, h with
    | [v, w, u], h => exact ⟨v, w, u, rfl, h.2⟩
  cases e1 : fs ρ M with
  | stuck => rw [e1] at h; exact h
  | exc c g M1 => rw [e1] at h; exact h
  | ok xs M1 =>
    rw [e1] at h
    exact fun A1 P1 H1 vs r1 w1 t1 k1 x1 n1 h1 => three _ _ (h A1 P1 H1 vs r1 w1 t1 k1 x1 n1 h1)
end
end DL

set_option Elab.async false
set_option linter.all false
set_option maxRecDepth 100000
set_option maxHeartbeats 2000000
/-! The data layer: lists that are written. -/
namespace DL
open PySem PySem.Spec PyProof.Rows L2
section
variable {C : Cf} {K : PySem.W.Frag} {H0 H H' : Hp} {A A' m : List Addr} {M M' : Mem} {ρ : Env} {σ : L2.St} {P : List Addr}
/-- an own thing of a slot is written -/
theorem FR.mutE (F : FR C H0 A m M H ρ σ P) {j : Nat} {x x' : Ev} {v : V} {a : Addr} {o o' : HO} (h : ρ[j]? = some (some x)) (e : σ[j]? = some (some v)) (ha : a ∈ P) (hp : H a = some o) (mu : muta o) (mu' : muta o')
    (hx : ∀ P1, SlR C.K H0 A m H x v P1 → P1.Nodup → SlR C.K H0 A m (upd H a o') x' v P1) (hy : ∀ P1, SlR C.K H0 A m H x v P1 → a ∈ P1) : FR C H0 A m M (upd H a o') (ρ.set j (some x')) σ P := by
  have ho := F.own a ha
  refine ⟨F.wr.mut ho.2.1 hp mu, Tabs.mut F.tb hp mu, ER.mut (aok_one hp mu) ho.1 ho.2.2 stp_upd hx hy F.nd F.er h e, F.nd, F.own, F.ma, fun b hb => ?_, fun b u e n t => ?_⟩
  · by_cases e : b = a
    · exact ⟨o', by rw [e]; exact upd_same, mu'⟩
    · obtain ⟨o, e1, mu⟩ := F.aok b hb
      exact ⟨o, by rw [upd_ne e]; exact e1, mu⟩
  · have q := F.base b u e n t
    by_cases ex : b = a
    · subst ex; exact absurd ⟨u, e, t⟩ ho.2.2
    · rw [upd_ne ex]; exact q
/-- the own list of a slot -/
theorem FR.ownL (F : FR C H0 A m M H ρ σ P) {j : Nat} {l : List D} (h : ρ[j]? = some (some (.ls .own l))) :
    ∃ p vs, σ[j]? = some (some (.ref p)) ∧ H p = some (.lst vs) ∧ p ∈ A ∧ p ∉ m ∧ Rps C.K A m H l vs ∧ ∀ l' vs', Rps C.K A m (upd H p (.lst vs')) l' vs' → FR C H0 A m M (upd H p (.lst vs')) (ρ.set j (some (.ls .own l'))) σ P := by
  obtain ⟨v, P1, q1, q2, q3⟩ := ER.get F.er h
  obtain ⟨p, vs, rfl, hp, eP, r⟩ := q2
  have hP := q3 p (by rw [eP]; exact List.mem_cons_self)
  have ho := F.own p hP
  refine ⟨p, vs, q1, hp, ho.1, ho.2.1, r, fun l' vs' r' => ?_⟩
  refine F.mutE h q1 hP hp trivial trivial (fun Q1 hq _ => ?_) (fun Q1 hq => ?_)
  · obtain ⟨p', vs'', e, hp', eQ, _⟩ := hq
    cases e
    exact ⟨p, vs', rfl, upd_same, eQ, r'⟩
  · obtain ⟨p', vs'', e, hp', eQ, _⟩ := hq
    cases e
    rw [eQ]; exact List.mem_cons_self
theorem Rps.self {p : Addr} {o o' : HO} (hp : H p = some o) (mu : muta o) (hA : p ∈ A) {l : List D} {vs : List V} (r : Rps K A m H l vs) : Rps K A m (upd H p o') l vs :=
  Rps.step (B := [p]) (aok_one hp mu) (fun x hx => by rw [List.mem_singleton.mp hx]; exact hA) stp_upd l vs r
theorem Rp.self {p : Addr} {o o' : HO} (hp : H p = some o) (mu : muta o) (hA : p ∈ A) {d : D} {v : V} (r : Rp K A m H d v) : Rp K A m (upd H p o') d v :=
  Rp.step (B := [p]) (aok_one hp mu) (fun x hx => by rw [List.mem_singleton.mp hx]; exact hA) stp_upd d v r
/-- an object of the common memory -/
theorem FR.memL (F : FR C H0 A m M H ρ σ P) {n : Nat} {l : List D} (hM : M[n]? = some (.lst l)) {a : Addr} (hm : m[n]? = some a) :
    ∃ vs, H a = some (.lst vs) ∧ a ∈ m ∧ Rps C.K A m H l vs ∧ ∀ l' vs', D.bareL l' = true → Rps C.K A m (upd H a (.lst vs')) l' vs' → FR C H0 A m (M.set n (.lst l')) (upd H a (.lst vs')) ρ σ P ∧ Stp m H (upd H a (.lst vs')) := by
  obtain ⟨vs, h1, h2, h3⟩ := F.wr.ok n a _ hm hM
  have ha : a ∈ m := List.mem_of_getElem? hm
  refine ⟨vs, h1, ha, Rps.bare _ _ h2 h3, fun l' vs' b r' => ?_⟩
  have s : Stp m H (upd H a (.lst vs')) := stp_upd.mono fun x hx => by rw [List.mem_singleton.mp hx]; exact ha
  refine ⟨F.step s ⟨by rw [List.length_set]; exact F.wr.len, F.wr.nd, fun k c o hk ho => ?_⟩ (Tabs.mut F.tb h1 trivial), s⟩
  by_cases ek : k = n
  · subst ek
    rw [hm] at hk
    cases hk
    have hl : k < M.length := (List.getElem?_eq_some_iff.mp hM).1
    rw [List.getElem?_set_self hl] at ho
    cases ho
    exact ⟨vs', upd_same, b, Rps.bare _ _ b r'⟩
  · rw [List.getElem?_set_ne (fun z => ek z.symm)] at ho
    have q := F.wr.ok k c o hk ho
    have hca : c ≠ a := fun z => by
      subst z
      have h1 := List.getElem?_eq_some_iff.mp hk
      have h2 := List.getElem?_eq_some_iff.mp hm
      exact ek ((List.getElem_inj F.wr.nd).mp (h1.2.trans h2.2.symm))
    cases o with
    | lst lo =>
      obtain ⟨us, e1, e2, e3⟩ := q
      exact ⟨us, by rw [upd_ne hca]; exact e1, e2, Rps.self h1 trivial ha e3⟩
/-- a row among rows -/
theorem RowsR.get : ∀ {rows : List (List D)} {vs : List V} {P : List Addr} {i : Nat} {row : List D}, RowsR K A m H rows vs P → rows[i]? = some row → ∃ b ws, vs[i]? = some (.ref b) ∧ b ∈ P ∧ H b = some (.lst ws) ∧ Rps K A m H row ws
  | [], _, _, i, _, _, e => by simp at e
  | r0 :: rows, vs, P, 0, row, ⟨b, ws, r, P', e, eP, hb, hr, ht⟩, q => by
    simp at q; subst q
    exact ⟨b, ws, by rw [e]; rfl, by rw [eP]; exact List.mem_cons_self, hb, hr⟩
  | r0 :: rows, vs, P, i + 1, row, ⟨b, ws, r, P', e, eP, hb, hr, ht⟩, q => by
    obtain ⟨c, us, e1, e2, e3, e4⟩ := RowsR.get (i := i) ht (by simpa using q)
    exact ⟨c, us, by rw [e]; simpa using e1, by rw [eP]; exact List.mem_cons_of_mem _ e2, e3, e4⟩
theorem RowsR.len : ∀ {rows : List (List D)} {vs : List V} {P : List Addr}, RowsR K A m H rows vs P → vs.length = rows.length
  | [], _, _, ⟨e, _⟩ => by rw [e]; rfl
  | r0 :: rows, vs, P, ⟨b, ws, r, P', e, eP, hb, hr, ht⟩ => by rw [e, List.length_cons, List.length_cons, RowsR.len ht]
theorem RowsR.mut {p : Addr} {o : HO} {ws' : List V} {row' : List D} (hp : H p = some o) (mu : muta o) (hA : p ∈ A) (r' : Rps K A m (upd H p (.lst ws')) row' ws') : ∀ {rows : List (List D)} {vs : List V} {P : List Addr} {i : Nat}, P.Nodup → RowsR K A m H rows vs P → vs[i]? = some (.ref p) → RowsR K A m (upd H p (.lst ws')) (rows.set i row') vs P
  | [], _, _, i, _, ⟨e, eP⟩, q => by rw [e] at q; simp at q
  | r0 :: rows, vs, P, 0, nd, ⟨b, ws, r, P', e, eP, hb, hr, ht⟩, q => by
    rw [e] at q; simp at q; subst q
    rw [eP, List.nodup_cons] at nd
    exact ⟨b, ws', r, P', e, eP, upd_same, r', RowsR.step (B := [b]) (aok_one hp mu) (fun x hx => by rw [List.mem_singleton.mp hx]; exact hA) stp_upd (fun a ha z => nd.1 (by rw [← List.mem_singleton.mp z]; exact ha)) ht⟩
  | r0 :: rows, vs, P, i + 1, nd, ⟨b, ws, r, P', e, eP, hb, hr, ht⟩, q => by
    rw [e] at q
    have q' : r[i]? = some (.ref p) := by simpa using q
    rw [eP, List.nodup_cons] at nd
    have mem : ∀ {rows : List (List D)} {vs : List V} {P : List Addr} {i : Nat}, RowsR K A m H rows vs P → vs[i]? = some (.ref p) → p ∈ P := by
      intro rows
      induction rows with
      | nil => intro vs P i h q; rw [h.1] at q; simp at q
      | cons r0 rows ih =>
        intro vs P i h q
        obtain ⟨b, ws, r, P', e, eP, hb, hr, ht⟩ := h
        rw [e] at q; rw [eP]
        cases i with
        | zero => simp at q; subst q; exact List.mem_cons_self
        | succ i => exact List.mem_cons_of_mem _ (ih ht (by simpa using q))
    have hne : b ≠ p := fun z => nd.1 (by rw [z]; exact mem ht q')
    exact ⟨b, ws, r, P', e, eP, by rw [upd_ne hne]; exact hb, Rps.self hp mu hA hr, RowsR.mut hp mu hA r' nd.2 ht q'⟩
theorem FR.ownR (F : FR C H0 A m M H ρ σ P) {j : Nat} {rows : List (List D)} (h : ρ[j]? = some (some (.rw .own rows))) :
    ∃ p vs, σ[j]? = some (some (.ref p)) ∧ H p = some (.lst vs) ∧ vs.length = rows.length ∧ ∀ i row, rows[i]? = some row → ∃ b ws, vs[i]? = some (.ref b) ∧ p ≠ b ∧ b ∈ A ∧ b ∉ m ∧ H b = some (.lst ws) ∧ Rps C.K A m H row ws ∧
      ∀ l' ws', Rps C.K A m (upd H b (.lst ws')) l' ws' → FR C H0 A m M (upd H b (.lst ws')) (ρ.set j (some (.rw .own (rows.set i l')))) σ P := by
  obtain ⟨v, P1, q1, q2, q3⟩ := ER.get F.er h
  have key := q2
  obtain ⟨p, vs, P', rfl, hp, eP, r⟩ := q2
  refine ⟨p, vs, q1, hp, RowsR.len r, fun i row hi => ?_⟩
  obtain ⟨b, ws, e1, e2, e3, e4⟩ := RowsR.get r hi
  have hP := q3 b (by rw [eP]; exact List.mem_cons_of_mem _ e2)
  have ho := F.own b hP
  have hne : ∀ {Q1 : List Addr}, Q1.Nodup → SlR C.K H0 A m H (.rw .own rows) (.ref p) Q1 → p ≠ b := by
    intro Q1 nd hq
    obtain ⟨p', vs', P'', e, hp', eQ, r2⟩ := hq
    cases e
    rw [hp] at hp'; cases hp'
    obtain ⟨b', ws', f1, f2, _⟩ := RowsR.get r2 hi
    rw [e1] at f1; cases f1
    rw [eQ, List.nodup_cons] at nd
    exact fun z => nd.1 (by rw [z]; exact f2)
  have hpb : p ≠ b := by
    have sub : ∀ {ρ : Env} {σ : L2.St} {P : List Addr} {i : Nat} {x : Ev} {v : V}, ER C.K H0 A m H ρ σ P → P.Nodup → ρ[i]? = some (some x) → σ[i]? = some (some v) → ∃ P1, SlR C.K H0 A m H x v P1 ∧ P1.Nodup := by
      intro ρ
      induction ρ with
      | nil => intro σ P i x v _ _ e; simp at e
      | cons y ρ ih =>
        intro σ P i x v h nd e e'
        cases y with
        | none =>
          obtain ⟨y, τ, e2, h⟩ := h
          cases i with
          | zero => simp at e
          | succ i => exact ih h nd (by simpa using e) (by rw [e2] at e'; simpa using e')
        | some z =>
          obtain ⟨w, τ, Q1, Q2, e2, eP, h1, h2⟩ := h
          rw [eP, List.nodup_append] at nd
          cases i with
          | zero => simp at e; rw [e2] at e'; simp at e'; subst e; subst e'; exact ⟨Q1, h1, nd.1⟩
          | succ i => exact ih h2 nd.2.1 (by simpa using e) (by rw [e2] at e'; simpa using e')
    obtain ⟨Q1, hq, nd⟩ := sub F.er F.nd h q1
    exact hne nd hq
  refine ⟨b, ws, e1, hpb, ho.1, ho.2.1, e3, e4, fun l' ws' r' => ?_⟩
  refine F.mutE h q1 hP e3 trivial trivial (fun Q1 hq nd => ?_) (fun Q1 hq => ?_)
  · obtain ⟨p', vs', P'', e, hp', eQ, r2⟩ := hq
    cases e
    rw [hp] at hp'; cases hp'
    rw [eQ, List.nodup_cons] at nd
    exact ⟨p, vs, P'', rfl, by rw [upd_ne hpb]; exact hp, eQ, RowsR.mut e3 trivial ho.1 r' nd.2 r2 e1⟩
  · obtain ⟨p', vs', P'', e, hp', eQ, r2⟩ := hq
    cases e
    rw [hp] at hp'; cases hp'
    obtain ⟨b', ws', f1, f2, _⟩ := RowsR.get r2 hi
    rw [e1] at f1; cases f1
    rw [eQ]; exact List.mem_cons_of_mem _ f2
end
/-! ### o[i] = v -/
def putO (ρ : Env) (M : Mem) (j : Nat) (k : Int) (d : D) : SR := match ρ[j]? with
  | some (some (.ls .own l)) => match ixN l.length k with
    | some q => .nx (ρ.set j (some (.ls .own (l.set q d)))) M
    | none => .stuck
  | some (some (.d (.ob n))) => match M[n]? with
    | some (.lst l) => match ixN l.length k with
      | some q => if D.bareL (l.set q d) = true then .nx ρ (M.set n (.lst (l.set q d))) else .stuck
      | none => .stuck
    | none => .stuck
  | _ => .stuck
def put2 (ρ : Env) (M : Mem) (j : Nat) (x y : Ev) : SR := match x, y with
  | .d d, .d (.int k) => putO ρ M j k d
  | _, _ => .stuck
/-- v[i] = e -/
def sPut (j : Nat) (fi fe : Sm Ev) : Ss := fun ρ M => sE (fe ρ M) ρ fun x M1 => match ρ[j]? with
  | some (some _) => sE (fi ρ M1) ρ fun y M2 => put2 ρ M2 j x y
  | _ => .stuck
/-- v[a][b] = e -/
def putR (ρ : Env) (M : Mem) (j : Nat) (i : Nat) (row : List D) (rows : List (List D)) (x y : Ev) : SR := match x, y with
  | .d d, .d (.int k) => match ixN row.length k with
    | some q => .nx (ρ.set j (some (.rw .own (rows.set i (row.set q d))))) M
    | none => .stuck
  | _, _ => .stuck
def sPutR (j : Nat) (fa fb fe : Sm Ev) : Ss := fun ρ M => sE (fe ρ M) ρ fun x M1 => match ρ[j]? with
  | some (some (.rw .own rows)) => sE (fa ρ M1) ρ fun z M2 => match z with
    | .d (.int ka) => match ixN rows.length ka with
      | some i => match rows[i]? with
        | some row => sE (fb ρ M2) ρ fun y M3 => putR ρ M3 j i row rows x y
        | none => .stuck
      | none => .stuck
    | _ => .stuck
  | _ => .stuck
/-- v.append(e) -/
def appO (ρ : Env) (M : Mem) (j : Nat) (x : Ev) : SR := match x with
  | .d d => match ρ[j]? with
    | some (some (.ls .own l)) => if l.length < most then .nx (ρ.set j (some (.ls .own (l ++ [d])))) M else .stuck
    | some (some (.d (.ob n))) => match M[n]? with
      | some (.lst l) => if D.bareL (l ++ [d]) = true ∧ l.length < most then .nx ρ (M.set n (.lst (l ++ [d]))) else .stuck
      | none => .stuck
    | _ => .stuck
  | _ => .stuck
/-- a list that may be written -/
def wrt (ρ : Env) (M : Mem) (j : Nat) : Bool := match ρ[j]? with
  | some (some (.ls .own _)) => true
  | some (some (.d (.ob n))) => match M[n]? with
    | some (.lst _) => true
    | none => false
  | _ => false
def sApp (j : Nat) (fe : Sm Ev) : Ss := fun ρ M => if wrt ρ M j = true then sE (fe ρ M) ρ fun x M1 => appO ρ M1 j x else .stuck
section
variable {X : Cx} {T : List (Addr × Str)} {W : WX} {a b c e ie : Expr} {es : List Expr} {pos p p2 : Pos} {f g fi fe : Sm Ev} {fs : Sm (List Ev)}
theorem put_run {C : Cf} {H0 H : Hp} {A m : List Addr} {M : Mem} {ρ : Env} {σ : L2.St} {P : List Addr} {j : Nat} {d : D} {k : Int} {v : V} {Dn : Ends} (F : FR C H0 A m M H ρ σ P) (r : Rp C.K A m H d v) (q : PZ C H0 A m H (putO ρ M j k d) Dn) :
    ∃ o, σ[j]? = some (some o) ∧ rSetL o (.int k) v H fun H3 => Dn.nx σ H3 := by
  unfold putO at q
  split at q
  · rename_i l h
    split at q
    · rename_i i hi
      obtain ⟨p, vs, e1, hp, hA, hm, r1, w⟩ := F.ownL h
      have F' := w (l.set i d) (vs.set i v) (Rps.set i (Rps.self hp trivial hA r1) (Rp.self hp trivial hA r))
      exact ⟨_, e1, p, vs, k, i, rfl, rfl, hp, by rw [Rps.len r1]; exact hi, q A _ σ P (Ext.write hA) F'⟩
    · exact q.elim
  · rename_i n h
    split at q
    · rename_i l hM
      split at q
      · rename_i i hi
        split at q
        · rename_i hb
          obtain ⟨u, P1, q1, q2, q3⟩ := ER.get F.er h
          obtain ⟨_, a, hm, rfl⟩ := q2
          obtain ⟨vs, hp, hA, r1, w⟩ := F.memL hM hm
          have hA' := F.ma a hA
          obtain ⟨F', s⟩ := w (l.set i d) (vs.set i v) hb (Rps.set i (Rps.self hp trivial hA' r1) (Rp.self hp trivial hA' r))
          exact ⟨_, q1, a, vs, k, i, rfl, rfl, hp, by rw [Rps.len r1]; exact hi, q A _ σ P (Ext.step s F.ma) F'⟩
        · exact q.elim
      · exact q.elim
    · exact q.elim
  · exact q.elim
theorem ds_put {j : Nat} {x : Str} (he : PE X e (tE (cf X T W) fe)) (hi : PE X ie (tE (cf X T W) fi)) (hN : X.N[j]? = some x := by rfl) (hv : Vis X.env.scope x := by first | exact Or.inl rfl | exact Or.inr (Or.inl rfl) | exact Or.inr (Or.inr rfl)) (hd : (x == ("__debug__" : Str)) = false := by decide)
    (hcd : (x == ("__classdict__" : Str)) = false := by decide) (hs : swapsWithSole [.Subscript (.Name x p) ie p2] e pos.line X.env = pure false := by rfl) (hw : swappedStores [.Subscript (.Name x p) ie p2] e X.env = pure none := by rfl)
    (h1 : (assignEach [.Subscript (.Name x p) ie p2] X.env).map (·.2) = [assign (.Subscript (.Name x p) ie p2) X.env] := by rfl)
    (ha : ∀ v, assign (.Subscript (.Name x p) ie p2) X.env v = (do
      let ov ← holding [v] (eval (.Name x p) X.env)
      let iv ← holding [v, ov] (eval ie X.env)
      standAt p2
      holding [v, ov, iv] (setItem ov iv v)
      release [v, ov, iv] []) := by intro _; rfl) : PS X (.Assign [.Subscript (.Name x p) ie p2] e pos) (tS (cf X T W) (sPut j fi fe)) := by
  refine ⟨fun pins s σ H Dn I q => (ps_asg he (pg_sub (pe_var hN hv hd hcd) hi set_list ha) hs hw h1).run pins s σ H Dn I ?_⟩
  obtain ⟨H0, A, m, M, ρ, P, F, q⟩ := q
  refine subS F q fun x M1 H1 v F1 s1 r1 q1 => ?_
  split at q1
  · rename_i z hz
    obtain ⟨o, P1, h1, _, _⟩ := ER.get F1.er hz
    refine ⟨o, h1, ?_⟩
    refine subS F1 q1 fun y M2 H2 w F2 s2 r2 q2 => ?_
    unfold put2 at q2
    split at q2
    · rename_i d k
      obtain ⟨o', h2, q3⟩ := put_run F2 (Rp.step F1.wr.aok F1.ma s2 _ _ r1) q2
      rw [h1] at h2; cases h2
      rw [show w = V.int k from r2]
      exact q3
    · exact q2.elim
  · exact q1.elim
theorem ds_putR {j : Nat} {x : Str} {p3 : Pos} (hae : PE X a (tE (cf X T W) f)) (he : PE X e (tE (cf X T W) fe)) (hi : PE X ie (tE (cf X T W) fi)) (hN : X.N[j]? = some x := by rfl) (hv : Vis X.env.scope x := by first | exact Or.inl rfl | exact Or.inr (Or.inl rfl) | exact Or.inr (Or.inr rfl)) (hd : (x == ("__debug__" : Str)) = false := by decide)
    (hcd : (x == ("__classdict__" : Str)) = false := by decide) (hpl : PlainIx a := by exact fun _ _ => rfl) (hs : swapsWithSole [.Subscript (.Subscript (.Name x p) a p3) ie p2] e pos.line X.env = pure false := by rfl) (hw : swappedStores [.Subscript (.Subscript (.Name x p) a p3) ie p2] e X.env = pure none := by rfl)
    (h1 : (assignEach [.Subscript (.Subscript (.Name x p) a p3) ie p2] X.env).map (·.2) = [assign (.Subscript (.Subscript (.Name x p) a p3) ie p2) X.env] := by rfl)
    (ha : ∀ v, assign (.Subscript (.Subscript (.Name x p) a p3) ie p2) X.env v = (do
      let ov ← holding [v] (eval (.Subscript (.Name x p) a p3) X.env)
      let iv ← holding [v, ov] (eval ie X.env)
      standAt p2
      holding [v, ov, iv] (setItem ov iv v)
      release [v, ov, iv] []) := by intro _; rfl) : PS X (.Assign [.Subscript (.Subscript (.Name x p) a p3) ie p2] e pos) (tS (cf X T W) (sPutR j f fi fe)) := by
  refine ⟨fun pins s σ H Dn I q => (ps_asg he (pg_sub (pe_ix ix_seq (pe_var hN hv hd hcd) hae hpl) hi set_list ha) hs hw h1).run pins s σ H Dn I ?_⟩
  obtain ⟨H0, A, m, M, ρ, P, F, q⟩ := q
  refine subS F q fun x M1 H1 v F1 s1 r1 q1 => ?_
  split at q1
  · rename_i rows hz
    obtain ⟨p0, vs, h1, hp, hl, row1⟩ := F1.ownR hz
    refine ⟨_, h1, ?_⟩
    refine subS F1 q1 fun z M2 H2 w F2 s2 r2 q2 => ?_
    split at q2
    · rename_i ka
      split at q2
      · rename_i i hi
        split at q2
        · rename_i row hrow
          obtain ⟨p1, vs1, h3, hp1, hl1, row2⟩ := F2.ownR hz
          rw [h1] at h3; cases h3
          obtain ⟨b, ws, e1, hne, hA, hm, e3, e4, _⟩ := row2 i row hrow
          refine .inl ⟨p0, vs1, ka, .ref b, rfl, r2, SqL.of hp1, by unfold atI; rw [hl1, hi]; exact e1, ?_⟩
          refine subS F2 q2 fun y M3 H3 u F3 s3 r3 q3 => ?_
          unfold putR at q3
          split at q3
          · rename_i d k
            split at q3
            · rename_i q hq
              obtain ⟨p4, vs4, h4, hp4, hl4, row4⟩ := F3.ownR hz
              rw [h1] at h4; cases h4
              have hp3 := s3 p0 _ hp1 (fun hm0 => by
                obtain ⟨v', P1, g1, g2, g3⟩ := ER.get F2.er hz
                rw [h1] at g1; cases g1
                obtain ⟨pp, vv, PP, ee, hh, eP, _⟩ := g2
                cases ee
                exact (F2.own p0 (g3 p0 (by rw [eP]; exact List.mem_cons_self))).2.1 hm0) lst_tbl
              rw [hp4] at hp3; cases hp3
              obtain ⟨b', ws', f1, fne, fA, fm, f3, f4, fw⟩ := row4 i row hrow
              rw [e1] at f1; cases f1
              have F4 := fw (row.set q d) (ws'.set q v) (Rps.set q (Rps.self f3 trivial fA f4) (Rp.self f3 trivial fA (Rp.step F2.wr.aok F2.ma s3 _ _ (Rp.step F1.wr.aok F1.ma s2 _ _ r1))))
              exact ⟨b, ws', k, q, rfl, r3, f3, by rw [Rps.len f4]; exact hq, q3 A _ σ P (Ext.write fA) F4⟩
            · exact q3.elim
          · exact q3.elim
        · exact q2.elim
      · exact q2.elim
    · exact q2.elim
  · exact q1.elim
/-! ### v.append(e) -/
theorem ds_append {j : Nat} {x : Str} {apos cpos : Pos} (he : PE X e (tE (cf X T W) fe)) (hN : X.N[j]? = some x := by rfl) (hv : Vis X.env.scope x := by first | exact Or.inl rfl | exact Or.inr (Or.inl rfl) | exact Or.inr (Or.inr rfl)) (hd : (x == ("__debug__" : Str)) = false := by decide)
    (hcd : (x == ("__classdict__" : Str)) = false := by decide) (hbase : attributeBase (.Name x p) "append" X.env (eval (.Name x p) X.env) = eval (.Name x p) X.env := by rfl)
    (hfew : ((backTo cpos (starEach [e] X.env)).all (fun x => !x.1) && (backToKw cpos (keywordEach [] X.env)).all (fun x => x.1.isSome)
      && decide (([e] : List Expr).length + ([] : List Keyword).length + (if ([] : List Keyword).isEmpty then 0 else 1) < 30)) = true := by rfl)
    (hline : (apos.endLine == cpos.line) = true := by rfl) (hs : starEach [e] X.env = (false, eval e X.env) :: starEach [] X.env := by rfl) (hsw : swapsWith (.Call (.Attribute (.Name x p) "append" apos) [e] [] cpos) none pos.line X.env = pure false := by rfl) :
    PS X (.Expr (.Call (.Attribute (.Name x p) "append" apos) [e] [] cpos) pos) (tS (cf X T W) (sApp j fe)) := by
  refine ⟨fun pins s σ H Dn I q => (ps_expr (pe_bm PySem.F.plainAttrs_list PySem.F.slot_list_append PySem.F.type_list_append mt_append (pe_var hN hv hd hcd) (pa_cons he pa_nil hs) hbase hfew hline hs rfl) hsw).run pins s σ H Dn I ?_⟩
  obtain ⟨H0, A, m, M, ρ, P, F, q⟩ := q
  have q : PZ (cf X T W) H0 A m H (if wrt ρ M j = true then sE (fe ρ M) ρ fun x M1 => appO ρ M1 j x else .stuck) Dn := q
  by_cases hw : wrt ρ M j = true
  · rw [if_pos hw] at q
    have first : ∃ o, σ[j]? = some (some (.ref o)) ∧ tyV X.K "list" (.ref o) H := by
      unfold wrt at hw
      split at hw
      · rename_i l h
        obtain ⟨p0, vs, e1, hp, _⟩ := F.ownL h
        exact ⟨p0, e1, .inl ⟨rfl, vs, SqL.of hp⟩⟩
      · rename_i n h
        split at hw
        · rename_i l hM
          obtain ⟨u, P1, q1, q2, q3⟩ := ER.get F.er h
          obtain ⟨_, a, hm, rfl⟩ := q2
          obtain ⟨vs, hp, _⟩ := F.memL hM hm
          exact ⟨a, q1, .inl ⟨rfl, vs, SqL.of hp⟩⟩
        · cases hw
      · cases hw
    obtain ⟨o, ho, ty⟩ := first
    refine ⟨_, ho, ty, ?_⟩
    refine subS F q fun y M1 H1 w F1 s1 r1 q1 => ?_
    unfold appO at q1
    split at q1
    · rename_i d
      split at q1
      · rename_i l h
        split at q1
        · rename_i hc
          obtain ⟨p0, vs, e1, hp, hA, hm, r2, wt⟩ := F1.ownL h
          rw [ho] at e1; cases e1
          have F' := wt (l ++ [d]) (vs ++ [w]) (Rps.app (Rps.self hp trivial hA r2) (Rps.one (Rp.self hp trivial hA r1)))
          exact ⟨o, vs, w, rfl, rfl, hp, by have := most_line (Nat.le_refl most); rw [Rps.len r2]; omega, q1 A _ σ P (Ext.write hA) F'⟩
        · exact q1.elim
      · rename_i n h
        split at q1
        · rename_i l hM
          split at q1
          · rename_i hc
            obtain ⟨u, P1, g1, g2, g3⟩ := ER.get F1.er h
            obtain ⟨_, a, hm, rfl⟩ := g2
            rw [ho] at g1; cases g1
            obtain ⟨vs, hp, hA, r2, wt⟩ := F1.memL hM hm
            have hA' := F1.ma o hA
            obtain ⟨F', s⟩ := wt (l ++ [d]) (vs ++ [w]) hc.1 (Rps.app (Rps.self hp trivial hA' r2) (Rps.one (Rp.self hp trivial hA' r1)))
            exact ⟨o, vs, w, rfl, rfl, hp, by have := most_line (Nat.le_refl most); rw [Rps.len r2]; omega, q1 A _ σ P (Ext.step s F.ma) F'⟩
          · exact q1.elim
        · exact q1.elim
      · exact q1.elim
    · exact q1.elim
  · rw [if_neg hw] at q; exact q.elim
end
end DL

set_option Elab.async false
set_option linter.all false
set_option maxRecDepth 100000
set_option maxHeartbeats 2000000
/-! The data layer: defs, calls, raise. -/
namespace DL
open PySem PySem.Spec PyProof.Rows L2
/-- what is handed to a def -/
def pass1 : Ev → Option Ev
  | .d x => some (.d x)
  | .ls .vw l => some (.ls .pv l)
  | .ls .pv l => some (.ls .pv l)
  | .dk .vw ks l => some (.dk .pv ks l)
  | .dk .pv ks l => some (.dk .pv ks l)
  | .dt .vw ks l => some (.dt .pv ks l)
  | .dt .pv ks l => some (.dt .pv ks l)
  | _ => none
def passL : List Ev → Option (List Ev)
  | [] => some []
  | x :: l => match pass1 x, passL l with
    | some y, some r => some (y :: r)
    | _, _ => none
abbrev Fn := List Ev → Mem → R D
def eCall (n : Nat) (F : Fn) (fs : Sm (List Ev)) : Sm Ev := fun ρ M => bnd (fs ρ M) fun xs M1 => match passL xs with
  | some ys => if ys.length = n then bnd (F ys M1) fun d M2 => .ok (.d d) M2 else .stuck
  | none => .stuck
/-- a def's end -/
def PF (K : PySem.W.Frag) (mg : Str → Option Value) (T : List (Addr × Str)) (A m : List Addr) (H : Hp) (r : R D) (Q : VK) (E : XK) : Prop := match r with
  | .ok d M' => ∀ H' v, Stp m H H' → WR K m M' H' → LamX.Tabs T H' → Rp K A m H' d v → Q v H'
  | .exc c g M' => ∀ H' cls d, Stp m H H' → WR K m M' H' → LamX.Tabs T H' → XR mg H' c g cls d → E cls d H'
  | .stuck => False
/-- what a def promises -/
def spD (K : PySem.W.Frag) (mg : Str → Option Value) (T : List (Addr × Str)) (n : Nat) (F : Fn) : Sp := fun vs H Q E => vs.length = n ∧ ∃ A m M xs, WR K m M H ∧ LamX.Tabs T H ∧ (∀ a ∈ m, a ∈ A) ∧ AOk A H ∧ ER K H A m H (xs.map some) (vs.map some) [] ∧ PF K mg T A m H (F xs M) Q E
/-- what a body makes of the arguments -/
def fnOf (n : Nat) (f : Ss) : Fn := fun xs M => match f (xs.map some ++ List.replicate (n - xs.length) none) M with
  | .nx _ M' => .ok .non M'
  | .rt d M' => .ok d M'
  | .exc c g _ M' => .exc c g M'
  | _ => .stuck
theorem ER.pad {K : PySem.W.Frag} {H0 H : Hp} {A m : List Addr} : ∀ {ρ : Env} {σ : L2.St} {P : List Addr} (k : Nat), ER K H0 A m H ρ σ P → ER K H0 A m H (ρ ++ List.replicate k none) (σ ++ List.replicate k none) P
  | [], σ, P, 0, ⟨e, h⟩ => by rw [e]; exact ⟨rfl, h⟩
  | [], σ, P, k + 1, ⟨e, h⟩ => by
    rw [e]
    exact ⟨none, List.replicate k none, rfl, ER.pad (ρ := []) (σ := []) k ⟨rfl, h⟩⟩
  | none :: ρ, σ, P, k, ⟨y, τ, e, h⟩ => ⟨y, τ ++ List.replicate k none, by rw [e]; rfl, ER.pad k h⟩
  | some x :: ρ, σ, P, k, ⟨v, τ, P1, P2, e, eP, h1, h2⟩ => ⟨v, τ ++ List.replicate k none, P1, P2, by rw [e]; rfl, eP, h1, ER.pad k h2⟩
theorem fn_start {C : Cf} {E : XK} {N ps : List Str} {f : Ss} {vs : List V} {H : Hp} {Q : VK} (hW : C.W = fun cls d _ H => E cls d H) (h : spD C.K C.mg C.T ps.length (fnOf N.length f) vs H Q E) : tS C f { nx := fun _ H' => Q .non H', rt := Q } (L2.start N vs) H := by
  obtain ⟨hl, A, m, M, xs, w, t, hm, ok, er, q⟩ := h
  have el : xs.length = vs.length := by simpa using (ER.len er).symm
  refine ⟨H, A, m, M, xs.map some ++ List.replicate (N.length - xs.length) none, [], ⟨w, t, by unfold L2.start; rw [← el]; exact ER.pad _ er, List.nodup_nil, fun a h => (nomatch h), hm, ok, Stp.refl _ _⟩, ?_⟩
  unfold fnOf at q
  revert q
  cases f (xs.map some ++ List.replicate (N.length - xs.length) none) M with
  | nx ρ' M' => exact fun q A' H' σ' P' e F => q H' .non F.base F.wr F.tb rfl
  | rt d M' => exact fun q H' v w t s r => q H' v s w t (r A fun a ha => ⟨ha, by obtain ⟨o, e, mu⟩ := ok a ha; exact ⟨o, e, muta_tbl mu⟩⟩)
  | bk ρ' M' => exact fun q => q.elim
  | ct ρ' M' => exact fun q => q.elim
  | stuck => exact fun q => q.elim
  | exc c g ρ' M' =>
    intro q A' H' σ' P' cls d e F x
    rw [hW]
    exact q H' cls d F.base F.wr F.tb x
/-- a def of the text that holds what F tells -/
structure Dn (P : Program) (w : World) (K : PySem.W.Frag) (mg : Str → Option Value) (base : Heap) (T : List (Addr × Str)) (k : Nat) (x : Str) (n : Nat) (F : Fn) : Prop where
  ex : ∃ f fd ps, ps.length = n ∧ FnOk P w K mg base (L2.CX P w) k f fd ps (spD K mg T ps.length F) ∧ mg x = some (.ref f) ∧ PySem.W.keepIn K (.ref f) = true ∧ Binds K fd ps []
section
variable {P : Program} {w : World} {K : PySem.W.Frag} {mg : Str → Option Value} {base : Heap} {T : List (Addr × Str)}
abbrev wE (E : XK) : WX := fun cls d _ H => E cls d H
theorem dn_mono {j k n : Nat} {x : Str} {F : Fn} (h : Dn P w K mg base T j x n F) (hk : j ≤ k) : Dn P w K mg base T k x n F := by
  obtain ⟨f, fd, ps, hn, a, b⟩ := h.ex
  exact ⟨f, fd, ps, hn, a.mono hk, b⟩
theorem dn_of {x qual : Str} {st : Stmt} {f : Addr} {fd : FuncData} {N ps : List Str} {k : Nat} {g : Ss} (F : Fun K x qual st f fd) (hx : mg x = some (.ref f)) (hb : Binds K fd ps []) (S : FnScope N ps (defScope st))
    (hbody : ∀ (cdv : Value) (A : Around) (outer : List PySem.Env) (s : Shared) (H : Hp) (E : XK), Room k (A.deeper (envOfC qual (defScope st) s.heap.objs.size f cdv)) →
      PSs (cxOf (L2.CX P w) P w K mg base N qual (defScope st) f cdv A outer s H E) (defBody st) (tS ⟨K, mg, T, wE E⟩ g)) : Dn P w K mg base T (k + 1) x ps.length (fnOf N.length g) :=
  ⟨f, fd, ps, rfl, F.okX S (fun vs H Q E h => h.1) (fun cdv A outer s H vs Q E hr h => ⟨_, hbody cdv A outer s H E hr, fn_start (C := ⟨K, mg, T, wE E⟩) rfl h⟩), hx, F.kp, hb⟩
/-- no step left -/
theorem dn_zero {x qual : Str} {st : Stmt} {f : Addr} {fd : FuncData} {ps : List Str} {k : Nat} (F : Fun K x qual st f fd) (hx : mg x = some (.ref f)) (hb : Binds K fd ps []) : Dn P w K mg base T k x ps.length (fun _ _ => .stuck) :=
  ⟨f, fd, ps, rfl, ⟨fun vs H Q E h => h.1, fun A outer s H args us vs Q E hr he hbb hv h => by obtain ⟨_, _, _, _, _, _, _, _, _, _, q⟩ := h; exact q.elim⟩, hx, F.kp, hb⟩
end
section
variable {X : Cx} {T : List (Addr × Str)} {W : WX} {a b c e ie : Expr} {es : List Expr} {x : Str} {pos p p2 : Pos} {f g fi fe : Sm Ev} {fs : Sm (List Ev)} {k n : Nat} {F : Fn}
theorem pass_at {K : PySem.W.Frag} {H0 H : Hp} {A m : List Addr} (hm : AOk m H) : ∀ {xs ys : List Ev} {vs : List V}, passL xs = some ys → EvL K H0 A m H xs vs → ER K H A m H (ys.map some) (vs.map some) []
  | [], _, _, h, r => by cases h; cases r; exact ⟨rfl, rfl⟩
  | x :: xs, _, _, h, r => by
    unfold passL at h
    cases r with
    | cons r1 r2 =>
      rename_i v vs
      split at h
      · rename_i y ys e1 e2
        cases h
        refine ⟨v, vs.map some, [], [], rfl, rfl, ?_, pass_at hm e2 r2⟩
        unfold pass1 at e1
        split at e1
        · cases e1; exact ⟨rfl, r1⟩
        · cases e1; obtain ⟨a, vs, e, h, n, z, r⟩ := r1; exact ⟨rfl, a, vs, e, h, n, ⟨_, h, lst_tbl⟩, r⟩
        · cases e1; obtain ⟨a, vs, e, h, n, z, r⟩ := r1; exact ⟨rfl, a, vs, e, h, n, ⟨_, h, lst_tbl⟩, r⟩
        · cases e1; obtain ⟨a, vs, e, h, ek, n, z, r⟩ := r1; exact ⟨rfl, a, vs, e, h, ek, n, ⟨_, h, dK_tbl⟩, r⟩
        · cases e1; obtain ⟨a, vs, e, h, ek, n, z, r⟩ := r1; exact ⟨rfl, a, vs, e, h, ek, n, ⟨_, h, dK_tbl⟩, r⟩
        · cases e1; obtain ⟨a, vs, e, h, ek, n, z, r⟩ := r1; exact ⟨rfl, a, vs, e, h, ek, n, ⟨_, h, dT_tbl⟩, r⟩
        · cases e1; obtain ⟨a, vs, e, h, ek, n, z, r⟩ := r1; exact ⟨rfl, a, vs, e, h, ek, n, ⟨_, h, dT_tbl⟩, r⟩
        · cases e1
      · cases h
theorem de_call (G : Dn X.prog X.w X.K X.mg X.base T k x n F) (hr : Room k X.A) (hg : Gl X x) (tk : Takes X W) (ha : PA X (e :: es) (tA (cf X T W) fs)) (hdb : (x == ("__debug__" : Str)) = false := by decide) (he : starEach (e :: es) X.env = (false, eval e X.env) :: starEach es X.env := by rfl)
    (hpl : (backTo pos (starEach es X.env)).any (·.1) = false := by rfl) : PE X (.Call (.Name x p) (e :: es) [] pos) (tE (cf X T W) (eCall n F fs)) := by
  obtain ⟨af, fd, ps, hn, G, hm, hk, hb⟩ := G.ex
  refine ⟨fun pins s σ H Q I q => (pe_callS (E := WE W) G hr hg hm hk hb (fun σ => passAt tk σ) ha hdb he hpl).run pins s σ H Q I ?_⟩
  obtain ⟨H0, A, m, M, ρ, P, F1, q⟩ := q
  refine sub F1 q fun xs M1 H1 vs F2 _ r1 q1 => ?_
  split at q1
  · rename_i ys hy
    split at q1
    · rename_i hl
      have er := pass_at F2.wr.aok hy r1
      have el : vs.length = ys.length := by simpa using ER.len er
      refine ⟨by rw [el, hl, hn], A, m, M1, ys, F2.wr, F2.tb, F2.ma, F2.aok, er, ?_⟩
      revert q1
      cases F ys M1 with
      | ok d M2 => exact fun q1 H' v s w t r => q1 H' v s w t r
      | exc c g M2 => exact fun q1 H' cls d s w t x => q1 H' cls d s w t x
      | stuck => exact fun q1 => q1
    · exact q1.elim
  · exact q1.elim
/-! ### raise C() -/
/-- C(), an own class of exceptions that has no maker of its own -/
theorem pmk_none {Ca : Addr} {bmB : List Value} {B n1 n2 : String} (Fb : ExcBaseFacts B n1 n2 bmB) (hq : PySem.W.excIn X.K Ca bmB n1 = true) (hC : X.mg x = some (.ref Ca)) (hk : PySem.W.keepIn X.K (.ref Ca) = true) (hr : Raises X (.ref Ca)) (hg : Gl X x) (hdb : (x == ("__debug__" : Str)) = false := by decide) :
    PMk X (.Call (.Name x p) [] [] pos) (fun _ H Q => Q (.ref Ca) none H) := by
  intro pins s σ H Q I hQ
  refine wpAny_Call_Name_kw (ld_glob I hg hC ?_ hdb)
  refine PySem.W.callWith_K0 I.kIn hk ?_
  obtain ⟨_, _, _, _, _, _, _, _, _, _, _, _, _, _, _, _, _, e1, e2, e3, e4⟩ := exc_obj I.kIn hq
  exact wpAny_call_exc_subT Fb e4 e1 e2 e3 (fun _ _ hm => mk_of I hm hr hQ (I.hok.gone hm.new)) (Nat.zero_le _)
/-- what the text tells of an exception's class -/
structure XC (K : PySem.W.Frag) (mg : Str → Option Value) (c : Str) : Prop where
  ex : ∃ Ca, mg c = some (.ref Ca) ∧ PySem.W.excIn K Ca [.type "ValueError", .type "Exception", .type "BaseException", .type "object"] "ValueError.__new__" = true ∧ PySem.W.keepIn K (.ref Ca) = true ∧
    PySem.W.subIn K (.ref Ca) (.type "BaseException") = some true ∧ PySem.W.typeIn K (.ref Ca) = some (.type "type")
def sRaise (c : Str) : Ss := fun ρ M => .exc c none ρ M
theorem ds_raise (hc : X.calm = true) (tk : Takes X W) (hx : XC X.K X.mg x) (hg : Gl X x) (hdb : (x == ("__debug__" : Str)) = false := by decide) : PS X (.Raise (some (.Call (.Name x p) [] [] p2)) none pos) (tS (cf X T W) (sRaise x)) := by
  obtain ⟨Ca, h1, h2, h3, h4, h5⟩ := hx.ex
  refine ⟨fun pins s σ H Dn I q => (ps_raise hc tk (pmk_none PySem.F.excBase_ValueError h2 h1 h3 (raises_own h4 h5) hg hdb)).run pins s σ H Dn I ?_⟩
  obtain ⟨H0, A, m, M, ρ, P, F1, q⟩ := q
  exact q A H σ P (.ref Ca) none Ext.refl F1 ⟨Ca, h1, rfl, rfl⟩
end
end DL

set_option Elab.async false
set_option linter.all false
set_option maxRecDepth 100000
set_option maxHeartbeats 2000000
/-! The data layer: a lambda handed to a def that calls it and tells what it raised. -/
namespace DL
open PySem PySem.Spec PyProof.Rows L2
/-- try: call() / except pe as e: return isinstance(e, bn) / return False -/
def TTr (K : PySem.W.Frag) (CS CB : Addr) : (XK → Hp → VK → Prop) → Hp → VK → Prop := fun tl H Q =>
  tl (fun cls d H' => d = none ∧ ∃ Dc b, cls = .ref Dc ∧ ExcC K Dc ∧ PySem.W.exmOne K cls (.ref CS) = some true ∧ PySem.W.kitOne K (.ref Dc) (.ref CB) = some b ∧ Q (.bl b) H') H (fun _ H' => Q (.bl false) H')
section
variable {X : Cx} {T : List (Addr × Str)} {W : WX}
theorem raised_gives {x pe bn q : Str} {sg : Scope} {g CS CB : Addr} {cdg : Value} {j : Nat} {p1 p2 p3 p4 p5 p6 p7 p8 p9 p10 p11 p12 p13 : Pos} (h1 : sg.names.lookup pe = some .globalImplicit) (m1 : X.mg pe = some (.ref CS)) (d1 : (pe == ("__debug__" : Str)) = false)
    (h2 : sg.names.lookup ("isinstance" : Str) = some .globalImplicit) (m2 : X.mg "isinstance" = none) (h3 : sg.names.lookup bn = some .globalImplicit) (m3 : X.mg bn = some (.ref CB)) (d3 : (bn == ("__debug__" : Str)) = false) (h4 : sg.names.lookup ("e" : Str) = some .local) :
    LamX.GivesTo X ["call", "e"] x sg g cdg [.Try [.Expr (.Call (.Name "call" p1) [] [] p2) p3] [.ExceptHandler (some (.Name pe p4)) (some "e") [.Return (some (.Call (.Name "isinstance" p5) [.Name "e" p6, .Name bn p7] [] p8)) p9] p10] [] [] p11, .Return (some (.Constant (.bool false) j p12)) p13] "call" q (TTr X.K CS CB) := by
  intro f c' s H Q tl act hc h
  have hgl : Gl (cxOf C8.CX0 X.prog X.w X.K X.mg X.base ["call", "e"] x sg g cdg X.A X.stack s H C8.E0).nox pe := h1
  have nd : (["call", "e"] : List Str).Nodup := by decide +kernel
  refine ⟨_, pss_cons (ps_try_as (X := (cxOf C8.CX0 X.prog X.w X.K X.mg X.base ["call", "e"] x sg g cdg X.A X.stack s H C8.E0).nox) (i := 1) (c := .ref CS)
      (tb := fun W D σ H => ∃ Ech : XK, (∀ cls d σ' H', Ech cls d H' → W cls d σ' H') ∧ σ[0]? = some (some (.ref f)) ∧ H c' = some (LamX.CodeO c' q) ∧ tl Ech H (fun _ H' => D.nx σ H'))
      (ts := fun a cls d D σ H => (1 < σ.length → σ[1]? = some (some (.ref a))) ∧ d = none ∧ ∃ Dc b, cls = .ref Dc ∧ ExcC X.K Dc ∧ PySem.W.kitOne X.K (.ref Dc) (.ref CB) = some b ∧ D.rt (.bl b) H) (Wout := fun _ _ _ _ => False)
      rfl rfl nd rfl h4 ⟨hgl, d1, .inl m1⟩ takes0 (fun W pn xe tk _ => ?_) (fun a oe cls d pn hz hf => ?_)) (pss_one (ps_ret pe_bl)), ?_⟩
  · refine pss_one ⟨fun pins s' σ H' D I h' => ?_⟩
    obtain ⟨Ech, hW, k1, k2, k3⟩ := h'
    have hp := act W pn xe Ech p1 p2 tk hW
    exact (ps_expr (pos := p3) hp).run pins s' σ H' D I ⟨k1, k2, k3⟩
  · refine pss_one ⟨fun pins s' σ H' D I h' => ?_⟩
    obtain ⟨k1, rfl, Dc, b, rfl, ec, ek, k2⟩ := h'
    have hl : 1 < σ.length := by rw [I.len]; show 1 < 2; decide
    have he := ps_ret (pos := p9) (pe_callB (X := (((cxOf C8.CX0 X.prog X.w X.K X.mg X.base ["call", "e"] x sg g cdg X.A X.stack s H C8.E0).nox).suite a ((a, oe) :: pn))) (id := "isinstance") (x := "isinstance") (p := p5) (pos := p8) (e := .Name "e" p6) (es := [.Name bn p7]) (call_isE (a := a) (D := Dc) (oe := oe) (pn := pn) ec hz hf) h2 m2 rfl
      (pa_cons (pe_var (i := 1) (x := "e") rfl (Or.inl h4)) (pa_cons (pe_glob (v := V.ref CB) h3 m3 rfl d3) pa_nil)) (by decide +kernel) (by decide +kernel) rfl rfl)
    exact he.run pins s' σ H' D I ⟨.ref a, k1 hl, .ref CB, .ref CB, b, rfl, fun u hu => hu, ek, k2⟩
  · exact ⟨fun cls d H' => d = none ∧ ∃ Dc b, cls = .ref Dc ∧ ExcC X.K Dc ∧ PySem.W.exmOne X.K cls (.ref CS) = some true ∧ PySem.W.kitOne X.K (.ref Dc) (.ref CB) = some b ∧ Q (.bl b) H',
      fun cls d σ' H' ⟨e1, Dc, b, e2, e3, e4, e5, e6⟩ => ⟨true, e4, fun _ a _ => ⟨fun hl => List.getElem?_set_self (by simpa using hl), e1, Dc, b, e2, e3, e5, e6⟩, fun z => by cases z⟩, rfl, hc, h⟩
/-- what the call tells: False where nothing was raised, else whether it is of that class -/
def eRaised (tb : Str → Option Bool) (fb : Sm Ev) : Sm Ev := fun ρ M => match fb ρ M with
  | .ok _ M1 => .ok (.d (.bl false)) M1
  | .exc c none M1 => match tb c with
    | some b => .ok (.d (.bl b)) M1
    | none => .stuck
  | _ => .stuck
theorem de_raised {x pe bn : Str} {st : Stmt} {g CS CB c P : Addr} {fd : FuncData} {k j : Nat} {params : Arguments} {body : Expr} {scope : Scope} {fb : Sm Ev} {tb : Str → Option Bool} {p lpos pos p1 p2 p3 p4 p5 p6 p7 p8 p9 p10 p11 p12 p13 : Pos} (Fr : FunD X.K x x (defArgs st) (defBody st) (defScope st) [] [] g fd) (hm : X.mg x = some (.ref g)) (hb : Binds X.K fd ["call"] [])
    (hbody : defBody st = [.Try [.Expr (.Call (.Name "call" p1) [] [] p2) p3] [.ExceptHandler (some (.Name pe p4)) (some "e") [.Return (some (.Call (.Name "isinstance" p5) [.Name "e" p6, .Name bn p7] [] p8)) p9] p10] [] [] p11, .Return (some (.Constant (.bool false) j p12)) p13])
    (Sg : FnScope ["call", "e"] ["call"] (defScope st)) (h1 : (defScope st).names.lookup pe = some .globalImplicit) (m1 : X.mg pe = some (.ref CS)) (h2 : (defScope st).names.lookup ("isinstance" : Str) = some .globalImplicit) (m2 : X.mg "isinstance" = none) (h3 : (defScope st).names.lookup bn = some .globalImplicit) (m3 : X.mg bn = some (.ref CB))
    (h4 : (defScope st).names.lookup ("e" : Str) = some .local) (h5 : (defScope st).names.lookup ("call" : Str) = some .local) (hx : ∀ c b, tb c = some b → ∃ Dc, X.mg c = some (.ref Dc) ∧ ExcC X.K Dc ∧ PySem.W.exmOne X.K (.ref Dc) (.ref CS) = some true ∧ PySem.W.kitOne X.K (.ref Dc) (.ref CB) = some b)
    (TB : LamX.TabB X.base X.mg c P) (hcode : X.env.code = .ref c) (hT : T = [(P, X.env.qual ++ "<lambda>")]) (hr : Room (k + 2) X.A) (hg : Gl X x)
    (hlam : ∀ (A : Around) (outer : List PySem.Env) (s : Shared) (H : Hp) (E : XK) (f c' : Addr), Room k (A.deeper (LamX.lamEnv X scope s.heap.objs.size f c')) → PE (LamX.lamCx X A outer s H E scope f c') body (tE (cf (LamX.lamCx X A outer s H E scope f c') T (wE E)) fb))
    (L : LamX.LamS X.env.scope scope) (hdef : defaultsOf params X.env = ([], []) := by rfl) (hbind : ∀ (q : Str) (cl : List (Str × Addr)) (pm cv ctv : Value), bindArgs (PySem.W.kla_fn "<lambda>" q params body scope cl pm cv ctv) ⟨[], []⟩ = pure [] := by intros; rfl)
    (d1 : (pe == ("__debug__" : Str)) = false := by decide) (d3 : (bn == ("__debug__" : Str)) = false := by decide) (hdb : (x == ("__debug__" : Str)) = false := by decide) :
    PE X (.Call (.Name x p) [.Lambda params body scope lpos] [] pos) (tE (cf X T W) (eRaised tb fb)) := by
  obtain ⟨oc, od, dV, kV, doc, pm, an, cdv, ct, osl, rfl, lk, hcd, hD, _⟩ := Fr.ex
  rcases hD with ⟨_, rfl⟩ | ⟨e, _⟩
  · refine ⟨fun pins s σ H Q I q => (LamX.pe_lamcall (T := T) (TT := TTr X.K CS CB) (a := "call") (Ng := ["call", "e"]) (k := k) (t := fun E => tE ⟨X.K, X.mg, T, wE E⟩ fb) hg hm Fr.kp lk hcd hb Sg rfl (Or.inl h5) (by rw [hbody]; exact raised_gives h1 m1 d1 h2 m2 h3 m3 d3 h4) TB hcode (by rw [hT]; exact List.mem_cons_self) (fun r hr _ => by
        rw [hT] at hr; rw [List.mem_singleton.mp hr]) hr L hdef hbind hlam hdb (by decide) (by decide)).run pins s σ H Q I ?_⟩
    obtain ⟨H0, A, m, M, ρ, P', F, q⟩ := q
    refine ⟨F.tb, fun H1 en t1 => ?_⟩
    have s1 : Stp m H H1 := fun a o e _ t => en a o e t
    have F1 : FR ⟨X.K, X.mg, T, W⟩ H0 A m M H1 ρ σ P' := F.step s1 (F.wr.step en) t1
    refine ⟨H0, A, m, M, ρ, P', F1.wish rfl rfl, ?_⟩
    unfold eRaised at q
    cases e : fb ρ M with
    | stuck => rw [e] at q; exact q.elim
    | ok x M1 =>
      rw [e] at q
      exact fun H' v s w t r => q H' (.bl false) (s1.trans s) w t rfl
    | exc c' g' M1 =>
      rw [e] at q
      cases g' with
      | some _ => exact q.elim
      | none =>
        cases e2 : tb c' with
        | none =>
          have q' : PX (cf X T W) m σ (relE X.K H0 A m) H (match tb c' with | some b => .ok (.d (.bl b)) M1 | none => .stuck) Q := q
          rw [e2] at q'; exact q'.elim
        | some b =>
          have q' : PX (cf X T W) m σ (relE X.K H0 A m) H (match tb c' with | some b => .ok (.d (.bl b)) M1 | none => .stuck) Q := q
          rw [e2] at q'
          intro H' cls d s w t hxr
          obtain ⟨C', hC, rfl, hd⟩ := hxr
          obtain ⟨Dc, g1, g2, g3, g4⟩ := hx c' b e2
          have g1' : X.mg c' = some (.ref C') := hC
          rw [g1] at g1'; cases g1'
          exact ⟨hd, _, b, rfl, g2, g3, g4, q' H' (.bl b) (s1.trans s) w t rfl⟩
  · exact absurd rfl e
end
end DL

set_option Elab.async false
set_option linter.all false
set_option maxRecDepth 100000
set_option maxHeartbeats 2000000
/-! The data layer: the law's own def, its first statement. -/
namespace DL
open PySem PySem.Spec PyProof.Rows L2
section
variable {P : Program} {w : World} {K : PySem.W.Frag} {mg : Str → Option Value} {base : Heap} {T : List (Addr × Str)}
theorem dn_ofD {x : Str} {params : Arguments} {body : List Stmt} {scope : Scope} {f : Addr} {fd : FuncData} {N ps : List Str} {k : Nat} {g : Ss} (F : FunD K x x params body scope [] [] f fd) (hx : mg x = some (.ref f)) (hb : Binds K fd ps []) (S : FnScope N ps scope)
    (hbody : ∀ (cdv : Value) (A : Around) (outer : List PySem.Env) (s : Shared) (H : Hp) (E : XK), Room k (A.deeper (envOfC x scope s.heap.objs.size f cdv)) →
      PSs (cxOf (L2.CX P w) P w K mg base N x scope f cdv A outer s H E) body (tS ⟨K, mg, T, wE E⟩ g)) : Dn P w K mg base T (k + 1) x ps.length (fnOf N.length g) :=
  ⟨f, fd, ps, rfl, F.ok S (fun vs H Q E h => h.1) (fun cdv A outer s H vs Q E hr h => ⟨_, hbody cdv A outer s H E hr, fn_start (C := ⟨K, mg, T, wE E⟩) rfl h⟩), hx, F.kp, hb⟩
theorem dn_zeroD {x : Str} {params : Arguments} {body : List Stmt} {scope : Scope} {f : Addr} {fd : FuncData} {ps : List Str} {k : Nat} (F : FunD K x x params body scope [] [] f fd) (hx : mg x = some (.ref f)) (hb : Binds K fd ps []) : Dn P w K mg base T k x ps.length (fun _ _ => .stuck) :=
  ⟨f, fd, ps, rfl, ⟨fun vs H Q E h => h.1, fun A outer s H args us vs Q E hr he hbb hv h => by obtain ⟨_, _, _, _, _, _, _, _, _, _, q⟩ := h; exact q.elim⟩, hx, F.kp, hb⟩
/-- a def whose code object is told -/
theorem fnOk_code {CX : CXT} {x : Str} {params : Arguments} {body : List Stmt} {scope : Scope} {f c : Addr} {fd : FuncData} {N ps : List Str} {k : Nat} {sp : Sp} (F : FunD K x x params body scope [] [] f fd) (hc : fd.code = .ref c) (S : FnScope N ps scope) (len : ∀ vs H Q E, sp vs H Q E → vs.length = ps.length)
    (hbody : ∀ (A : Around) (outer : List PySem.Env) (s : Shared) (H : Hp) (vs : List V) (Q : VK) (E : XK), Room k (A.deeper (envOfC x scope s.heap.objs.size f (.ref c))) → sp vs H Q E →
      ∃ t, PSs (cxOf CX P w K mg base N x scope f (.ref c) A outer s H E) body t ∧ t { nx := fun _ H' => Q .non H', rt := Q } (L2.start N vs) H) : FnOk P w K mg base CX (k + 1) f fd ps sp := by
  obtain ⟨oc, od, dV, kV, doc, pm, an, cdv, ct, osl, rfl, lk, hcd, _, _⟩ := F.ex
  have e : cdv = .ref c := hc
  subst e
  exact fn_of lk hcd S len hbody
end
theorem bare_ints : ∀ ns : List Int, D.bareL (ns.map D.int) = true
  | [] => rfl
  | _ :: ns => bare_ints ns
/-- what the law is asked -/
def spLaw (K : PySem.W.Frag) (Pt : Addr) : Sp := fun vs H Q _ => ∃ (a : Addr) (ns : List Int), vs = [.ref a] ∧ SqL K H a (ns.map V.int) ∧ ns.length ≤ 63 ∧ (∀ z ∈ ns, Builtin.Int.intBits z ≤ 1048576) ∧ H Pt = some (.tbl #[]) ∧ ∀ H', Q (.bl true) H'
/-- the first statement lays the hand: from there on it stands in the common memory -/
theorem law_run {C : Cf} {n : Nat} {fh : Sm Ev} {rest : Ss} {a Pt : Addr} {q : Str} {H : Hp} {ns cells : List Int} {k : Int} {Dn : Ends} (hT : C.T = [(Pt, q)]) (hP : H Pt = some (.tbl #[])) (hS : SqL C.K H a (ns.map V.int))
    (h1 : ∀ d, (d = .sc ns ∨ d = .lst (ns.map D.int)) → fh (some (.d d) :: List.replicate (n + 1) none) [] = .ok (.d (.lst [.lst (cells.map D.int), .int 0, .int 0, .int k, .int 0])) [])
    (h2 : ∃ M', rest (none :: some (.d (.ob 0)) :: List.replicate n none) [.lst [.ob 1, .int 0, .int 0, .int k, .int 0], .lst (cells.map D.int)] = .rt (.bl true) M') (hD : ∀ H', Dn.rt (.bl true) H') :
    tSeq (tAsg (tE C fh) (gName 1)) (tS C rest) Dn (some (.ref a) :: List.replicate (n + 1) none) H := by
  have tab : LamX.Tabs C.T H := fun p hp => by
    rw [hT] at hp
    rw [List.mem_singleton.mp hp]
    exact LamX.TabS.nil hP
  have pad : ∀ k, ER C.K H [] [] H (List.replicate k none) (List.replicate k none) [] := by
    intro k
    induction k with
    | zero => exact ⟨rfl, rfl⟩
    | succ k ih => exact ⟨none, List.replicate k none, rfl, ih⟩
  have go : ∀ d, (d = .sc ns ∨ d = .lst (ns.map D.int)) → Rp C.K [] [] H d (.ref a) → tSeq (tAsg (tE C fh) (gName 1)) (tS C rest) Dn (some (.ref a) :: List.replicate (n + 1) none) H := by
    intro d hd r
    have F : FR C H [] [] [] H (some (.d d) :: List.replicate (n + 1) none) (some (.ref a) :: List.replicate (n + 1) none) [] :=
      ⟨⟨rfl, List.nodup_nil, fun n a o h => by simp at h⟩, tab, ⟨_, _, [], [], rfl, rfl, ⟨rfl, r⟩, pad _⟩, List.nodup_nil, fun a h => (nomatch h), fun a h => (nomatch h), fun a h => (nomatch h), Stp.refl _ _⟩
    refine ⟨H, [], [], [], _, [], F, ?_⟩
    rw [h1 d hd]
    intro H' v s w t r
    obtain ⟨p, vs, rfl, hp, _, v0, r0, rfl, hc, rs⟩ := r
    obtain ⟨c, ws, rfl, hc, _, rc⟩ := hc
    have rs' : Rps C.K [p, c] [p, c] H' [.int 0, .int 0, .int k, .int 0] r0 := Rps.bare _ _ rfl (by
      obtain ⟨v1, r1, rfl, e1, v2, r2, rfl, e2, v3, r3, rfl, e3, v4, r4, rfl, e4, rfl⟩ := rs
      exact ⟨v1, _, rfl, e1, v2, _, rfl, e2, v3, _, rfl, e3, v4, _, rfl, e4, rfl⟩ : Rps C.K [] [p, c] H' [.int 0, .int 0, .int k, .int 0] r0)
    have hne : p ≠ c := fun z => by
      subst z
      rw [hp] at hc
      have e := Rps.ints rc
      rw [e] at hc
      cases cells with
      | nil => cases hc
      | cons x xs => cases hc
    have hw : WR C.K [p, c] [.lst [.ob 1, .int 0, .int 0, .int k, .int 0], .lst (cells.map D.int)] H' := by
      refine ⟨rfl, by simp [hne], fun i b o e1 e2 => ?_⟩
      match i, e1, e2 with
      | 0, e1, e2 =>
        simp at e1 e2
        subst e1; subst e2
        exact ⟨_, hp, rfl, _, _, rfl, ⟨c, rfl, rfl⟩, rs'⟩
      | 1, e1, e2 =>
        simp at e1 e2
        subst e1; subst e2
        refine ⟨_, hc, ?_, ?_⟩
        · exact bare_ints cells
        · rw [Rps.ints rc]; exact Rps.of_ints _
    have F2 : FR C H' [p, c] [p, c] [.lst [.ob 1, .int 0, .int 0, .int k, .int 0], .lst (cells.map D.int)] H' (none :: some (.d (.ob 0)) :: List.replicate n none) ((some (.ref a) :: List.replicate (n + 1) none).set 1 (some (.ref p))) [] := by
      refine ⟨hw, t, ⟨_, _, rfl, ?_⟩, List.nodup_nil, fun a h => (nomatch h), fun a h => h, fun b hb => ?_, Stp.refl _ _⟩
      · have pad' : ∀ k, ER C.K H' [p, c] [p, c] H' (List.replicate k none) (List.replicate k none) [] := by
          intro k
          induction k with
          | zero => exact ⟨rfl, rfl⟩
          | succ k ih => exact ⟨none, List.replicate k none, rfl, ih⟩
        exact ⟨_, _, [], [], rfl, rfl, ⟨rfl, p, rfl, rfl⟩, pad' n⟩
      · rcases List.mem_cons.mp hb with z | z
        · rw [z]; exact ⟨_, hp, trivial⟩
        · rw [List.mem_singleton.mp z]; exact ⟨_, hc, trivial⟩
    refine ⟨H', [p, c], [p, c], _, _, [], F2, ?_⟩
    obtain ⟨M', e⟩ := h2
    rw [e]
    intro H2 v2 _ _ _ rv
    have := rv [] (fun a h => nomatch h)
    rw [show v2 = V.bl true from this]
    exact hD H2
  rcases hS with (h | ⟨o, h⟩) | h
  · exact go (.lst (ns.map D.int)) (.inr rfl) ⟨a, _, rfl, h, by simp, Rps.of_ints ns⟩
  · exact go (.sc ns) (.inl rfl) ⟨a, rfl, .inl ⟨o, h⟩⟩
  · exact go (.sc ns) (.inl rfl) ⟨a, rfl, .inr h⟩
end DL

set_option Elab.async false
set_option linter.all false
set_option maxRecDepth 100000
set_option maxHeartbeats 4000000
/-! The data layer: built-ins over tuples that the library's rules leave out. -/
namespace TpX
open PySem PyProof.Rows Srt SrtO
section
variable {prog : Program} {w : World} {A : Around} {E : Value → Shared → Prop} {s : Shared}
/-- the items of a tuple, collected -/
theorem collect_tup {tp : Addr} {its : List Value} {Q : List Value → Shared → Prop} (ht : IsTup s.heap tp its.toArray) (hz : its.length ≤ sizeLine)
    (hQ : Q its { s with heap := (s.heap.push (seqObj "list" #[] 0)).update s.heap.objs.size (Obj.mapSeq (· ++ its.toArray)) }) : wpAny (model prog w) A (collect (.ref tp)) Q E s := by
  obtain ⟨ot, h1, h2, nt, h3⟩ := id ht
  unfold collect; refine wpAny_bind (wpAny_runValue (codeAny_builtin entry_proto_collect' ?_))
  show wpAny (model prog w) _ (do again (.builtin "list.__iadd__" ⟨[← newList [], .ref tp], []⟩)) _ _ s
  refine wpAny_bind (wpAny_newList (wpAny_pure (And.intro (Code.quiet_builtin _ (by decide +kernel)) (codeAny_builtin entry_list_iadd' ?_))))
  show wpAny (model prog w) _ (Builtin.List.listExtendWith (.ref s.heap.objs.size) (.ref tp) (.ref s.heap.objs.size)) _ _ { s with heap := s.heap.push (seqObj "list" #[] 0) }
  have g1 : (s.heap.push (seqObj "list" #[] 0)).get? tp = some ot := Heap.get?_push_of_some _ h1
  unfold Builtin.List.listExtendWith; refine wpAny_bind (wpAny_typeOf (T := "tuple") ⟨ot, g1, h2⟩ ?_)
  rw [if_pos (by rw [show (Value.type "tuple" == Value.type "tuple") = true by rfl, Bool.or_true])]
  refine wpAny_bind (listItems_at g1 h3 (wpAny_bind (listItems_at (xs := #[]) (n := 0) (Heap.get?_push_size _ rfl) rfl ?_)))
  rw [if_neg (by simp)]
  refine wpAny_bind (listUpdate_at (xs := #[]) (n := 0) (Heap.get?_push_size _ rfl) rfl (wpAny_pure ?_) (Nat.zero_le _) (by show (#[] ++ its.toArray).size ≤ sizeLine + 1; rw [Array.size_append, List.size_toArray]; simp only [List.size_toArray, List.length_nil]; omega))
  show wpAny (model prog w) _ (do
      let ol ← load s.heap.objs.size
      match ol.data with
      | .seq zs _ => pure zs.toList
      | _ => unsupported "internal:collect") Q E { s with heap := (s.heap.push (seqObj "list" #[] 0)).update s.heap.objs.size (Obj.mapSeq (· ++ its.toArray)) }
  refine wpAny_bind (wpAny_load (get?_update_seq (Heap.get?_push_size _ rfl) _) ?_)
  show wpAny (model prog w) _ (pure ((#[] : Array Value) ++ its.toArray).toList) Q E _
  rw [show ((#[] : Array Value) ++ its.toArray).toList = its by simp]
  exact wpAny_pure hQ
/-- sorted of a tuple -/
theorem sorted_tup {tp : Addr} {its : List Value} {lt : Value → Value → Bool} {Q : Value → Shared → Prop} (O : Swo lt) (ht : IsTup s.heap tp its.toArray) (hz : its.length ≤ sizeLine)
    (hS : 2 ≤ its.length → ∀ (hh : Heap) (a : Addr), hh.get? a = some (seqObj "list" its.toArray 0) → (∀ b o, s.heap.get? b = some o → b ≠ a ∧ hh.get? b = some o) → SortableO prog w A.in1.in1 { s with heap := hh } a its lt)
    (hQ : ∀ out : List Value, Srtd lt out → Stb lt out its → Q (.ref (s.heap.objs.size + 1)) { s with heap := sortedAll s.heap its out.toArray }) : wpAny (model prog w) A (call (.builtin "sorted") [.ref tp]) Q E s := by
  refine Calls.call_function_entry kind_sorted plain_sorted entry_sorted (args_sorted1 (.ref tp)) ?_
  unfold Builtin.«sorted»; refine wpAny_bind (m := checkCount "sorted" 1 1 _) (wpAny_pure ?_)
  refine wpAny_bind (collect_tup ht hz (wpAny_bind (wpAny_newList ?_ hz)))
  have e1 : ((s.heap.push (seqObj "list" #[] 0)).update s.heap.objs.size (Obj.mapSeq (· ++ its.toArray))).objs.size = s.heap.objs.size + 1 := by rw [Heap.size_update, size_push']
  have e2 : (((s.heap.push (seqObj "list" #[] 0)).update s.heap.objs.size (Obj.mapSeq (· ++ its.toArray))).push (seqObj "list" its.toArray 0)).get? (s.heap.objs.size + 1) = some (seqObj "list" its.toArray 0) := by rw [← e1]; exact Heap.get?_push_size _ rfl
  have e3 : ∀ b o, s.heap.get? b = some o → b ≠ s.heap.objs.size + 1 ∧ (((s.heap.push (seqObj "list" #[] 0)).update s.heap.objs.size (Obj.mapSeq (· ++ its.toArray))).push (seqObj "list" its.toArray 0)).get? b = some o := fun b o q => by
    have lt1 : b < s.heap.objs.size := Heap.lt_size q
    exact ⟨Nat.ne_of_lt (Nat.lt_succ_of_lt lt1), Heap.get?_push_of_some _ (by rw [Heap.get?_update_ne _ _ _ _ (Nat.ne_of_lt lt1)]; exact Heap.get?_push_of_some _ q)⟩
  show wpAny (model prog w) _ _ _ _ { s with heap := ((s.heap.push (seqObj "list" #[] 0)).update s.heap.objs.size (Obj.mapSeq (· ++ its.toArray))).push (seqObj "list" its.toArray 0) }
  rw [e1]
  refine wpAny_bind (wpAny_holding (wpAny_call_entry slot_list_sort ⟨_, e2, rfl⟩ entry_list_sort (list_sort_ord O e2 hz (fun h2 => hS h2 _ _ e2 e3) fun out o1 o2 => ⟨_, rfl, wpAny_pure ⟨_, rfl, hQ out o1 o2⟩⟩) (args_list_sort _)))
/-- a tuple once, the empty one any number of times -/
theorem tuple_mul1 (l : Addr) (items : Array Value) (n : Nat) (dd : Option Addr) (sl : Array (Option Value)) (x : Int) (u : Tok) (c0 : (decide (x < -(2 ^ 63)) || decide (x ≥ 2 ^ 63)) = false) (c1 : (items.isEmpty || x == 1) = true) :
    Meets (Builtin.«tuple.__mul__» ⟨[.ref l, .int x u], []⟩) (fun _ R s => s.heap.get? l = some { cls := .type "tuple", dict := dd, data := .seq items n, slots := sl } ∧ R (.ok (.ret (Value.ref l))) s) :=
  .of_wp fun prog w A R s h => by
    obtain ⟨hp, g, d, tk, os⟩ := s
    obtain ⟨hl, h⟩ := h
    have fi := AutoSeq1.idx_int
    wp_walk using AutoSeq1.wpAny_loadPart' hl
    refine wpAny_ite_false (decide_eq_false (by rw [c0]; exact Bool.false_ne_true)) ?_; wp_walk using AutoSeq1.wpAny_loadPart' hl
    exact ⟨_, rfl, h⟩
/-- enumerate(v): its two new cells, v told by what its iterator begins with -/
theorem enum_new1 {v : Value} {o : Obj} {G : Heap → Prop} (B : Begins v o G) :
    Meets (Builtin.«enumerate.__new__» ⟨[.type "enumerate", v], []⟩) (fun _ R s => G s.heap ∧ R (.ok (.ret (.ref (s.heap.push o).objs.size))) { s with heap := (s.heap.push o).push { cls := .type "enumerate", data := .fields #[.none, .bool false, .ref s.heap.objs.size, rawInt 0, .none, .none] } }) :=
  .of_wp fun prog w A R s h => by
    obtain ⟨hp, g, d, tk, os⟩ := s
    obtain ⟨hG, h⟩ := h
    have sb := sub_enumerate
    have go : ∀ {A' : Around} {E : Value → Shared → Prop} {Q : Value → Shared → Prop}, Q (.ref hp.objs.size) ⟨hp.push o, g, d, tk, os⟩ → wpAny (model prog w) A' (pyIter v) Q E ⟨hp, g, d, tk, os⟩ := fun q => B.iter prog w _ _ ⟨hp, g, d, tk, os⟩ _ hG q
    wp_walk using go
    refine wpAny_stack_any fun st => wpAny_pure ?_
    split
    · rename_i c _ _ _ _ _
      cases (c == Value.type "enumerate") <;> (wp_walk using go; exact ⟨_, rfl, h⟩)
    · wp_walk using go; exact ⟨_, rfl, h⟩
theorem call_enum1 {v : Value} {o : Obj} {G : Heap → Prop} {Q : Value → Shared → Prop} (B : Begins v o G) (hG : G s.heap)
    (hQ : ∀ h', IsEnum h' (s.heap.objs.size + 1) s.heap.objs.size 0 .none → h'.get? s.heap.objs.size = some o → (∀ b o, s.heap.get? b = some o → h'.get? b = some o) → Q (.ref (s.heap.objs.size + 1)) { s with heap := h' }) : wpAny (model prog w) A (call (.type "enumerate") [v]) Q E s := by
  refine callType_new F.called_enumerate (by decide) (F.typeCall_enumerate_1 v) (F.newCall_enumerate_1 v) (fun obj => F.args_object_init_2 obj v) F.entry_enumerate_new (enum_new1 B) ⟨hG, ?_⟩
  have hz : (s.heap.push o).objs.size = s.heap.objs.size + 1 := Heap.size_push ..
  show _ ∧ _
  rw [hz]
  have he : IsEnum ((s.heap.push o).push { cls := .type "enumerate", data := .fields #[.none, .bool false, .ref s.heap.objs.size, rawInt 0, .none, .none] }) (s.heap.objs.size + 1) s.heap.objs.size 0 .none := by
    have e := Heap.get?_push_size (s.heap.push o) (o := { cls := .type "enumerate", data := .fields #[.none, .bool false, .ref s.heap.objs.size, rawInt 0, .none, .none] }) rfl
    rw [hz] at e; exact e
  exact ⟨⟨_, he, rfl⟩, hQ _ he (Heap.get?_push_of_some _ (Heap.get?_push_size _ B.free)) fun b o x => Heap.get?_push_of_some _ (Heap.get?_push_of_some _ x)⟩
end
end TpX
namespace DL
open PySem PySem.Spec PyProof.Rows L2
theorem drawsEnd {prog : Program} {w : World} {A : Around} (hh : A.handled = none) (it t : Addr) (items : Array Value) (n : Nat) (hn : items.size ≤ n) :
    Draws prog w A it [it, t] n (fun _ _ => False) (fun k h => k = n ∧ h.IsTupleIter it t n ∧ h.IsTuple t items) where
  live := fun _ _ st => let ⟨o, ho, _⟩ := st.2.1; ⟨o, ho⟩
  frame := fun _ _ _ st hk => ⟨st.1, st.2.1.at fun o e => hk it (by simp) o e, st.2.2.at fun o e => hk t (by simp) o e⟩
  item := fun i s Q E hi st hQ => by have := st.1; omega
  done := fun s Q E st hE => wpAny_nextOf_tuple_end hh st.2.1 st.2.2 (by simp [hn]) hE
/-- a tuple that is told: the very one -/
theorem tup_is {h : Heap} {a : Addr} {its : Array Value} (p : IsTup h a its) : h.IsTuple a its := p
/-- the tuple at a as it stands at each turn, each item in a new pair -/
def IteT (K : PySem.W.Frag) (a : Addr) : It :=
  ⟨fun i H => ∃ (xs : List V) (x : V), SqT K H a xs ∧ xs[i]? = some x, fun i H v H' => ∃ N x, v = .ref N ∧ H N = none ∧ H' = upd H N (.tup [.int (i : Nat), x]) ∧ ∀ xs, SqT K H a xs → xs[i]? = some x, fun i H => ∃ xs : List V, SqT K H a xs ∧ xs.length ≤ i⟩
theorem turn_enumT {P : Program} {w : World} {K : PySem.W.Frag} {elts : List Expr} {kk : Nat} {tpos : Pos} (a e it : Addr) (hat : a ≠ it) (hae : a ≠ e) :
    Turn P w K (.Tuple elts kk tpos) (IteT K a) [e, it] e (fun i h => (∃ old, IsEnum h e it ((i : Nat) : Int) old) ∧ h.IsTupleIter it a i ∧ e ≠ it) where
  mem := by simp
  obj := fun i h st b hb => by
    obtain ⟨⟨old, he⟩, ⟨o, ho, hc, hd⟩, _⟩ := st
    rcases (show b = e ∨ b = it by simpa using hb) with z | z
    · rw [z]; exact ⟨_, he, fun v q => nomatch q⟩
    · rw [z]; exact ⟨o, ho, fun v q => by rw [hd] at q; cases q⟩
  keep := fun i h h' st k => ⟨st.1.elim fun old he => ⟨old, k e (by simp) _ he⟩, st.2.1.at fun o q => k it (by simp) o q, st.2.2⟩
  item := by
    intro X hP hw hK hc i pins s σ H E I hf st hg
    subst hP hw hK
    obtain ⟨⟨old, he⟩, hit, hne⟩ := st
    obtain ⟨xs, x, hq, hx⟩ := hg
    obtain ⟨its, rv, p, hz⟩ := I.tuple hq
    obtain ⟨u, hu, ru⟩ := rv.get hx
    have e1 : e < s.heap.objs.size := Heap.lt_size he
    have e2 : it < s.heap.objs.size := by obtain ⟨_, q, _⟩ := hit; exact Heap.lt_size q
    have hi : i < its.toArray.size := by rw [List.size_toArray]; exact (List.getElem?_eq_some_iff.mp hu).1
    refine wpAny_pyNext_enum_itemD (Draws.tuple (A := X.A.in1) (I.ok.hd hc) it a hat its.toArray) he ⟨hit, tup_is p⟩ hi hne (by simp [hne, hae.symm]) fun y h' tk hy ho hit' hT hsz hk => ?_
    have ey : y = u := by
      have z : its.toArray[i]? = some u := by simpa using hu
      rw [z] at hy; exact (Option.some.inj hy).symm
    subst ey
    refine ⟨_, rfl, wpAny_letOwnedTupleGo_enum (s := { s with heap := h', toks := tk + 1 }) ho fun h'' he' sb => ?_⟩
    have hT2 : h''.get? s.heap.objs.size = some { cls := .type "tuple", data := .seq #[.int i tk, y] } := (sb.2 _ (Nat.ne_of_gt e1)).trans hT
    have laid : ObjOk X.prog X.w (upd H s.heap.objs.size (.tup [.int (i : Nat), x])) h'' s.heap.objs.size (.tup [.int (i : Nat), x]) := ⟨by show 2 ≤ sizeLine; decide, [.int i tk, y], .cons ⟨_, rfl⟩ (.cons ru .nil), ⟨_, hT2, rfl, _, rfl⟩⟩
    have I1 : Inv X pins σ (upd H s.heap.objs.size (.tup [.int (i : Nat), x])) { s with heap := h'', toks := tk + 1 } :=
      I.turnedNew (ch := [e, it]) (fun b ob hb q => (sb.2 b (fun z => hb (by simp [z]))).trans (hk b ob (fun z => hb (by simp [z])) (fun z => hb (by simp [z])) q)) hf (Nat.le_refl _) laid
    refine ⟨.ref s.heap.objs.size, _, I1, rfl, ⟨_, x, rfl, I.hok.fresh (Nat.le_refl _), rfl, fun ys hy => by rw [I.tuple_inj hy hq]; exact hx⟩, ⟨⟨y, ?_⟩, hit'.1.at fun o q => (sb.2 it (Ne.symm hne)).trans q, hne⟩, fun b hb => ?_⟩
    · rw [show ((i + 1 : Nat) : Int) = (i : Int) + 1 by omega]; exact he'
    · have lb : b < s.heap.objs.size := by
        rcases (show b = e ∨ b = it by simpa using hb) with z | z
        · rw [z]; exact e1
        · rw [z]; exact e2
      rw [upd_ne (Nat.ne_of_lt lb)]; exact (hf b hb).1
  done := by
    intro X hP hw hK hc i pins s σ H E I hf st hg
    subst hP hw hK
    obtain ⟨⟨old, he⟩, hit, hne⟩ := st
    obtain ⟨xs, hq, hx⟩ := hg
    obtain ⟨its, rv, p, hz⟩ := I.tuple hq
    obtain ⟨f0, f1, f2, f3, f4, f5⟩ := hf it (by simp)
    have hl := rv.length
    exact wpAny_pyNext_enum_endD (drawsEnd (A := X.A.in1) (I.ok.hd hc) it a its.toArray i (by rw [List.size_toArray]; omega)) he ⟨rfl, hit, tup_is p⟩ fun h' eb => ⟨rfl, I.turned (t' := s.toks) (fun b o hb q => eb b o hb q) f0 f1 f3 f4 f5⟩
  self := fun A i s Q E st h => st.1.elim fun _ he => wpAny_pyIter_enum he h
end DL

set_option Elab.async false
set_option linter.all false
set_option maxRecDepth 100000
set_option maxHeartbeats 4000000
/-! The data layer: tuples turned about, sorted, told with their places, several times. -/
namespace TpX
open PySem PyProof.Rows
theorem adj_rev (n : Nat) : Builtin.Slice.sliceAdjust none none (-1) (n : Int) = ((n : Int) - 1, -1) := by
  unfold Builtin.Slice.sliceAdjust
  simp
theorem plc_rev (n : Nat) : Builtin.Slice.slicePlaces ((n : Int) - 1) (-1) (-1) = n := by
  unfold Builtin.Slice.slicePlaces
  by_cases h : n = 0
  · subst h; rfl
  · have h2 : (-1 : Int) < (n : Int) - 1 := by omega
    simp [h2]
theorem fm_congr {α β : Type} {f g : α → Option β} : ∀ {l : List α}, (∀ k ∈ l, f k = g k) → l.filterMap f = l.filterMap g
  | [], _ => rfl
  | a :: l, h => by
    rw [List.filterMap_cons, List.filterMap_cons, h a List.mem_cons_self, fm_congr fun k hk => h k (List.mem_cons_of_mem _ hk)]
theorem pick_rev (xs : Array Value) : ((List.range xs.size).filterMap fun (k : Nat) => xs[(((xs.size : Int) - 1) + (k : Int) * (-1)).toNat]?).toArray = xs.toList.reverse.toArray := by
  have e : ∀ k ∈ List.range xs.size, xs[(((xs.size : Int) - 1) + (k : Int) * (-1)).toNat]? = xs.toList.reverse[k]? := by
    intro k hk
    have hk' := List.mem_range.mp hk
    rw [List.getElem?_reverse (by simpa using hk'), Array.getElem?_toList]
    congr 1
    rw [Array.length_toList]
    omega
  have e2 : (List.range xs.size).filterMap (fun (k : Nat) => xs[(((xs.size : Int) - 1) + (k : Int) * (-1)).toNat]?) = (List.range xs.size).filterMap (fun k => xs.toList.reverse[k]?) := fm_congr e
  rw [e2]
  have e3 : ∀ l : List Value, (List.range l.length).filterMap (fun k => l[k]?) = l := by
    intro l
    induction l with
    | nil => rfl
    | cons x r ih =>
      rw [List.length_cons, List.range_succ_eq_map, List.filterMap_cons]
      show x :: _ = _
      rw [List.filterMap_map]
      congr 1
  have e4 := e3 xs.toList.reverse
  rw [List.length_reverse, Array.length_toList] at e4
  rw [e4]
section
variable {prog : Program} {w : World} {A : Around} {E : Value → Shared → Prop} {s : Shared}
theorem applied_rev {sl : Addr} {vl vu vs : Value} {n : Nat} {Q : Int × Int × Nat → Shared → Prop} (hs : s.heap.IsSliceOf sl vl vu vs) (pl : IsPart vl none) (pu : IsPart vu none) (ps : IsPart vs (some (-1)))
    (hQ : Q ((n : Int) - 1, -1, n) s) : wpAny (model prog w) A (Builtin.Slice.sliceApplied (.ref sl) (pure (n : Int))) Q E s := by
  obtain ⟨ob, h1, h2, h3⟩ := id hs
  unfold Builtin.Slice.sliceApplied Builtin.Slice.sliceFields; refine wpAny_bind (wpAny_bind (wpAny_field h1 h3 (x := vl) rfl (wpAny_bind (wpAny_field h1 h3 (x := vu) rfl (wpAny_bind (wpAny_field h1 h3 (x := vs) rfl (wpAny_pure ?_)))))))
  refine wpAny_bind (HT.slicePart_ ps ?_)
  show wpAny (model prog w) A (if ((-1 : Int) == 0) = true then _ else _) _ _ s
  rw [if_neg (by decide)]
  refine wpAny_bind (HT.slicePart_ pl (wpAny_bind (HT.slicePart_ pu (wpAny_bind (wpAny_pure ?_)))))
  show wpAny (model prog w) A (match Builtin.Slice.sliceAdjust none none (-1) (n : Int) with | (l, h) => pure (l, (-1 : Int), Builtin.Slice.slicePlaces l h (-1))) _ _ s
  rw [adj_rev n]
  show wpAny (model prog w) A (pure ((n : Int) - 1, (-1 : Int), Builtin.Slice.slicePlaces ((n : Int) - 1) (-1) (-1))) _ _ s
  rw [plc_rev]
  exact wpAny_pure hQ
theorem getItem_tuple_rev {t sl : Addr} {items : Array Value} {vl vu vs : Value} {Q : Value → Shared → Prop} (ht : IsTup s.heap t items) (hs : s.heap.IsSliceOf sl vl vu vs) (pl : IsPart vl none) (pu : IsPart vu none) (ps : IsPart vs (some (-1)))
    (hQ : Q (.ref s.heap.objs.size) { s with heap := s.heap.push { cls := .type "tuple", data := .seq items.toList.reverse.toArray } }) (hz : items.size ≤ sizeLine) : wpAny (model prog w) A (getItem (.ref t) (.ref sl)) Q E s := by
  have hk : sizeOk (.seq items.toList.reverse.toArray) := by
    show items.toList.reverse.toArray.size ≤ sizeLine
    rw [List.size_toArray, List.length_reverse, Array.length_toList]; exact hz
  obtain ⟨ob, h1, h2, h3⟩ := id hs
  unfold getItem
  try with_reducible refine wpAny_holding ?_
  first | refine wpAny_bind (wpAny_pure ?_) | skip
  refine wpAny_bind (wpAny_sequenceKey ht.typeIs (by decide) (wpAny_bind (wpAny_callSpecial?_slot (name := Str.ofString "__getitem__") ht.typeIs PyProof.Rows.slot_tuple_getitem (wpAny_call_entry PyProof.Rows.slot_tuple_getitem ht.typeIs entry_tuple_getitem ?_ (args_tuple_getitem _ _)))))
  show wpAny (model prog w) _ (Builtin.Tuple.tupleItemsOf (.ref t) >>= _) _ _ s
  refine wpAny_bind (tupleItemsOf_ ht (wpAny_bind (wpAny_typeOf (T := "slice") ⟨ob, h1, h2⟩ ?_)))
  rw [if_pos (by decide)]
  refine wpAny_bind (applied_rev hs pl pu ps ?_)
  show wpAny (model prog w) _ (if (((items.size : Int) - 1) == 0 && (-1 : Int) == 1 && items.size == items.size) = true then _ else _) _ _ s
  rw [if_neg (by simp), pick_rev]
  first
    | exact wpAny_bind (m := Builtin.Tuple.tupleExact _) (wpAny_newObj_type (wpAny_pure ⟨_, rfl, wpAny_pure hQ⟩) hk)
    | exact wpAny_bind (m := Builtin.Tuple.tupleExact _) (wpAny_newObj_type (wpAny_bind (wpAny_pure (wpAny_pure ⟨_, rfl, wpAny_pure hQ⟩))) hk)
    | exact wpAny_bind (wpAny_bind (m := Builtin.Tuple.tupleExact _) (wpAny_newObj_type (wpAny_pure (wpAny_pure ⟨_, rfl, wpAny_pure hQ⟩)) hk))
    | exact wpAny_bind (wpAny_bind (m := Builtin.Tuple.tupleExact _) (wpAny_newObj_type (wpAny_pure ⟨_, rfl, wpAny_pure hQ⟩) hk))
end
end TpX
namespace L2
open PySem PySem.Spec PyProof.Rows
section
variable {X : Cx} {e : Expr} {te : TE}
/-- t[::-1] -/
def tRevT (K : PySem.W.Frag) (te : TE) : TE := fun σ H Q => te σ H fun x H1 => ∃ a xs, x = .ref a ∧ ((SqL K H1 a xs ∧ ∀ p, H1 p = none → Q (.ref p) (upd H1 p (.lst xs.reverse))) ∨ (SqT K H1 a xs ∧ ∀ p, H1 p = none → Q (.ref p) (upd H1 p (.tup xs.reverse))))
theorem pe_revA {k : Nat} {p1 p2 p3 pos : Pos} (he : PE X e te) : PE X (.Subscript e (.Slice none none (some (.UnaryOp .USub (.Constant (.int 1) k p1) p2)) p3) pos) (tRevT X.K te) := by
  refine ⟨fun pins s σ H Q I h => Subscript_ (thn (he.run pins s σ H _ I h) fun v s1 ⟨x, H1, I1, r1, q1⟩ => ?_)⟩
  obtain ⟨a, xs, rfl, q⟩ := q1
  cases r1
  have hst : PO X (some (.UnaryOp .USub (.Constant (.int 1) k p1) p2)) (tPart (tUn (rU fun i => .int (-i)) (tC (.int 1)))) := po_some (pe_un un_neg pe_int)
  refine wpAny_Slice (thn (po_none.run pins s1 σ H1 (fun o H2 => o = none ∧ H2 = H1) I1 ⟨rfl, rfl⟩) fun vl s2 ⟨l, H2, I2, pl, g1, g2⟩ => ?_)
  subst g1 g2
  refine thn (po_none.run pins s2 σ H2 (fun o H3 => o = none ∧ H3 = H2) I2 ⟨rfl, rfl⟩) fun vu s3 ⟨u, H3, I3, pu, g3, g4⟩ => ?_
  subst g3 g4
  refine thn (hst.run pins s3 σ H3 (fun o H4 => o = some (-1) ∧ H4 = H3) I3 ⟨1, rfl, -1, rfl, rfl, rfl⟩) fun vs s4 ⟨o, H4, I4, ps, g5, g6⟩ => ?_
  subst g5 g6
  have I5 : Inv X pins σ H4 { s4 with heap := s4.heap.push { cls := .type "slice", data := .fields #[vl, vu, vs] } } := I4.kept (t' := s4.toks) fun b ob z => Heap.get?_push_of_some _ z
  show wpAny (model X.prog X.w) X.A (subscriptTail e (.Slice none none (some (.UnaryOp .USub (.Constant (.int 1) k p1) p2)) p3) (.ref a) (.ref s4.heap.objs.size)) (EP X pins σ Q) X.xe { s4 with heap := s4.heap.push { cls := .type "slice", data := .fields #[vl, vu, vs] } }
  rcases q with ⟨hx, q⟩ | ⟨hx, q⟩
  · obtain ⟨its, r, ht, hz⟩ := I5.list hx
    have hlen := r.length
    refine tail_any (ops := [.ref a, .ref s4.heap.objs.size]) ht.isList.typeIs (PySem.slot_list_getitem.lookup) (wpAny_getItem_list_slice ht.isList (Heap.IsSliceOf.new _ vl vu vs) pl pu ps (by decide) ?_ (by rw [List.size_toArray]; omega)) (by with_unfolding_all rfl)
    rw [PySem.W.krv_pick]
    exact ⟨.ref _, _, I5.laid (t' := s4.toks) (o := .lst xs.reverse) (fun b ob z => Heap.get?_push_of_some _ z) (Nat.le_refl _) ⟨by rw [List.length_reverse]; exact hz, _, 0, r.reverse, Heap.get?_push_size _ rfl⟩, rfl, q _ (I5.hok.fresh (Nat.le_refl _))⟩
  · obtain ⟨its, r, ht, hz⟩ := I5.tuple hx
    have hlen := r.length
    refine tail_any (ops := [.ref a, .ref s4.heap.objs.size]) ht.typeIs (PyProof.Rows.slot_tuple_getitem.lookup) (TpX.getItem_tuple_rev ht (Heap.IsSliceOf.new _ vl vu vs) pl pu ps ?_ (by rw [List.size_toArray]; omega)) (by with_unfolding_all rfl)
    exact ⟨.ref _, _, I5.laid (t' := s4.toks) (o := .tup xs.reverse) (fun b ob z => Heap.get?_push_of_some _ z) (Nat.le_refl _) ⟨by rw [List.length_reverse]; exact hz, _, r.reverse, IsTup.new _ _⟩, rfl, q _ (I5.hok.fresh (Nat.le_refl _))⟩
/-- sorted(t), ints -/
def rSortedT (K : PySem.W.Frag) : List V → Hp → VK → Prop := fun vs H Q => ∃ (a : Addr) (ns : List Int), vs = [V.ref a] ∧ SqT K H a (ns.map V.int) ∧ ∀ (ns' : List Int) (p : Addr), ns'.Perm ns → ns'.Pairwise (· ≤ ·) → H p = none → Q (.ref p) (upd H p (.lst (ns'.map V.int)))
theorem cr_sortedT : CallR X (.builtin "sorted") (rSortedT X.K) := by
  intro pins s σ H vs us Q I r h
  obtain ⟨a, ns, rfl, hs, q⟩ := h
  obtain ⟨its, rv, ht, hz⟩ := I.tuple hs
  rw [Vals.ref1 r]
  have hi := rv.ints
  refine TpX.sorted_tup SrtO.swo_int ht (by rw [← rv.length]; exact hz) (fun h2 hh a' _ _ => SrtO.ints_sortable hi h2) fun out o1 o2 => ?_
  obtain ⟨k1, k2, k3⟩ := SrtO.ints_out hi o1 o2
  obtain ⟨ep, he'⟩ := PyProof.Rows.sortedAll_at s.heap its out.toArray
  have hl : ((out.map SrtO.iv).map V.int).length ≤ sizeLine := by
    rw [List.length_map, k2.length_eq]
    simpa using hz
  exact ⟨.ref _, upd H (s.heap.objs.size + 1) (.lst ((out.map SrtO.iv).map V.int)), I.laid (t' := s.toks) (fun _ _ => PyProof.Rows.sortedAll_old) (Nat.le_succ _) ⟨hl, out, ep, vals_of_ints k1, he'⟩, rfl, q _ _ k2 k3 (I.hok.fresh (Nat.le_succ _))⟩
/-- t * 1, () * k: the same tuple -/
def rRep1 (K : PySem.W.Frag) : R2 := fun x y H Q => ∃ l k xs, x = .ref l ∧ y = .int k ∧ SqT K H l xs ∧ (xs = [] ∨ k = 1) ∧ -1000000 ≤ k ∧ k ≤ 1000000 ∧ Q (.ref l) H
theorem op_rep1 : OpR X (binaryOp .Mult) (rRep1 X.K) := by
  intro pins s σ H x y v u Q I rx ry h
  obtain ⟨l, k, xs, rfl, rfl, hT, hc, b1, b2, q⟩ := h
  cases rx
  obtain ⟨t, rfl⟩ := ry
  obtain ⟨its, r, ⟨⟨cls, dd, data, sl⟩, h1, h2, n, h3⟩, hz⟩ := I.tuple hT
  simp only at h2 h3
  subst h2 h3
  have c0 : (decide (k < -(2 ^ 63)) || decide (k ≥ 2 ^ 63)) = false := by rw [decide_eq_false (by omega), decide_eq_false (by omega)] <;> rfl
  have c1 : (its.toArray.isEmpty || k == 1) = true := by
    rcases hc with e | e
    · subst e; cases r; rfl
    · subst e; simp
  exact wpAny_binaryOp_repeat_ref (T := "tuple") (U := "int") (by decide) ⟨_, h1, rfl⟩ (fun s' => typeIs_int s' k t) noFill_tuple_mul F.fills_int_mul F.slot_int_rmul repeat_tuple F.slot_int_index.lookup (call_meets F.slot_int_rmul (typeIs_int s k t) F.entry_int_rmul (F.args_int_rmul_2 _ _) (int_rmul_tuple k t l its.toArray n dd sl)
    ⟨h1, rfl, ⟨_, h1, rfl⟩, call_meets F.slot_tuple_mul ⟨_, h1, rfl⟩ F.entry_tuple_mul (F.args_tuple_mul_2 _ _) (TpX.tuple_mul1 l its.toArray n dd sl k t c0 c1) ⟨h1, ⟨.ref l, H, I, rfl, q⟩⟩⟩)
/-- enumerate(x), a list or a tuple -/
def iEnumA (K : PySem.W.Frag) (ta : TA) : TI := fun σ H R => ta σ H fun vs H1 => ∃ a xs, vs = [.ref a] ∧ ((SqT K H1 a xs ∧ R (DL.IteT K a) H1) ∨ (SqL K H1 a xs ∧ R (Ite K a) H1))
theorem pi_enumA {p pos tpos : Pos} {elts : List Expr} {kk : Nat} {ta : TA} (hg : Gl X "enumerate") (hm : X.mg "enumerate" = none) (ha : PA X [e] ta) (hs : starEach [e] X.env = [(false, eval e X.env)] := by rfl) : PI X (.Tuple elts kk tpos) (.Call (.Name "enumerate" p) [e] [] pos) (iEnumA X.K ta) := by
  refine ⟨fun pins s σ H R I h => Call_ (ld_blt I hg hm boot_enumerate (PyProof.Rows.callWith_type1 (thn (ha.run pos pins s σ H _ I h) fun us s1 ⟨vs, H1, I1, r1, q1⟩ => ?_) hs rfl))⟩
  obtain ⟨a, xs, rfl, q⟩ := q1
  obtain rfl : us = [.ref a] := Vals.ref1 r1
  have fps : ∀ b ∈ [s1.heap.objs.size + 1, s1.heap.objs.size], s1.heap.objs.size ≤ b := fun b hb => by
    rcases (show b = s1.heap.objs.size + 1 ∨ b = s1.heap.objs.size by simpa using hb) with z | z
    · rw [z]; exact Nat.le_add_right _ _
    · rw [z]; exact Nat.le_refl _
  rcases q with ⟨hq, q⟩ | ⟨hq, q⟩
  · obtain ⟨its, rv, pt, hz⟩ := I1.tuple hq
    have la : a < s1.heap.objs.size := by obtain ⟨o, e, _⟩ := pt; exact Heap.lt_size e
    refine TpX.call_enum1 (begins_tuple a its.toArray) (DL.tup_is pt) fun h' he hit hk => wpAny_pyIter_enum he ?_
    have I2 : Inv X pins σ H1 { s1 with heap := h' } := I1.kept (t' := s1.toks) hk
    exact ⟨s1.heap.objs.size + 1, [s1.heap.objs.size + 1, s1.heap.objs.size], _, _, H1, rfl, I2, DL.turn_enumT a (s1.heap.objs.size + 1) s1.heap.objs.size (Nat.ne_of_lt la) (Nat.ne_of_lt (Nat.lt_succ_of_lt la)), ⟨⟨.none, he⟩, ⟨_, hit, rfl, rfl⟩, Nat.succ_ne_self _⟩, fun b hb => I1.fpOk (fps b hb) (I1.hok.fresh (fps b hb)), q⟩
  · obtain ⟨its, rv, pl, hz⟩ := I1.list hq
    refine call_enumerate_list pl.isList fun h' he hit hsz hk => wpAny_pyIter_enum he ?_
    have I2 : Inv X pins σ H1 { s1 with heap := h' } := I1.kept (t' := s1.toks) hk
    exact ⟨s1.heap.objs.size + 1, [s1.heap.objs.size + 1, s1.heap.objs.size], _, _, H1, rfl, I2, turn_enum a (s1.heap.objs.size + 1) s1.heap.objs.size, ⟨⟨.none, he⟩, hit, Nat.succ_ne_self _⟩, fun b hb => I1.fpOk (fps b hb) (I1.hok.fresh (fps b hb)), q⟩
end
end L2

set_option Elab.async false
set_option linter.all false
set_option maxRecDepth 100000
set_option maxHeartbeats 2000000
/-! The data layer: rules over tuples. -/
namespace DL
open PySem PySem.Spec PyProof.Rows L2
section
variable {X : Cx} {T : List (Addr × Str)} {W : WX} {a b c e : Expr} {es : List Expr} {tg : Expr} {pos p : Pos} {f g : Sm Ev} {fs : Sm (List Ev)} {k : Bool}
/-- a * b, tuples too -/
def opMulT (l : List D) (k : Int) (M : Mem) : R Ev := if (l = [] ∨ k = 1) ∧ -1000000 ≤ k ∧ k ≤ 1000000 then .ok (.d (.tup l)) M else if l ≠ [] ∧ 2 ≤ k ∧ k ≤ 1000 ∧ l.length ≤ 1000 then .ok (.d (.tup (List.replicate k.toNat l).flatten)) M else .stuck
instance (l : List D) : Decidable (l = []) := match l with
  | [] => isTrue rfl
  | _ :: _ => isFalse (fun h => nomatch h)
def opMulA (a b : Ev) (M : Mem) : R Ev := match a, b with
  | .d (.tup l), .d (.int k) => opMulT l k M
  | a, b => opMul a b M
theorem ok_mulA {C : Cf} : OpOk C opMulA (fun x y H Q => (rRep1 C.K x y H Q ∨ rRepT C.K x y H Q) ∨ (rI cMul (fun i j => .int (i * j)) x y H Q ∨ rRep x y H Q)) := by
  intro H0 A m M H ρ σ P x y v w Q F rx ry h
  unfold opMulA at h
  split at h
  · rename_i l k
    obtain ⟨a, vs, e, hs, r⟩ := rx
    unfold opMulT at h
    have hn : ∀ {l : List D} {vs : List V}, Rps C.K A m H l vs → (vs = [] ↔ l = []) := fun {l vs} r => by
      have := Rps.len r
      constructor <;> intro z <;> subst z <;> simp at this
      · exact List.eq_nil_of_length_eq_zero this.symm
      · exact this
    split at h
    · rename_i hc
      exact .inl (.inl ⟨a, k, vs, e, ry, SqT.of hs, hc.1.imp (hn r).mpr id, hc.2.1, hc.2.2, h.fin F (by rw [← e]; exact ⟨a, vs, e, hs, r⟩)⟩)
    · split at h
      · rename_i hc
        exact .inl (.inr ⟨a, k, vs, e, ry, SqT.of hs, fun z => hc.1 ((hn r).mp z), hc.2.1, hc.2.2.1, by rw [Rps.len r]; exact hc.2.2.2, fun p hp => h.made F hp (newT (C := C) hp (Rps.rep r _))⟩)
      · exact h.elim
  · exact .inr (ok_mul H0 A m M H ρ σ P _ _ v w Q F rx ry h)
theorem de_mulA (ha : PE X a (tE (cf X T W) f)) (hb : PE X b (tE (cf X T W) g)) : PE X (.BinOp a .Mult b pos) (tE (cf X T W) (eBin opMulA f g)) :=
  ⟨fun pins s σ H Q I q => (pe_op ((op_rep1.or op_repT).or op_mulA) ha hb).run pins s σ H Q I (tE_bin ok_mulA q)⟩
/-- x[::-1] -/
def revD : Ev → Option D
  | .d (.tup l) => some (.tup l.reverse)
  | x => (lstOf x).map fun l => .lst l.reverse
def eRev (f : Sm Ev) : Sm Ev := fun ρ M => bnd (f ρ M) fun x M1 => match revD x with
  | some d => .ok (.d d) M1
  | none => .stuck
theorem de_rev {k : Nat} {p1 p2 p3 : Pos} (he : PE X e (tE (cf X T W) f)) : PE X (.Subscript e (.Slice none none (some (.UnaryOp .USub (.Constant (.int 1) k p1) p2)) p3) pos) (tE (cf X T W) (eRev f)) := by
  refine ⟨fun pins s σ H Q I q => (pe_revA he).run pins s σ H Q I ?_⟩
  obtain ⟨H0, A, m, M, ρ, P, F, q⟩ := q
  refine sub F q fun x M1 H1 v F1 _ r1 q1 => ?_
  split at q1
  · rename_i d hd
    unfold revD at hd
    split at hd
    · rename_i l
      cases hd
      obtain ⟨a, vs, ev, hs, r⟩ := r1
      exact ⟨a, vs, ev, .inr ⟨SqT.of hs, fun p hp => q1.made F1 hp (newT (C := cf X T W) hp (Rps.rev r))⟩⟩
    · cases e : lstOf x with
      | none => rw [e] at hd; cases hd
      | some l =>
        rw [e] at hd; cases hd
        obtain ⟨a, vs, ev, hs, r⟩ := lstOf_at e r1
        exact ⟨a, vs, ev, .inl ⟨SqL.of hs, fun p hp => q1.made F1 hp (newL F1 hp (Rps.rev r))⟩⟩
  · exact q1.elim
/-- sorted, ints -/
theorem srt_uniq : ∀ {a b : List Int}, a.Pairwise (· ≤ ·) → b.Pairwise (· ≤ ·) → a.Perm b → a = b
  | [], b, _, _, h => by have := h.length_eq; simp at this; exact (List.eq_nil_of_length_eq_zero this.symm).symm
  | x :: a, [], _, _, h => by have := h.length_eq; simp at this
  | x :: a, y :: b, ha, hb, h => by
    have e : x = y := by
      rw [List.pairwise_cons] at ha hb
      have h1 : x ∈ y :: b := h.subset List.mem_cons_self
      have h2 : y ∈ x :: a := h.symm.subset List.mem_cons_self
      rcases List.mem_cons.mp h1 with z | z
      · exact z
      · rcases List.mem_cons.mp h2 with z2 | z2
        · exact z2.symm
        · have := ha.1 y z2; have := hb.1 x z; omega
    subst e
    rw [List.pairwise_cons] at ha hb
    rw [srt_uniq ha.2 hb.2 (List.Perm.cons_inv h)]
def srt (ns : List Int) : List Int := ns.mergeSort (fun a b => decide (a ≤ b))
theorem srt_is {ns ns' : List Int} (h1 : ns'.Perm ns) (h2 : ns'.Pairwise (· ≤ ·)) : ns' = srt ns := by
  have s1 : (srt ns).Pairwise (fun a b => decide (a ≤ b) = true) := List.pairwise_mergeSort (by intro a b c; simp; omega) (by intro a b; simp; omega) ns
  exact srt_uniq h2 (s1.imp fun {a b} h => by simpa using h) (h1.trans (List.mergeSort_perm ns _).symm)
def bSorted (xs : List Ev) (M : Mem) : R Ev := match xs with
  | [.d (.tup l)] => match toInts l with
    | some ns => .ok (.d (.lst ((srt ns).map D.int))) M
    | none => .stuck
  | [x] => match intsOf x with
    | some ns => .ok (.d (.lst ((srt ns).map D.int))) M
    | none => .stuck
  | _ => .stuck
theorem ints_back {K : PySem.W.Frag} {A m : List Addr} {H : Hp} {l : List D} {ns : List Int} {vs : List V} (h : toInts l = some ns) (r : Rps K A m H l vs) : vs = ns.map V.int := by
  rw [toInts_map h] at r
  exact Rps.ints r
theorem bi_sorted : BIs X T W (.builtin "sorted") bSorted := by
  refine ⟨_, cr_sortedT.or cr_sortedI, ?_⟩
  intro H0 A m M H ρ σ P xs vs Q F ra h
  unfold bSorted at h
  split at h
  · rename_i l
    obtain ⟨v, rfl, r⟩ := Paired.one ra
    split at h
    · rename_i ns hl
      obtain ⟨a, ws, e, hs, q⟩ := r
      have ew := ints_back hl q
      subst ew
      refine .inl ⟨a, ns, by rw [e], SqT.of hs, fun ns' p h1 h2 hp => ?_⟩
      rw [srt_is h1 h2]
      exact h.made F hp (newL (C := cf X T W) F hp (Rps.of_ints _))
    · exact h.elim
  · rename_i x _
    obtain ⟨v, rfl, r⟩ := Paired.one ra
    split at h
    · rename_i ns hl
      obtain ⟨a, e, hs⟩ := intsOf_at hl r
      refine .inr ⟨a, ns, by rw [e], SqL.of hs, fun ns' p h1 h2 hp => ?_⟩
      rw [srt_is h1 h2]
      exact h.made F hp (newL (C := cf X T W) F hp (Rps.of_ints _))
    · exact h.elim
  · exact h.elim
/-- {} as a thing -/
def eDk : Sm Ev := fun _ M => .ok (.d (.dK [] [])) M
theorem de_dk : PE X (.Dict [] [] pos) (tE (cf X T W) eDk) := by
  refine ⟨fun pins s σ H Q I q => pe_dnewK.run pins s σ H Q I ?_⟩
  obtain ⟨H0, A, m, M, ρ, P, F, q⟩ := q
  exact fun p hp => q.made F hp ⟨p, [], rfl, upd_same, rfl, F.new hp, rfl⟩
/-- enumerate, tuples too -/
def enumA (k : Bool) (xs : List Ev) : Option (List D) := match xs with
  | [.d (.tup l)] => some (pairL l)
  | [x] => (itemsOf k x).map pairL
  | _ => none
theorem wk_enumT {C : Cf} {m : List Addr} {Rch : List Addr → Hp → Prop} {a : Addr} {l : List D} {vs : List V} (hl : vs.length = l.length) (st : ∀ A' H2, Rch A' H2 → H2 a = some (.tup vs) ∧ Rps C.K A' m H2 l vs) : Wk C m Rch (pairL l) (IteT C.K a) := by
  refine ⟨fun A' H2 hr i d hd => ?_, fun A' H2 hr => ?_⟩
  · obtain ⟨x, hx, rfl⟩ := pairL_get hd
    obtain ⟨h2, q⟩ := st A' H2 hr
    obtain ⟨u, e1, e2⟩ := Rps.get q hx
    refine ⟨⟨vs, u, SqT.of h2, e1⟩, fun y H3 hy => ?_⟩
    obtain ⟨p, z, rfl, hp, rfl, hz⟩ := hy
    have e3 := hz vs (SqT.of h2)
    rw [e1] at e3; cases e3
    exact ⟨.inr ⟨p, _, hp, rfl⟩, pair_new hp rfl e2⟩
  · obtain ⟨h2, q⟩ := st A' H2 hr
    exact ⟨vs, SqT.of h2, by rw [pairL_len, hl]; exact Nat.le_refl _⟩
theorem di_enumA {elts : List Expr} {kk : Nat} {tpos : Pos} (hg : Gl X "enumerate") (hm : X.mg "enumerate" = none) (ha : PA X [e] (tA (cf X T W) fs)) (hs : starEach [e] X.env = [(false, eval e X.env)] := by rfl) : PI X (.Tuple elts kk tpos) (.Call (.Name "enumerate" p) [e] [] pos) (tI (cf X T W) k (iO (enumA k) fs)) := by
  refine ⟨fun pins s σ H G I q => (pi_enumA hg hm ha hs).run pins s σ H G I ?_⟩
  obtain ⟨H0, A, m, M, ρ, P, F, q⟩ := q
  refine di_O F q fun xs items M1 H1 vs F1 r1 e q1 => ?_
  unfold enumA at e
  split at e
  · rename_i l
    cases e
    obtain ⟨v, rfl, r⟩ := Paired.one r1
    obtain ⟨a, vs, ev, hl, len, st⟩ := tup_stays (k := k) F1 r
    exact ⟨a, vs, by rw [ev], .inl ⟨SqT.of hl, q1 _ (wk_enumT len st)⟩⟩
  · rename_i x hx
    obtain ⟨v, rfl, r⟩ := Paired.one r1
    cases e2 : itemsOf k x with
    | none => rw [e2] at e; cases e
    | some l =>
      rw [e2] at e
      cases e
      obtain ⟨a, vs, ev, hl, len, st⟩ := list_stays F1 (fun ⟨l, z⟩ => hx l (by rw [z])) e2 r
      exact ⟨a, vs, by rw [ev], .inr ⟨SqL.of hl, q1 _ (wk_enum len st)⟩⟩
  · cases e
end
end DL

set_option Elab.async false
set_option linter.all false
set_option maxRecDepth 100000
set_option maxHeartbeats 2000000
/-! The data layer: rows of new lists. -/
namespace DL
open PySem PySem.Spec PyProof.Rows L2
def lcR (g : Tgt) (vs : List Nat) (f : Sm (List D)) (ρ : Env) : List (List D) → List D → Mem → R (List (List D))
  | acc, [], M => .ok acc M
  | acc, d :: r, M => match tgE g (wipeE ρ vs) d with
    | some ρ1 => bnd (noX (f ρ1 M)) fun row M2 => lcR g vs f ρ (acc ++ [row]) r M2
    | none => .stuck
def nRows (it : Sm (List D)) (g : Tgt) (vs : List Nat) (f : Sm (List D)) : Sm Ev := fun ρ M => bnd (it ρ M) fun items M1 => if items.length ≤ most then bnd (lcR g vs f ρ [] items M1) (fun rows M2 => .ok (.rw .own rows) M2) else .stuck
theorem lcR_noX {g : Tgt} {vs : List Nat} {f : Sm (List D)} {ρ : Env} : ∀ (its : List D) (acc : List (List D)) (M : Mem), NoE (lcR g vs f ρ acc its M)
  | [], acc, M => trivial
  | d :: r, acc, M => by
    unfold lcR
    cases tgE g (wipeE ρ vs) d with
    | none => trivial
    | some ρ1 => exact NoE.bnd fun y M2 => lcR_noX r _ M2
theorem RowsR.app {K : PySem.W.Frag} {A m : List Addr} {H : Hp} : ∀ {rows rows' : List (List D)} {vs vs' : List V} {P P' : List Addr}, RowsR K A m H rows vs P → RowsR K A m H rows' vs' P' → RowsR K A m H (rows ++ rows') (vs ++ vs') (P ++ P')
  | [], _, _, _, _, _, ⟨e, eP⟩, h => by rw [e, eP]; exact h
  | row :: rows, _, vs, _, P, _, ⟨b, ws, r, P1, e, eP, hb, hr, ht⟩, h => ⟨b, ws, r ++ _, P1 ++ _, by rw [e]; rfl, by rw [eP]; rfl, hb, hr, RowsR.app ht h⟩
def GdR (Z : List (List D) → Mem → Prop) (r : R (List (List D))) : Prop := match r with
  | .ok l M => Z l M
  | _ => False
section
variable {X : Cx} {T : List (Addr × Str)} {W : WX}
theorem lcR_run {it : Sm (List D)} {tgt : Tgt} {vs : List Nat} {f : Sm (List D)} (hv : ∀ i ∈ tgt.slots, i ∈ vs) {σ : L2.St} {H : Hp} {Q : VK} (q : tN (cf X T W) (nRows it tgt vs f) σ H Q) : tLc (tI (cf X T W) true it) (tgG X.K tgt) (tT (cf X T W0) tYesE) (tF (cf X T W0) f) vs σ H Q := by
  obtain ⟨H0, A, m, M, ρ, P, F, q⟩ := q
  refine ⟨H0, A, m, M, ρ, P, F, ?_⟩
  unfold nRows at q
  cases e : it ρ M with
  | stuck => rw [e] at q; exact q.elim
  | exc c g M1 => rw [e] at q; exact q
  | ok items M1 =>
    rw [e, bnd_ok] at q
    intro J H1 s w tb Wl La nD
    have F1 := F.step s w tb
    have hLm : La ∉ m := fun z => by obtain ⟨o, e, _⟩ := F1.wr.aok La z; rw [nD] at e; cases e
    have lv01 : ∀ {p : Addr}, ¬ Lv H1 p → ¬ Lv H p := fun {p} h z => by
      by_cases hm : p ∈ m
      · obtain ⟨o, e, mu⟩ := F1.wr.aok p hm; exact h ⟨o, e, muta_tbl mu⟩
      · exact h (s.lv z hm)
    by_cases hc : items.length ≤ most
    · rw [if_pos hc] at q
      have q' : GdR (fun rows M' => PN (cf X T W) m H0 A H σ (.ok (.rw .own rows) M') Q) (lcR tgt vs f ρ [] items M1) := by
        cases e2 : lcR tgt vs f ρ [] items M1 with
        | stuck => rw [e2] at q; exact q
        | exc c g M2 => have z := lcR_noX (g := tgt) (vs := vs) (f := f) (ρ := ρ) items [] M1; rw [e2] at z; exact z.elim
        | ok l M2 => rw [e2] at q; exact q
      have G0 : FR (cf X T W0) H0 (La :: A) m M1 (upd H1 La (.lst [])) ρ σ P := (F1.more nD (o := .lst []) trivial).wish rfl rfl
      refine ⟨fun i k H2 => k + i = items.length ∧ ∃ Ai Pi M2 rows accV, RchC A m H1 Ai H2 ∧ FR (cf X T W0) H0 Ai m M2 H2 ρ σ P ∧ H2 La = some (.lst accV) ∧ RowsR X.K Ai m H2 rows accV Pi ∧ (La :: Pi).Nodup ∧ (∀ a ∈ La :: Pi, a ∈ Ai ∧ ¬ Lv H1 a) ∧ rows.length ≤ i ∧
        GdR (fun rows M' => PN (cf X T W) m H0 A H σ (.ok (.rw .own rows) M') Q) (lcR tgt vs f ρ rows (items.drop i) M2),
        ⟨items.length, by simp, La :: A, [], M1, [], [], ⟨fun a ha => (List.mem_cons.mp ha).elim (fun z => .inr (by rw [z]; exact not_lv_of nD)) .inl, fun a ha => List.mem_cons_of_mem _ ha, Stp.upd nD⟩, G0, upd_same, ⟨rfl, rfl⟩, by simp, fun a ha => by
          rw [List.mem_singleton.mp ha]; exact ⟨List.mem_cons_self, not_lv_of nD⟩, Nat.le_refl _, by simpa using q'⟩, fun i k H2 h => ?_⟩
      obtain ⟨hk, Ai, Pi, M2, rows, accV, hr, F2, hL, rR, nd, ow, la, q2⟩ := h
      cases k with
      | zero =>
        have hi : i = items.length := by omega
        subst hi
        rw [List.drop_length] at q2
        have q3 : PN (cf X T W) m H0 A H σ (.ok (.rw .own rows) M2) Q := q2
        refine .inl ⟨Wl.stop Ai H2 hr, q3 Ai (La :: Pi) H2 (.ref La) ⟨fun a ha => (hr.1 a ha).imp id lv01, hr.2.1, s.trans hr.2.2⟩ F2.wr F2.tb F2.aok ⟨La, accV, Pi, rfl, hL, rfl, rR⟩ nd fun p hp => ⟨(ow p hp).1, lv01 (ow p hp).2⟩⟩
      | succ k =>
        have hi : i < items.length := by omega
        have ed : items.drop i = items[i] :: items.drop (i + 1) := List.drop_eq_getElem_cons hi
        rw [ed] at q2
        obtain ⟨hgo, hy⟩ := Wl.go Ai H2 hr i items[i] (List.getElem?_eq_getElem hi)
        refine .inr ⟨hgo, fun H' => ∃ Ai Pi M2 rows accV, RchC A m H1 Ai H' ∧ FR (cf X T W0) H0 Ai m M2 H' ρ σ P ∧ H' La = some (.lst accV) ∧ RowsR X.K Ai m H' rows accV Pi ∧ (La :: Pi).Nodup ∧ (∀ a ∈ La :: Pi, a ∈ Ai ∧ ¬ Lv H1 a) ∧ rows.length ≤ i + 1 ∧
          GdR (fun rows M' => PN (cf X T W) m H0 A H σ (.ok (.rw .own rows) M') Q) (lcR tgt vs f ρ rows (items.drop (i + 1)) M2),
          fun H' h => ⟨k, Nat.lt_succ_self k, by omega, h⟩, fun v H3 hv3 => ?_⟩
        obtain ⟨h3, r3⟩ := hy v H3 hv3
        have F3 : FR (cf X T W0) H0 Ai m M2 H3 ρ σ P ∧ Stp m H2 H3 := by
          rcases h3 with rfl | ⟨p, o, hp, rfl⟩
          · exact ⟨F2, Stp.refl _ _⟩
          · exact ⟨F2.grow hp, Stp.upd hp⟩
        unfold lcR at q2
        split at q2
        · rename_i ρ1 h1
          refine tg_blk F3.1 hv r3 h1 fun σ' P' F4 hw => ⟨hw, ?_⟩
          refine ⟨H0, Ai, m, M2, ρ1, P', F4, ?_⟩
          intro H5 b s5 w5 t5 r5
          cases (show true = b from r5)
          rw [if_pos rfl]
          have F5 := F4.step s5 w5 t5
          refine ⟨H0, Ai, m, M2, ρ1, P', F5, ?_⟩
          cases e2 : f ρ1 M2 with
          | stuck => rw [e2] at q2; exact q2.elim
          | exc c g M6 => rw [e2] at q2; exact q2.elim
          | ok row M6 =>
            rw [e2] at q2
            intro H6 p ws s6 w6 t6 n6 hp6 r6
            have s26 : Stp m H2 H6 := (F3.2.trans s5).trans s6
            have hLm6 : H6 La = some (.lst accV) := s26 La _ hL hLm lst_tbl
            have n2 : ¬ Lv H2 p := fun z => n6 (by
              by_cases hm : p ∈ m
              · obtain ⟨o, e, mu⟩ := F5.wr.aok p hm; exact ⟨o, e, muta_tbl mu⟩
              · exact (F3.2.trans s5).lv z hm)
            have n1 : ¬ Lv H1 p := fun z => n2 (by
              by_cases hm : p ∈ m
              · obtain ⟨o, e, mu⟩ := F2.wr.aok p hm; exact ⟨o, e, muta_tbl mu⟩
              · exact hr.2.2.lv z hm)
            obtain ⟨nA, nm, nP, n0⟩ := F2.not_live n2
            have rch : RchC Ai m H2 (p :: Ai) H6 := ⟨fun a ha => (List.mem_cons.mp ha).elim (fun z => .inr (by rw [z]; exact n2)) .inl, fun a ha => List.mem_cons_of_mem _ ha, s26⟩
            have k6 : AOk (p :: Ai) H6 := fun a ha => by
              rcases List.mem_cons.mp ha with z | z
              · exact ⟨.lst ws, by rw [z]; exact hp6, trivial⟩
              · exact (F2.step s26 w6 t6).aok a z
            have F6 : FR (cf X T W0) H0 (p :: Ai) m M6 H6 ρ σ P := F2.gro rch w6 t6 k6
            have hLA : La ∈ Ai := (ow La List.mem_cons_self).1
            have hLP : La ∉ P := fun z => (not_in_A F1.aok (not_lv_of nD)) (by
              have hz := (F1.own La z).1
              exact hz)
            have h0 : ¬ Lv H0 La := F1.h0 nD
            have F7 := F6.write (a := La) (o' := .lst (accV ++ [.ref p])) (List.mem_cons_of_mem _ hLA) hLm hLP h0 hLm6 trivial trivial
            have neL : p ≠ La := fun z => nA (by rw [z]; exact hLA)
            have rr6 : RowsR X.K (p :: Ai) m H6 rows accV Pi := RowsR.step F2.wr.aok (fun a ha => List.mem_cons_of_mem _ (F2.ma a ha)) s26 (fun a ha => by
              have := (ow a (List.mem_cons_of_mem _ ha)).2
              exact fun z => by
                obtain ⟨o, e, mu⟩ := F1.wr.aok a z
                exact this ⟨o, e, muta_tbl mu⟩) (RowsR.avoid rch.1 rR)
            have rr7 : RowsR X.K (p :: Ai) m (upd H6 La (.lst (accV ++ [.ref p]))) (rows ++ [row]) (accV ++ [.ref p]) (Pi ++ [p]) := by
              refine RowsR.step (B := [La]) (aok_one hLm6 trivial) (fun x hx => by rw [List.mem_singleton.mp hx]; exact List.mem_cons_of_mem _ hLA) stp_upd (fun a ha z => ?_) (RowsR.app rr6 ⟨p, ws, [], [], rfl, rfl, hp6, r6, rfl, rfl⟩)
              have ez := List.mem_singleton.mp z
              rcases List.mem_append.mp ha with y | y
              · exact (List.nodup_cons.mp nd).1 (by rw [← ez]; exact y)
              · exact neL (by rw [← List.mem_singleton.mp y]; exact ez)
            have lenV : accV.length = rows.length := RowsR.len rR
            refine ⟨accV, hLm6, by have := most_line hc; omega, p :: Ai, Pi ++ [p], M6, rows ++ [row], accV ++ [.ref p], ⟨fun a ha => ?_, fun a ha => List.mem_cons_of_mem _ (hr.2.1 a ha), fun a o ea na ta => ?_⟩, F7, upd_same, rr7, ?_, fun a ha => ?_, by simp; omega, q2⟩
            · rcases List.mem_cons.mp ha with z | z
              · exact .inr (by rw [z]; exact n1)
              · exact hr.1 a z
            · have hne : a ≠ La := fun z => by rw [z, nD] at ea; cases ea
              rw [upd_ne hne]
              exact s26 a o (hr.2.2 a o ea na ta) na ta
            · rw [← List.cons_append, List.nodup_append]
              exact ⟨nd, by simp, fun a ha b hb z => nA (by rw [List.mem_singleton.mp hb] at z; rw [← z]; exact (ow a ha).1)⟩
            · rw [← List.cons_append] at ha
              rcases List.mem_append.mp ha with z | z
              · exact ⟨List.mem_cons_of_mem _ (ow a z).1, (ow a z).2⟩
              · rw [List.mem_singleton.mp z]; exact ⟨List.mem_cons_self, n1⟩
        · exact q2.elim
    · rw [if_neg hc] at q; exact q.elim
theorem ds_rows {i : Nat} {y : Str} {py pos : Pos} {elt tg iter : Expr} {scope : Scope} {own : List (Str × Nat)} {spos : Pos} {it : Sm (List D)} {tgt : Tgt} {f : Sm (List D)} (hc : X.calm = true) (hN : X.N.Nodup) (hi : PI X tg iter (tI (cf X T W) true it)) (ok : BlkOk X.N X.env.scope scope own)
    (hg : ∀ (s : Shared) (H : Hp) (C : Addr) (cl : List (Str × Addr)) (fp : List Addr), PG (X.blk s H scope (compEnvC scope cl C X.env) fp) tg (tgG X.K tgt)) (he : ∀ (s : Shared) (H : Hp) (C : Addr) (cl : List (Str × Addr)) (fp : List Addr), PE (X.blk s H scope (compEnvC scope cl C X.env) fp) elt (tF (cf X T W0) f))
    (hsw : swapsWith (.ListComp elt [⟨tg, iter, [], 0⟩] scope pos) (some (.Name y py)) spos.line X.env = pure true) (hy : X.N[i]? = some y := by rfl) (hyl : X.env.scope.names.lookup y = some .local := by rfl) (hv : ∀ i ∈ tgt.slots, i ∈ own.map (·.2) := by decide) (hs : ∀ x, foldedSetIterable iter X.env x = pure x := by intro _; rfl) :
    PS X (.Assign [.Name y py] (.ListComp elt [⟨tg, iter, [], 0⟩] scope pos) spos) (tS (cf X T W) (sSetN i (nRows it tgt (own.map (·.2)) f))) :=
  ⟨fun pins s σ H Dn I q => (ps_setLc hc hN hy hyl hsw hi ok hg (fun s H C cl fp => dts_nil (X := X.blk s H scope (compEnvC scope cl C X.env) fp)) he hs).run pins s σ H Dn I (lcR_run hv (setN_run q))⟩
end
end DL

set_option Elab.async false
set_option linter.all false
set_option maxRecDepth 100000
set_option maxHeartbeats 2000000
/-! The data layer: the built-ins' names. -/
namespace DL
open PySem PySem.Spec PyProof.Rows L2
theorem bo_len : bootBuiltins ("len" : Str) = some (.builtin "len") := by kernel_rfl
theorem bo_abs : bootBuiltins ("abs" : Str) = some (.builtin "abs") := by kernel_rfl
theorem bo_max : bootBuiltins ("max" : Str) = some (.builtin "max") := by kernel_rfl
theorem bo_min : bootBuiltins ("min" : Str) = some (.builtin "min") := by kernel_rfl
theorem bo_sum : bootBuiltins ("sum" : Str) = some (.builtin "sum") := by kernel_rfl
theorem bo_all : bootBuiltins ("all" : Str) = some (.builtin "all") := by kernel_rfl
theorem bo_any : bootBuiltins ("any" : Str) = some (.builtin "any") := by kernel_rfl
theorem bo_isinstance : bootBuiltins ("isinstance" : Str) = some (.builtin "isinstance") := by kernel_rfl
theorem bo_sorted : bootBuiltins ("sorted" : Str) = some (.builtin "sorted") := by kernel_rfl
theorem bo_int : bootBuiltins ("int" : Str) = some (.type "int") := by kernel_rfl
theorem bo_bool : bootBuiltins ("bool" : Str) = some (.type "bool") := by kernel_rfl
theorem bo_str : bootBuiltins ("str" : Str) = some (.type "str") := by kernel_rfl
theorem bo_tuple : bootBuiltins ("tuple" : Str) = some (.type "tuple") := by kernel_rfl
theorem bo_list : bootBuiltins ("list" : Str) = some (.type "list") := by kernel_rfl
theorem bo_dict : bootBuiltins ("dict" : Str) = some (.type "dict") := by kernel_rfl
theorem bo_set : bootBuiltins ("set" : Str) = some (.type "set") := by kernel_rfl
theorem bo_float : bootBuiltins ("float" : Str) = some (.type "float") := by kernel_rfl
end DL

set_option Elab.async false
set_option linter.all false
set_option maxRecDepth 100000
set_option maxHeartbeats 2000000
/-! The data layer's readings, plainly: loops, comprehensions. -/
namespace DL
open PySem PySem.Spec PyProof.Rows L2
theorem forL_inv {g : Tgt} {f : Ss} (Inv : Nat → Env → Mem → Prop) : ∀ (items : List D) (k : Nat) (ρ : Env) (M : Mem),
    (∀ i d ρ M, items[i]? = some d → Inv (k + i) ρ M → ∃ ρ1 ρ' M', tgE g ρ d = some ρ1 ∧ f ρ1 M = .nx ρ' M' ∧ Inv (k + i + 1) ρ' M') → Inv k ρ M → ∃ ρ' M', forL g f items ρ M = .nx ρ' M' ∧ Inv (k + items.length) ρ' M'
  | [], k, ρ, M, _, h => ⟨ρ, M, rfl, h⟩
  | d :: r, k, ρ, M, hs, h => by
    obtain ⟨ρ1, ρ', M', e1, e2, h'⟩ := hs 0 d ρ M rfl h
    obtain ⟨ρ2, M2, e3, h2⟩ := forL_inv Inv r (k + 1) ρ' M' (fun i d ρ M hd hi => by
      have := hs (i + 1) d ρ M (by simpa using hd) (by rw [show k + (i + 1) = k + 1 + i by omega]; exact hi)
      rw [show k + (i + 1) + 1 = k + 1 + i + 1 by omega] at this
      exact this) h'
    refine ⟨ρ2, M2, ?_, by rw [List.length_cons, show k + (r.length + 1) = k + 1 + r.length by omega]; exact h2⟩
    simp only [forL, e1, e2, e3]
theorem sWhile_inv {tc : Sm Bool} {f : Ss} (Inv : Nat → Env → Mem → Prop) (Post : Env → Mem → Prop)
    (hs : ∀ m ρ M, Inv m ρ M → (∃ M1, tc ρ M = .ok false M1 ∧ Post ρ M1) ∨ ∃ M1 ρ' M' m', tc ρ M = .ok true M1 ∧ f ρ M1 = .nx ρ' M' ∧ m' < m ∧ Inv m' ρ' M') :
    ∀ (n m : Nat) (ρ : Env) (M : Mem), m < n → Inv m ρ M → ∃ ρ' M', sWhile tc f n ρ M = .nx ρ' M' ∧ Post ρ' M'
  | 0, m, ρ, M, hn, _ => by omega
  | n + 1, m, ρ, M, hn, h => by
    rcases hs m ρ M h with ⟨M1, e1, hp⟩ | ⟨M1, ρ', M', m', e1, e2, hm, h'⟩
    · refine ⟨ρ, M1, ?_, hp⟩
      simp [sWhile, e1, sE]
    · obtain ⟨ρ2, M2, e3, hp⟩ := sWhile_inv Inv Post hs n m' ρ' M' (by omega) h'
      refine ⟨ρ2, M2, ?_, hp⟩
      simp only [sWhile, e1, e2, e3, sE, if_true]
theorem lcL_inv {g : Tgt} {vs : List Nat} {t : Sm Bool} {f : Sm Ev} {ρ : Env} (Inv : Nat → List D → Mem → Prop) : ∀ (items : List D) (k : Nat) (acc : List D) (M : Mem),
    (∀ i d acc M, items[i]? = some d → Inv (k + i) acc M → ∃ ρ1 b M1, tgE g (wipeE ρ vs) d = some ρ1 ∧ t ρ1 M = .ok b M1 ∧ ((b = true ∧ ∃ y M2, f ρ1 M1 = .ok (.d y) M2 ∧ Inv (k + i + 1) (acc ++ [y]) M2) ∨ (b = false ∧ Inv (k + i + 1) acc M1))) →
    Inv k acc M → ∃ l M', lcL g vs t f ρ acc items M = .ok l M' ∧ Inv (k + items.length) l M'
  | [], k, acc, M, _, h => ⟨acc, M, rfl, h⟩
  | d :: r, k, acc, M, hs, h => by
    have step : ∀ i d acc M, r[i]? = some d → Inv (k + 1 + i) acc M → ∃ ρ1 b M1, tgE g (wipeE ρ vs) d = some ρ1 ∧ t ρ1 M = .ok b M1 ∧ ((b = true ∧ ∃ y M2, f ρ1 M1 = .ok (.d y) M2 ∧ Inv (k + 1 + i + 1) (acc ++ [y]) M2) ∨ (b = false ∧ Inv (k + 1 + i + 1) acc M1)) := fun i d acc M hd hi => by
      have := hs (i + 1) d acc M (by simpa using hd) (by rw [show k + (i + 1) = k + 1 + i by omega]; exact hi)
      rw [show k + (i + 1) + 1 = k + 1 + i + 1 by omega] at this
      exact this
    obtain ⟨ρ1, b, M1, e1, e2, h2⟩ := hs 0 d acc M rfl h
    rcases h2 with ⟨rfl, y, M2, e3, h'⟩ | ⟨rfl, h'⟩
    · obtain ⟨l, M', e4, h4⟩ := lcL_inv Inv r (k + 1) (acc ++ [y]) M2 step h'
      refine ⟨l, M', ?_, by rw [List.length_cons, show k + (r.length + 1) = k + 1 + r.length by omega]; exact h4⟩
      simp only [lcL, e1, e2, e3, e4, noX, bnd, if_true]
    · obtain ⟨l, M', e4, h4⟩ := lcL_inv Inv r (k + 1) acc M1 step h'
      refine ⟨l, M', ?_, by rw [List.length_cons, show k + (r.length + 1) = k + 1 + r.length by omega]; exact h4⟩
      simp only [lcL, e1, e2, e4, noX, bnd, Bool.false_eq_true, if_false]
/-- each item told by a function, nothing else changes -/
theorem lcL_map {g : Tgt} {vs : List Nat} {f : Sm Ev} {ρ : Env} {M : Mem} (y : D → D) (items : List D) (hs : ∀ d ∈ items, ∃ ρ1, tgE g (wipeE ρ vs) d = some ρ1 ∧ f ρ1 M = .ok (.d (y d)) M) : lcL g vs tYesE f ρ [] items M = .ok (items.map y) M := by
  obtain ⟨l, M', e, h1, h2⟩ := lcL_inv (g := g) (vs := vs) (t := tYesE) (f := f) (ρ := ρ) (fun i acc M' => acc = (items.take i).map y ∧ M' = M) items 0 [] M (fun i d acc M1 hd hi => by
    obtain ⟨e1, e2⟩ := hi
    subst e2
    obtain ⟨ρ1, h1, h2⟩ := hs d (List.mem_of_getElem? hd)
    refine ⟨ρ1, true, M1, h1, rfl, .inl ⟨rfl, y d, M1, h2, ?_, rfl⟩⟩
    rw [e1, Nat.zero_add, List.take_add_one, hd, List.map_append]
    rfl) ⟨rfl, rfl⟩
  rw [e, h1, h2, Nat.zero_add, List.take_length]
theorem lcR_map {g : Tgt} {vs : List Nat} {f : Sm (List D)} {ρ : Env} {M : Mem} (row : List D) : ∀ (items : List D) (acc : List (List D)), (∀ d ∈ items, ∃ ρ1, tgE g (wipeE ρ vs) d = some ρ1 ∧ f ρ1 M = .ok row M) → lcR g vs f ρ acc items M = .ok (acc ++ List.replicate items.length row) M
  | [], acc, _ => by simp [lcR]
  | d :: r, acc, hs => by
    obtain ⟨ρ1, e1, e2⟩ := hs d List.mem_cons_self
    simp only [lcR, e1, e2, noX, bnd]
    rw [lcR_map row r _ fun d hd => hs d (List.mem_cons_of_mem _ hd), List.append_assoc, List.length_cons, List.replicate_succ]
    rfl
theorem rangeL_len (lo : Int) (n : Nat) (c : Int) : (rangeL lo n c).length = n := by unfold rangeL; simp
theorem rangeL_get {lo : Int} {n : Nat} {c : Int} {i : Nat} {d : D} (h : (rangeL lo n c)[i]? = some d) : i < n ∧ d = .int (lo + (i : Int) * c) := by
  unfold rangeL at h
  rw [List.getElem?_map] at h
  by_cases hi : i < n
  · rw [List.getElem?_range hi] at h
    exact ⟨hi, (Option.some.inj h).symm⟩
  · rw [List.getElem?_eq_none (by simpa using hi)] at h; cases h
theorem atI_get' {α : Type} (l : List α) (i : Nat) : atI l (i : Int) = l[i]? := by
  unfold atI ixN
  by_cases h : i < l.length
  · rw [if_pos (by omega), if_pos (by omega)]; simp
  · rw [if_pos (by omega), if_neg (by omega)]
    simp at h
    simp [h]
theorem ixN_nat {n i : Nat} (h : i < n) : ixN n (i : Int) = some i := by
  unfold ixN
  rw [if_pos (by omega), if_pos (by omega)]; simp
/-- slot i holds x -/
def At (ρ : Env) (i : Nat) (x : Ev) : Prop := ρ[i]? = some (some x)
theorem At.ne {ρ : Env} {i j : Nat} {x : Ev} {y : Option Ev} (h : At ρ i x) (hj : j ≠ i) : At (ρ.set j y) i x := by
  unfold At; rw [List.getElem?_set_ne hj]; exact h
theorem At.eq {ρ : Env} {i : Nat} {x : Ev} (h : i < ρ.length) : At (ρ.set i (some x)) i x := by
  unfold At; rw [List.getElem?_set_self h]
theorem At.lt {ρ : Env} {i : Nat} {x : Ev} (h : At ρ i x) : i < ρ.length := (List.getElem?_eq_some_iff.mp h).1
theorem At.v {ρ : Env} {i : Nat} {x : Ev} {M : Mem} (h : At ρ i x) : eVar i ρ M = .ok (look x) M := by
  unfold At at h; simp only [eVar, h]
section
variable {ρ ρ' : Env} {M M' M'' : Mem} {f g : Ss} {t u : Sm Bool} {e e' : Sm Ev} {d : D} {x y : Ev} {c : Str} {fld : Option (Str × D)} {i : Nat} {es : Sm (List Ev)} {xs : List Ev}
theorem q_nx (h : f ρ M = .nx ρ' M') : sSeq f g ρ M = g ρ' M' := by simp only [sSeq, h]
theorem q_rt (h : f ρ M = .rt d M') : sSeq f g ρ M = .rt d M' := by simp only [sSeq, h]
theorem q_exc (h : f ρ M = .exc c fld ρ' M') : sSeq f g ρ M = .exc c fld ρ' M' := by simp only [sSeq, h]
theorem q_if1 (h : t ρ M = .ok true M') : sIf t f g ρ M = f ρ M' := by simp only [sIf, sE, h, if_true]
theorem q_if0 (h : t ρ M = .ok false M') : sIf t f g ρ M = g ρ M' := by simp only [sIf, sE, h, Bool.false_eq_true, if_false]
theorem q_skip (h : t ρ M = .ok false M') : sIf t f sNext ρ M = .nx ρ M' := by rw [q_if0 h]; rfl
theorem q_ret (h : e ρ M = .ok x M') (hx : retD x = some d) : sRet e ρ M = .rt d M' := by simp only [sRet, sE, h, hx]
theorem q_or1 (h : t ρ M = .ok true M') : bOr t u ρ M = .ok true M' := by simp only [bOr, bnd, h, if_true]
theorem q_or0 (h : t ρ M = .ok false M') : bOr t u ρ M = u ρ M' := by simp only [bOr, bnd, h, Bool.false_eq_true, if_false]
theorem q_and1 (h : t ρ M = .ok true M') : bAnd t u ρ M = u ρ M' := by simp only [bAnd, bnd, h, if_true]
theorem q_and0 (h : t ρ M = .ok false M') : bAnd t u ρ M = .ok false M' := by simp only [bAnd, bnd, h, Bool.false_eq_true, if_false]
theorem q_not {b : Bool} (h : t ρ M = .ok b M') : bNot t ρ M = .ok (!b) M' := by simp only [bNot, bnd, h]
theorem q_eand1 (h : e ρ M = .ok x M') (hx : truth x = some true) : eAnd e e' ρ M = e' ρ M' := by simp only [eAnd, bnd, h, hx]
theorem q_eand0 (h : e ρ M = .ok x M') (hx : truth x = some false) : eAnd e e' ρ M = .ok x M' := by simp only [eAnd, bnd, h, hx]
theorem q_set (h : e ρ M = .ok x M') (hx : stor x = some y) (hi : i < ρ.length) : sAsg i e ρ M = .nx (ρ.set i (some y)) M' := by simp only [sAsg, sE, h, hx, if_pos hi]
theorem q_setN (h : e ρ M = .ok x M') (hi : i < ρ.length) : sSetN i e ρ M = .nx (ρ.set i (some x)) M' := by simp only [sSetN, sE, h, if_pos hi]
theorem q_bin {o : Ev → Ev → Mem → R Ev} (h : e ρ M = .ok x M') (h' : e' ρ M' = .ok y M'') : eBin o e e' ρ M = o x y M'' := by simp only [eBin, bnd, h, h']
theorem q_cmp {o : Ev → Ev → Mem → R Ev} {b : Bool} (h : eBin o e e' ρ M = .ok (bv b) M') : tCmpE o e e' ρ M = .ok b M' := by simp only [tCmpE, asB, h, bnd]
theorem q_cons (h : e ρ M = .ok x M') (h' : es ρ M' = .ok xs M'') : aCons e es ρ M = .ok (x :: xs) M'' := by simp only [aCons, bnd, h, h']
theorem q_cons1 (h : e ρ M = .ok x M') : aCons e aNil ρ M = .ok [x] M' := by simp only [aCons, bnd, h, aNil]
theorem q_cons2 (h : e ρ M = .ok x M') (h' : e' ρ M' = .ok y M'') : aCons e (aCons e' aNil) ρ M = .ok [x, y] M'' := by simp only [aCons, bnd, h, h', aNil]
theorem q_B {o : List Ev → Mem → R Ev} (h : es ρ M = .ok xs M') : eB o es ρ M = o xs M' := by simp only [eB, bnd, h]
theorem q_call {F : Fn} {n : Nat} {ys : List Ev} (h : es ρ M = .ok xs M') (hp : passL xs = some ys) (hn : ys.length = n) (hF : F ys M' = .ok d M'') : eCall n F es ρ M = .ok (.d d) M'' := by simp only [eCall, bnd, h, hp, if_pos hn, hF]
theorem q_var (h : ρ[i]? = some (some x)) : eVar i ρ M = .ok (look x) M := by simp only [eVar, h]
end
theorem at_0 {α : Type} (a : α) (l : List α) : atI (a :: l) (0 : Int) = some a := by simp [atI, ixN]
theorem at_1 {α : Type} (a b : α) (l : List α) : atI (a :: b :: l) (1 : Int) = some b := by
  have := atI_get' (a :: b :: l) 1; simpa using this
theorem at_2 {α : Type} (a b c : α) (l : List α) : atI (a :: b :: c :: l) (2 : Int) = some c := by
  have := atI_get' (a :: b :: c :: l) 2; simpa using this
theorem at_3 {α : Type} (a b c d : α) (l : List α) : atI (a :: b :: c :: d :: l) (3 : Int) = some d := by
  have := atI_get' (a :: b :: c :: d :: l) 3; simpa using this
theorem at_4 {α : Type} (a b c d e : α) (l : List α) : atI (a :: b :: c :: d :: e :: l) (4 : Int) = some e := by
  have := atI_get' (a :: b :: c :: d :: e :: l) 4; simpa using this
theorem q_for {it : Sm (List D)} {g : Tgt} {f : Ss} {ρ : Env} {M M' : Mem} {items : List D} {r : SR} (h : it ρ M = .ok items M') (hf : forL g f items ρ M' = r) : sFor it g f ρ M = r := by simp only [sFor, sE, h, hf]
theorem tg1 {i : Nat} {ρ : Env} {d : D} (h : i < ρ.length) : tgE (.one i) ρ d = some (ρ.set i (some (.d d))) := by simp only [tgE, if_pos h]
theorem q_rng1 {f : Sm Ev} {ρ : Env} {M M' : Mem} {n : Nat} (hn : n ≤ 1000000) (e : f ρ M = .ok (.d (.int (n : Int))) M') : iO rng1 (aCons f aNil) ρ M = .ok (rangeL 0 n 1) M' := by
  have k : rngOk (n : Int) := by unfold rngOk; omega
  have e1 := q_cons1 e
  simp only [iO, e1, bnd, rng1, if_pos k, optR, Int.toNat_natCast]
theorem q_rng2 {f g : Sm Ev} {ρ : Env} {M M' M'' : Mem} {a n : Nat} (ha : a ≤ n) (hn : n ≤ 1000000) (e : f ρ M = .ok (.d (.int (a : Int))) M') (e' : g ρ M' = .ok (.d (.int (n : Int))) M'') : iO rng2 (aCons f (aCons g aNil)) ρ M = .ok (rangeL (a : Int) (n - a) 1) M'' := by
  have k : rngOk (a : Int) ∧ rngOk (n : Int) := by unfold rngOk; omega
  have e1 := q_cons2 e e'
  have e2 : ((n : Int) - (a : Int)).toNat = n - a := by omega
  simp only [iO, e1, bnd, rng2, if_pos k, optR, e2]
/-! ### the hand of the laws -/
structure Hd (cells : List Int) (B : Nat) (M : Mem) : Prop where
  ex : ∃ p v s c : Int, M = [.lst [.ob 1, .int p, .int v, .int s, .int c], .lst (cells.map D.int)] ∧ 0 ≤ p ∧ 0 ≤ v ∧ 0 ≤ s ∧ s < 2147483648 ∧ 0 ≤ c ∧ c ≤ B
end DL

set_option Elab.async false
set_option linter.all false
set_option maxRecDepth 100000
set_option maxHeartbeats 4000000
/-! The data layer: the laws' own draws. -/
namespace DL
open PySem PySem.Spec PyProof.Rows L2
def fnEnd : SR → R D
  | .nx _ M' => .ok .non M'
  | .rt d M' => .ok d M'
  | .exc c g _ M' => .exc c g M'
  | _ => .stuck
theorem fnOf_eq (n : Nat) (f : Ss) (xs : List Ev) (M : Mem) : fnOf n f xs M = fnEnd (f (xs.map some ++ List.replicate (n - xs.length) none) M) := by
  unfold fnOf fnEnd
  cases f (xs.map some ++ List.replicate (n - xs.length) none) M <;> rfl
def S_drA : Ss := (sIf (bAnd (tCmpE (opEq false) (eBin opIx (eVar 0) (eC (.int 2))) (eC (.int 0))) (tCmpE opLt (eBin opIx (eVar 0) (eC (.int 1))) (eB bLen (aCons (eBin opIx (eVar 0) (eC (.int 0))) aNil)))) (sSeq (sAsg 2 (eBin opIx (eBin opIx (eVar 0) (eC (.int 0))) (eBin opIx (eVar 0) (eC (.int 1))))) (sSeq (sPut 0 (eC (.int 1)) (eBin opAdd (eBin opIx (eVar 0) (eC (.int 1))) (eC (.int 1)))) (sSeq (sPut 0 (eC (.int 3)) (eBin opMod (eB bInt (aCons (eBin opAdd (eBin opAdd (eBin opMulA (eBin opIx (eVar 0) (eC (.int 3))) (eC (.int 69621))) (eBin opMulA (eVar 2) (eC (.int 40692)))) (eC (.int 23))) aNil)) (eC (.int 2147483629)))) (sIf (tCmpE opGe (eVar 2) (eBin opPow (eC (.int 10)) (eC (.int 18)))) (sPut 0 (eC (.int 2)) (eVar 2)) sNext)))) sNext)
def S_drB : Ss := (sIf (tCmpE opGt (eBin opIx (eVar 0) (eC (.int 2))) (eC (.int 0))) (sSeq (sAsg 3 (eBin opMod (eB bInt (aCons (eBin opIx (eVar 0) (eC (.int 2))) aNil)) (eVar 1))) (sSeq (sPut 0 (eC (.int 2)) (eBin opDiv (eBin opIx (eVar 0) (eC (.int 2))) (eVar 1))) (sRet (eVar 3)))) sNext)
def S_drC : Ss := (sSeq (sPut 0 (eC (.int 4)) (eBin opAdd (eBin opIx (eVar 0) (eC (.int 4))) (eC (.int 1)))) (sSeq (sAsg 4 (eBin opMod (eB bInt (aCons (eBin opMulA (eB bInt (aCons (eBin opAdd (eBin opIx (eVar 0) (eC (.int 3))) (eBin opMulA (eC (.int 7919)) (eBin opIx (eVar 0) (eC (.int 4))))) aNil)) (eC (.int 48271))) aNil)) (eC (.int 2147483647)))) (sSeq (sAsg 4 (eBin opMod (eB bInt (aCons (eBin opMulA (eVar 4) (eBin opAdd (eBin opDiv (eVar 4) (eC (.int 1009))) (eC (.int 69621)))) aNil)) (eC (.int 2147483647)))) (sSeq (sAsg 4 (eBin opMod (eB bInt (aCons (eBin opMulA (eVar 4) (eBin opAdd (eBin opDiv (eVar 4) (eC (.int 2003))) (eC (.int 40014)))) aNil)) (eC (.int 2147483563)))) (sRet (eBin opMod (eB bInt (aCons (eBin opDiv (eVar 4) (eC (.int 16))) aNil)) (eVar 1)))))))
def S_draw : Ss := sSeq S_drA (sSeq S_drB S_drC)
def F_draw : Fn := fnOf 5 S_draw
theorem cm64 {i j : Int} (h1 : -(2 ^ 64) < i) (h2 : i < 2 ^ 64) (h3 : -(2 ^ 64) < j) (h4 : j < 2 ^ 64) : cMul i j := by
  have a := intBits_le_64 h1 h2
  have b := intBits_le_64 h3 h4
  unfold cMul; omega
theorem cmW {i j : Int} (h1 : Builtin.Int.intBits i ≤ 1048576) (h3 : -(2 ^ 64) < j) (h4 : j < 2 ^ 64) : cMul i j := by
  have b := intBits_le_64 h3 h4
  unfold cMul; omega
theorem drC {cells : List Int} {B : Nat} {many : Int} (hB : B ≤ 1000000) (hm : 0 < many) (hm2 : many.natAbs.log2 < 9000) (x2 : Option Ev) (p v s c : Int) (hp : 0 ≤ p) (hv : 0 ≤ v) (hs1 : 0 ≤ s) (hs2 : s < 2147483648) (hc1 : 0 ≤ c) (hc2 : c ≤ B) :
    ∃ r M', fnEnd (S_drC [some (.d (.ob 0)), some (.d (.int many)), x2, none, none] [.lst [.ob 1, .int p, .int v, .int s, .int c], .lst (cells.map D.int)]) = .ok (.int r) M' ∧ 0 ≤ r ∧ r < many ∧ Hd cells (B + 1) M' := by
  have e1 : cMul 7919 (c + 1) := cm64 (by omega) (by omega) (by omega) (by omega)
  have e2 : cMul (s + 7919 * (c + 1)) 48271 := cm64 (by omega) (by omega) (by omega) (by omega)
  generalize hn : (s + 7919 * (c + 1)) * 48271 % 2147483647 = n1
  have b1 : 0 ≤ n1 ∧ n1 < 2147483647 := by rw [← hn]; exact ⟨Int.emod_nonneg _ (by omega), Int.emod_lt_of_pos _ (by omega)⟩
  have q1 : 0 ≤ n1 / 1009 ∧ n1 / 1009 ≤ n1 := ⟨Int.ediv_nonneg b1.1 (by omega), Int.ediv_le_self _ b1.1⟩
  have e3 : cMul n1 (n1 / 1009 + 69621) := cm64 (by omega) (by omega) (by omega) (by omega)
  generalize hn2 : n1 * (n1 / 1009 + 69621) % 2147483647 = n2
  have b2 : 0 ≤ n2 ∧ n2 < 2147483647 := by rw [← hn2]; exact ⟨Int.emod_nonneg _ (by omega), Int.emod_lt_of_pos _ (by omega)⟩
  have q2 : 0 ≤ n2 / 2003 ∧ n2 / 2003 ≤ n2 := ⟨Int.ediv_nonneg b2.1 (by omega), Int.ediv_le_self _ b2.1⟩
  have e4 : cMul n2 (n2 / 2003 + 40014) := cm64 (by omega) (by omega) (by omega) (by omega)
  have d1 : cDiv n1 1009 := ⟨by omega, by decide⟩
  have d2 : cDiv n2 2003 := ⟨by omega, by decide⟩
  have d3 : cDiv (n2 * (n2 / 2003 + 40014) % 2147483563) 16 := ⟨by omega, by decide⟩
  refine ⟨n2 * (n2 / 2003 + 40014) % 2147483563 / 16 % many, [.lst [.ob 1, .int p, .int v, .int s, .int (c + 1)], .lst (cells.map D.int)], ?_, Int.emod_nonneg _ (by omega), Int.emod_lt_of_pos _ hm, ⟨p, v, s, c + 1, rfl, hp, hv, hs1, hs2, by omega, by omega⟩⟩
  simp [fnEnd, S_drC, sSeq, sIf, sAsg, sPut, sRet, sE, sNext, tCmpE, asB, eBin, eVar, look, eC, eB, aCons, aNil, bnd, opIx, atI, ixN, opMod, opDiv, opMulA, opMul, bInt, stor, put2, putO, retD, D.bareL, D.bare, opAdd, e1, e2, hn, d1, e3, hn2, d2, e4, d3, hm]
theorem drB {cells : List Int} {B : Nat} {many : Int} (hB : B ≤ 1000000) (hm : 0 < many) (hm2 : many.natAbs.log2 < 9000) (x2 : Option Ev) (p v s c : Int) (hp : 0 ≤ p) (hv : 0 ≤ v) (hs1 : 0 ≤ s) (hs2 : s < 2147483648) (hc1 : 0 ≤ c) (hc2 : c ≤ B) :
    ∃ r M', fnEnd (sSeq S_drB S_drC [some (.d (.ob 0)), some (.d (.int many)), x2, none, none] [.lst [.ob 1, .int p, .int v, .int s, .int c], .lst (cells.map D.int)]) = .ok (.int r) M' ∧ 0 ≤ r ∧ r < many ∧ Hd cells (B + 1) M' := by
  by_cases hv0 : 0 < v
  · have e1 : cDiv v many := ⟨hm, hm2⟩
    refine ⟨v % many, [.lst [.ob 1, .int p, .int (v / many), .int s, .int c], .lst (cells.map D.int)], ?_, Int.emod_nonneg _ (by omega), Int.emod_lt_of_pos _ hm, ⟨p, v / many, s, c, rfl, hp, Int.ediv_nonneg hv (by omega), hs1, hs2, hc1, by omega⟩⟩
    simp [fnEnd, S_drB, sSeq, sIf, sAsg, sPut, sRet, sE, sNext, tCmpE, asB, eBin, eVar, look, eC, eB, aCons, aNil, bnd, opIx, atI, ixN, opMod, opDiv, bInt, stor, put2, putO, retD, D.bareL, D.bare, opI2, hv0, hm, e1]
  · have e0 : S_drB [some (.d (.ob 0)), some (.d (.int many)), x2, none, none] [.lst [.ob 1, .int p, .int v, .int s, .int c], .lst (cells.map D.int)] = .nx [some (.d (.ob 0)), some (.d (.int many)), x2, none, none] [.lst [.ob 1, .int p, .int v, .int s, .int c], .lst (cells.map D.int)] := by
      simp [S_drB, sIf, sE, sNext, tCmpE, asB, eBin, eVar, look, eC, bnd, opIx, atI, ixN, opI2, hv0]
    simp only [sSeq, e0]
    exact drC hB hm hm2 x2 p v s c hp hv hs1 hs2 hc1 hc2
theorem drA {cells : List Int} (hc : ∀ z ∈ cells, 0 ≤ z ∧ Builtin.Int.intBits z ≤ 1048576) {many : Int} (p v s c : Int) (hp : 0 ≤ p) (hv : 0 ≤ v) (hs1 : 0 ≤ s) (hs2 : s < 2147483648) :
    ∃ (x2 : Option Ev) (p' v' s' : Int), S_drA [some (.d (.ob 0)), some (.d (.int many)), none, none, none] [.lst [.ob 1, .int p, .int v, .int s, .int c], .lst (cells.map D.int)] = .nx [some (.d (.ob 0)), some (.d (.int many)), x2, none, none] [.lst [.ob 1, .int p', .int v', .int s', .int c], .lst (cells.map D.int)] ∧ 0 ≤ p' ∧ 0 ≤ v' ∧ 0 ≤ s' ∧ s' < 2147483648 := by
  by_cases h0 : v = 0
  · subst h0
    by_cases h1 : p < (cells.length : Int)
    · obtain ⟨z, hz⟩ : ∃ z, cells[p.toNat]? = some z := ⟨_, List.getElem?_eq_getElem (by omega)⟩
      obtain ⟨z1, z2⟩ := hc z (List.mem_of_getElem? hz)
      have at1 : atI (cells.map D.int) p = some (.int z) := by
        have e : p = (p.toNat : Int) := by omega
        rw [e, atI_get', List.getElem?_map, hz]; rfl
      have e1 : cMul s 69621 := cm64 (by omega) (by omega) (by omega) (by omega)
      have e2 : cMul z 40692 := cmW z2 (by omega) (by omega)
      have b1 : 0 ≤ (s * 69621 + z * 40692 + 23) % 2147483629 ∧ (s * 69621 + z * 40692 + 23) % 2147483629 < 2147483629 := ⟨Int.emod_nonneg _ (by omega), Int.emod_lt_of_pos _ (by omega)⟩
      have e3 : CPow 10 18 := ⟨by omega, by omega, by decide⟩
      have test : (bAnd (tCmpE (opEq false) (eBin opIx (eVar 0) (eC (.int 2))) (eC (.int 0))) (tCmpE opLt (eBin opIx (eVar 0) (eC (.int 1))) (eB bLen (aCons (eBin opIx (eVar 0) (eC (.int 0))) aNil)))) [some (.d (.ob 0)), some (.d (.int many)), none, none, none] [.lst [.ob 1, .int p, .int 0, .int s, .int c], .lst (cells.map D.int)] = .ok true [.lst [.ob 1, .int p, .int 0, .int s, .int c], .lst (cells.map D.int)] := by
        simp [bAnd, tCmpE, asB, eBin, eVar, look, eC, eB, aCons, aNil, bnd, opIx, at_0, at_1, at_2, opEq, eqR, opLt, opI2, bLen, h1]
      by_cases h2 : z < 1000000000000000000
      · have h2' : ¬ (1000000000000000000 ≤ z) := by omega
        refine ⟨some (.d (.int z)), p + 1, 0, (s * 69621 + z * 40692 + 23) % 2147483629, ?_, by omega, by omega, b1.1, by omega⟩
        simp only [S_drA, sIf, sE, test, if_true]
        simp [sIf, tCmpE, sSeq, sAsg, sPut, sE, sNext, asB, eBin, eVar, look, eC, eB, aCons, aNil, bnd, opIx, at_0, at_1, at_2, at_3, at_4, ixN, opMod, opMulA, opMul, bInt, stor, put2, putO, D.bareL, D.bare, opI2, opAdd, at1, e1, e2, e3, h2']
      · have h2' : 1000000000000000000 ≤ z := by omega
        refine ⟨some (.d (.int z)), p + 1, z, (s * 69621 + z * 40692 + 23) % 2147483629, ?_, by omega, by omega, b1.1, by omega⟩
        simp only [S_drA, sIf, sE, test, if_true]
        simp [sIf, tCmpE, sSeq, sAsg, sPut, sE, sNext, asB, eBin, eVar, look, eC, eB, aCons, aNil, bnd, opIx, at_0, at_1, at_2, at_3, at_4, ixN, opMod, opMulA, opMul, bInt, stor, put2, putO, D.bareL, D.bare, opI2, opAdd, at1, e1, e2, e3, h2']
    · refine ⟨none, p, 0, s, ?_, hp, hv, hs1, hs2⟩
      simp [S_drA, sIf, sE, sNext, tCmpE, asB, eBin, eVar, look, eC, eB, aCons, aNil, bnd, bAnd, opIx, at_0, at_1, at_2, at_3, at_4, ixN, opEq, eqR, opLt, bLen, h1]
  · refine ⟨none, p, v, s, ?_, hp, hv, hs1, hs2⟩
    simp [S_drA, sIf, sE, sNext, tCmpE, asB, eBin, eVar, look, eC, bnd, bAnd, opIx, at_0, at_1, at_2, at_3, at_4, ixN, opEq, eqR, h0]
theorem draw_ok {cells : List Int} {B : Nat} {M : Mem} {many : Int} (hc : ∀ z ∈ cells, 0 ≤ z ∧ Builtin.Int.intBits z ≤ 1048576) (h : Hd cells B M) (hB : B ≤ 1000000) (hm : 0 < many) (hm2 : many.natAbs.log2 < 9000) :
    ∃ r M', F_draw [.d (.ob 0), .d (.int many)] M = .ok (.int r) M' ∧ 0 ≤ r ∧ r < many ∧ Hd cells (B + 1) M' := by
  obtain ⟨p, v, s, c, rfl, hp, hv, hs1, hs2, hc1, hc2⟩ := h.ex
  obtain ⟨x2, p', v', s', e, g1, g2, g3, g4⟩ := drA hc (many := many) p v s c hp hv hs1 hs2
  obtain ⟨r, M', e2, r1, r2, r3⟩ := drB hB hm hm2 x2 p' v' s' c g1 g2 g3 g4 hc1 hc2
  refine ⟨r, M', ?_, r1, r2, r3⟩
  unfold F_draw
  rw [fnOf_eq]
  show fnEnd (sSeq S_drA (sSeq S_drB S_drC) [some (.d (.ob 0)), some (.d (.int many)), none, none, none] _) = _
  have e3 : sSeq S_drA (sSeq S_drB S_drC) [some (.d (.ob 0)), some (.d (.int many)), none, none, none] [.lst [.ob 1, .int p, .int v, .int s, .int c], .lst (cells.map D.int)] = sSeq S_drB S_drC [some (.d (.ob 0)), some (.d (.int many)), x2, none, none] [.lst [.ob 1, .int p', .int v', .int s', .int c], .lst (cells.map D.int)] := by
    simp only [sSeq, e]
  rw [e3]
  exact e2
end DL

set_option Elab.async false
set_option linter.all false
set_option maxRecDepth 100000
set_option maxHeartbeats 4000000
/-! The data layer: the laws' own hand, choice, comparison. -/
namespace DL
open PySem PySem.Spec PyProof.Rows L2
def S_any : Ss := (sRet (eBin opIx (eVar 1) (eCall 2 F_draw (aCons (eVar 0) (aCons (eB bLen (aCons (eVar 1) aNil)) aNil)))))
def F_any : Fn := fnOf 2 S_any
def S_hand : Ss := (sSeq (sSetN 1 (nE (eF (fLc (iSeq true (eSl (eVar 0) oNone (oSome (eC (.int 63))))) (.one 2) [2] tYesE (eB bAbs (aCons (eB bInt (aCons (eVar 2) aNil)) aNil)))))) (sRet (eLst (aCons (eVar 1) (aCons (eC (.int 0)) (aCons (eC (.int 0)) (aCons (eBin opAdd (eC (.int 47)) (eBin opMulA (eC (.int 7)) (eB bLen (aCons (eVar 1) aNil)))) (aCons (eC (.int 0)) aNil))))))))
def F_hand : Fn := fnOf 3 S_hand
def S_is (Fr : Fn) : Ss := (sSeq (sIf (tTru (eB bIsi (aCons (eVar 1) (aCons (eTup (aCons (eC (.ty "tuple")) (aCons (eC (.ty "list")) aNil))) aNil)))) (sSeq (sIf (bOr (tCmpE (opEq true) (eB bIsi (aCons (eVar 0) (aCons (eC (.ty "tuple")) aNil))) (eB bIsi (aCons (eVar 1) (aCons (eC (.ty "tuple")) aNil)))) (tCmpE (opEq true) (eB bIsi (aCons (eVar 0) (aCons (eC (.ty "list")) aNil))) (eB bIsi (aCons (eVar 1) (aCons (eC (.ty "list")) aNil))))) (sRet (eC (.bl false))) sNext) (sRet (eAnd (eBin (opEq false) (eB bLen (aCons (eVar 0) aNil)) (eB bLen (aCons (eVar 1) aNil))) (eB bAll (aCons (eF (fLc (iO (zip2 true) (aCons (eVar 0) (aCons (eVar 1) aNil))) (.many [2, 3]) [2, 3] tYesE (eCall 2 Fr (aCons (eVar 2) (aCons (eVar 3) aNil))))) aNil))))) sNext) (sSeq (sIf (bOr (tCmpE (opIs false) (eVar 1) (eC .non)) (tCmpE (opIs false) (eVar 0) (eC .non))) (sRet (eAnd (eBin (opIs false) (eVar 1) (eC .non)) (eBin (opIs false) (eVar 0) (eC .non)))) sNext) (sSeq (sIf (bOr (tCmpE (opEq true) (eB bIsi (aCons (eVar 0) (aCons (eC (.ty "bool")) aNil))) (eB bIsi (aCons (eVar 1) (aCons (eC (.ty "bool")) aNil)))) (tCmpE (opEq true) (eB bIsi (aCons (eVar 0) (aCons (eC (.ty "int")) aNil))) (eB bIsi (aCons (eVar 1) (aCons (eC (.ty "int")) aNil))))) (sRet (eC (.bl false))) sNext) (sRet (eAnd (eBin (opEq false) (eB bIsi (aCons (eVar 0) (aCons (eC (.ty "str")) aNil))) (eB bIsi (aCons (eVar 1) (aCons (eC (.ty "str")) aNil)))) (eBin (opEq false) (eVar 0) (eVar 1)))))))
def R_is : Nat → Fn
  | 0 => fun _ _ => .stuck
  | n + 1 => fnOf 4 (S_is (R_is n))
theorem log2_small {n : Nat} (h : n < 2 ^ 64) : n.log2 < 9000 := by
  by_cases e : n = 0
  · subst e; decide
  · have := (Nat.log2_lt e).mpr h; omega
theorem any_ok {cells : List Int} {B : Nat} {M : Mem} {l : List D} (hc : ∀ z ∈ cells, 0 ≤ z ∧ Builtin.Int.intBits z ≤ 1048576) (h : Hd cells B M) (hB : B ≤ 1000000) (hl : 0 < l.length) (hl2 : l.length < 1000000) :
    ∃ d M', F_any [.d (.ob 0), .d (.lst l)] M = .ok d M' ∧ d ∈ l ∧ Hd cells (B + 1) M' := by
  obtain ⟨r, M', e, r0, r1, h'⟩ := draw_ok hc h hB (many := (l.length : Int)) (by omega) (log2_small (by simp; omega))
  obtain ⟨j, rfl⟩ : ∃ j : Nat, r = (j : Int) := ⟨r.toNat, by omega⟩
  have hj : j < l.length := by omega
  have e2 : atI l (j : Int) = some l[j] := by rw [atI_get', List.getElem?_eq_getElem hj]
  refine ⟨l[j], M', ?_, List.getElem_mem _, h'⟩
  unfold F_any
  rw [fnOf_eq]
  simp [fnEnd, S_any, sRet, sE, eBin, eVar, look, eCall, eB, aCons, aNil, bnd, bLen, seqOf, passL, pass1, e, opIx, e2, retD]
theorem sIx63 {n : Nat} (h : n ≤ 63) : HT.sIx n n (some 63) = n := by
  have := HT.sIx_nat n n 63
  rw [show ((63 : Nat) : Int) = 63 from rfl] at this
  rw [this]; omega
theorem hand_ok (ns : List Int) (h : ns.length ≤ 63) (d : D) (hd : d = .sc ns ∨ d = .lst (ns.map D.int)) : F_hand [.d d] [] = .ok (.lst [.lst ((ns.map fun z => (z.natAbs : Int)).map D.int), .int 0, .int 0, .int (47 + 7 * (ns.length : Int)), .int 0]) [] := by
  have sl : eSl (eVar 0) oNone (oSome (eC (.int 63))) [some (.d d), none, none] [] = .ok (.d (.lst (ns.map D.int))) [] := by
    have cut : cutD (ns.map D.int) none (some 63) = ns.map D.int := by
      unfold cutD
      rw [HT.sIx_none, List.length_map, sIx63 h]
      exact List.take_of_length_le (by simp)
    rcases hd with rfl | rfl
    · simp [eSl, eVar, look, oNone, oSome, eC, bnd, opSl, cut]
    · simp [eSl, eVar, look, oNone, oSome, eC, bnd, opSl, lstOf, cut]
  have lc : fLc (iSeq true (eSl (eVar 0) oNone (oSome (eC (.int 63))))) (.one 2) [2] tYesE (eB bAbs (aCons (eB bInt (aCons (eVar 2) aNil)) aNil)) [some (.d d), none, none] [] = .ok ((ns.map D.int).map fun d => match d with | .int z => .int (z.natAbs : Int) | x => x) [] := by
    have hm : (ns.map D.int).length ≤ most := by rw [List.length_map]; unfold most; omega
    have e1 : iSeq true (eSl (eVar 0) oNone (oSome (eC (.int 63)))) [some (.d d), none, none] [] = .ok (ns.map D.int) [] := by
      simp [iSeq, sl, bnd, itemsOf]
    simp only [fLc, e1, bnd, if_pos hm]
    refine lcL_map _ _ fun x hx => ?_
    obtain ⟨z, _, rfl⟩ := List.mem_map.mp hx
    refine ⟨[some (.d d), none, some (.d (.int z))], by simp [tgE, wipeE], ?_⟩
    have : (if z < 0 then -z else z) = (z.natAbs : Int) := by split <;> omega
    simp [eB, aCons, aNil, eVar, look, bnd, bInt, bAbs, this]
  have e3 : ((ns.map D.int).map fun d => match d with | .int z => .int (z.natAbs : Int) | x => x) = (ns.map fun z => (z.natAbs : Int)).map D.int := by
    rw [List.map_map, List.map_map]; rfl
  rw [e3] at lc
  have cm : cMul 7 (ns.length : Int) := cm64 (by omega) (by omega) (by omega) (by omega)
  unfold F_hand
  rw [fnOf_eq]
  simp [fnEnd, S_hand, sSeq, sSetN, nE, eF, sE, bnd, lc, stor, optR, sRet, eLst, aCons, aNil, eVar, look, eC, eBin, opAdd, opMulA, opMul, eB, bLen, seqOf, cm, datas, retD, most]
theorem bits_abs {z : Int} (h : Builtin.Int.intBits z ≤ 1048576) : Builtin.Int.intBits (z.natAbs : Int) ≤ 1048576 := by
  unfold Builtin.Int.intBits at h ⊢
  by_cases e : z = 0
  · subst e; decide
  · have e2 : ((z.natAbs : Int) == 0) = false := by simp [e]
    have e3 : (z == 0) = false := by simp [e]
    rw [e2]; rw [e3] at h
    simpa using h
theorem eqR_bl (a b : Bool) : eqR (.d (.bl a)) (.d (.bl b)) = some (decide (a = b)) := by cases a <;> cases b <;> decide +kernel
theorem isi1 {ρ : Env} {M : Mem} {i : Nat} {x : Ev} {a b : String} (h : eVar i ρ M = .ok x M) (ht : tyN x = some a) (hb : b ∈ clNs) : eB bIsi (aCons (eVar i) (aCons (eC (.ty b)) aNil)) ρ M = .ok (bv (isOf a b)) M := by
  simp only [eB, aCons, aNil, h, bnd, eC, bIsi, ht, if_pos hb]
theorem isi2 {ρ : Env} {M : Mem} {i : Nat} {x : Ev} {a b c : String} (h : eVar i ρ M = .ok x M) (ht : tyN x = some a) (hb : b ∈ clNs) (hc : c ∈ clNs) : eB bIsi (aCons (eVar i) (aCons (eTup (aCons (eC (.ty b)) (aCons (eC (.ty c)) aNil))) aNil)) ρ M = .ok (bv (isOf a b || isOf a c)) M := by
  simp [eB, aCons, aNil, h, bnd, eC, eTup, datas, most, bIsi, ht, toTys, hb, hc]
theorem neB {f g : Sm Ev} {ρ : Env} {M : Mem} {a b : Bool} (h1 : f ρ M = .ok (bv a) M) (h2 : g ρ M = .ok (bv b) M) : tCmpE (opEq true) f g ρ M = .ok (!decide (a = b)) M := by
  simp [tCmpE, asB, eBin, h1, h2, bnd, opEq, eqR_bl]
theorem eqB {f g : Sm Ev} {ρ : Env} {M : Mem} {a b : Bool} (h1 : f ρ M = .ok (bv a) M) (h2 : g ρ M = .ok (bv b) M) : eBin (opEq false) f g ρ M = .ok (bv (decide (a = b))) M := by
  simp [eBin, h1, h2, bnd, opEq, eqR_bl]
theorem truV {f : Sm Ev} {ρ : Env} {M M' : Mem} {b : Bool} (h : f ρ M = .ok (bv b) M') : tTru f ρ M = .ok b M' := by
  simp [tTru, truB, h, bnd, truth]
theorem is_int (n : Nat) (a b : Int) (M : Mem) : R_is (n + 1) [.d (.int a), .d (.int b)] M = .ok (.bl (decide (a = b))) M := by
  show fnOf 4 (S_is (R_is n)) _ _ = _
  rw [fnOf_eq]
  have v0 : eVar 0 [some (.d (.int a)), some (.d (.int b)), none, none] M = .ok (.d (.int a)) M := rfl
  have v1 : eVar 1 [some (.d (.int a)), some (.d (.int b)), none, none] M = .ok (.d (.int b)) M := rfl
  have t1 := truV (isi2 (b := "tuple") (c := "list") v1 (a := "int") rfl (by decide) (by decide))
  have t2 : (bOr (tCmpE (opIs false) (eVar 1) (eC .non)) (tCmpE (opIs false) (eVar 0) (eC .non))) [some (.d (.int a)), some (.d (.int b)), none, none] M = .ok false M := rfl
  have t3 := neB (isi1 (b := "bool") v0 (a := "int") rfl (by decide)) (isi1 (b := "bool") v1 (a := "int") rfl (by decide))
  have t4 := neB (isi1 (b := "int") v0 (a := "int") rfl (by decide)) (isi1 (b := "int") v1 (a := "int") rfl (by decide))
  have t5 := eqB (isi1 (b := "str") v0 (a := "int") rfl (by decide)) (isi1 (b := "str") v1 (a := "int") rfl (by decide))
  rw [show (isOf "int" "tuple" || isOf "int" "list") = false by decide] at t1
  rw [show (!decide (isOf "int" "bool" = isOf "int" "bool")) = false by decide] at t3
  rw [show (!decide (isOf "int" "int" = isOf "int" "int")) = false by decide] at t4
  rw [show decide (isOf "int" "str" = isOf "int" "str") = true by decide] at t5
  show fnEnd (S_is (R_is n) [some (.d (.int a)), some (.d (.int b)), none, none] M) = _
  have t6 : eBin (opEq false) (eVar 0) (eVar 1) [some (.d (.int a)), some (.d (.int b)), none, none] M = .ok (bv (decide (a = b))) M := by rw [q_bin v0 v1]; rfl
  rw [S_is, q_nx (q_skip t1), q_nx (q_skip t2), q_nx (q_skip (by rw [q_or0 t3]; exact t4)), q_ret (x := bv (decide (a = b))) (by rw [q_eand1 t5 rfl]; exact t6) rfl]
  rfl
theorem is_tup (n : Nat) (l l' : List D) (M : Mem) (hl : l.length = l'.length) (hm : l.length ≤ most) (h : ∀ p ∈ l.zip l', R_is n [.d p.1, .d p.2] M = .ok (.bl true) M) : R_is (n + 1) [.d (.tup l), .d (.tup l')] M = .ok (.bl true) M := by
  have lc : fLc (iO (zip2 true) (aCons (eVar 0) (aCons (eVar 1) aNil))) (.many [2, 3]) [2, 3] tYesE (eCall 2 (R_is n) (aCons (eVar 2) (aCons (eVar 3) aNil))) [some (.d (.tup l)), some (.d (.tup l')), none, none] M = .ok ((zipL l l').map fun _ => .bl true) M := by
    have e1 : iO (zip2 true) (aCons (eVar 0) (aCons (eVar 1) aNil)) [some (.d (.tup l)), some (.d (.tup l')), none, none] M = .ok (zipL l l') M := by
      simp [iO, aCons, aNil, eVar, look, bnd, zip2, optR]
    have hz : (zipL l l').length ≤ most := by rw [zipL_len]; omega
    simp only [fLc, e1, bnd, if_pos hz]
    refine lcL_map _ _ fun x hx => ?_
    unfold zipL at hx
    obtain ⟨p, hp, rfl⟩ := List.mem_map.mp hx
    refine ⟨[some (.d (.tup l)), some (.d (.tup l')), some (.d p.1), some (.d p.2)], by simp [tgE, wipeE, setAllE], ?_⟩
    simp [eCall, aCons, aNil, eVar, look, bnd, passL, pass1, h p hp]
  have tb : ∀ m : List D, toBls (m.map fun _ => D.bl true) = some (m.map fun _ => true) := by
    intro m
    induction m with
    | nil => rfl
    | cons x m ih => simp [toBls, ih]
  show fnOf 4 (S_is (R_is n)) _ _ = _
  rw [fnOf_eq]
  have v0 : eVar 0 [some (.d (.tup l)), some (.d (.tup l')), none, none] M = .ok (.d (.tup l)) M := rfl
  have v1 : eVar 1 [some (.d (.tup l)), some (.d (.tup l')), none, none] M = .ok (.d (.tup l')) M := rfl
  have t1 := truV (isi2 (b := "tuple") (c := "list") v1 (a := "tuple") rfl (by decide) (by decide))
  have t3 := neB (isi1 (b := "tuple") v0 (a := "tuple") rfl (by decide)) (isi1 (b := "tuple") v1 (a := "tuple") rfl (by decide))
  have t4 := neB (isi1 (b := "list") v0 (a := "tuple") rfl (by decide)) (isi1 (b := "list") v1 (a := "tuple") rfl (by decide))
  rw [show (isOf "tuple" "tuple" || isOf "tuple" "list") = true by decide] at t1
  rw [show (!decide (isOf "tuple" "tuple" = isOf "tuple" "tuple")) = false by decide] at t3
  rw [show (!decide (isOf "tuple" "list" = isOf "tuple" "list")) = false by decide] at t4
  have t5 : eBin (opEq false) (eB bLen (aCons (eVar 0) aNil)) (eB bLen (aCons (eVar 1) aNil)) [some (.d (.tup l)), some (.d (.tup l')), none, none] M = .ok (bv true) M := by
    simp [eBin, eB, aCons, aNil, v0, v1, bnd, bLen, seqOf, opEq, eqR, hl]
  show fnEnd (S_is (R_is n) [some (.d (.tup l)), some (.d (.tup l')), none, none] M) = _
  have t6 : eB bAll (aCons (eF (fLc (iO (zip2 true) (aCons (eVar 0) (aCons (eVar 1) aNil))) (.many [2, 3]) [2, 3] tYesE (eCall 2 (R_is n) (aCons (eVar 2) (aCons (eVar 3) aNil))))) aNil) [some (.d (.tup l)), some (.d (.tup l')), none, none] M = .ok (bv true) M := by
    have e1 : eF (fLc (iO (zip2 true) (aCons (eVar 0) (aCons (eVar 1) aNil))) (.many [2, 3]) [2, 3] tYesE (eCall 2 (R_is n) (aCons (eVar 2) (aCons (eVar 3) aNil)))) [some (.d (.tup l)), some (.d (.tup l')), none, none] M = .ok (.d (.lst ((zipL l l').map fun _ => .bl true))) M := by
      simp only [eF, lc, bnd]
    rw [q_B (q_cons e1 rfl)]
    simp [bAll, blsOf, lstOf, tb]
  rw [S_is, q_rt (d := .bl true) (M' := M) (by rw [q_if1 t1, q_nx (q_skip (by rw [q_or0 t3]; exact t4)), q_ret (x := bv true) (by rw [q_eand1 t5 rfl]; exact t6) rfl])]
  rfl
theorem is_lst (n : Nat) (l l' : List D) (M : Mem) (hl : l.length = l'.length) (hm : l.length ≤ most) (h : ∀ p ∈ l.zip l', R_is n [.d p.1, .d p.2] M = .ok (.bl true) M) : R_is (n + 1) [.d (.lst l), .d (.lst l')] M = .ok (.bl true) M := by
  have lc : fLc (iO (zip2 true) (aCons (eVar 0) (aCons (eVar 1) aNil))) (.many [2, 3]) [2, 3] tYesE (eCall 2 (R_is n) (aCons (eVar 2) (aCons (eVar 3) aNil))) [some (.d (.lst l)), some (.d (.lst l')), none, none] M = .ok ((zipL l l').map fun _ => .bl true) M := by
    have e1 : iO (zip2 true) (aCons (eVar 0) (aCons (eVar 1) aNil)) [some (.d (.lst l)), some (.d (.lst l')), none, none] M = .ok (zipL l l') M := by
      simp [iO, aCons, aNil, eVar, look, bnd, zip2, itemsOf, optR]
    have hz : (zipL l l').length ≤ most := by rw [zipL_len]; omega
    simp only [fLc, e1, bnd, if_pos hz]
    refine lcL_map _ _ fun x hx => ?_
    unfold zipL at hx
    obtain ⟨p, hp, rfl⟩ := List.mem_map.mp hx
    refine ⟨[some (.d (.lst l)), some (.d (.lst l')), some (.d p.1), some (.d p.2)], by simp [tgE, wipeE, setAllE], ?_⟩
    simp [eCall, aCons, aNil, eVar, look, bnd, passL, pass1, h p hp]
  have tb : ∀ m : List D, toBls (m.map fun _ => D.bl true) = some (m.map fun _ => true) := by
    intro m
    induction m with
    | nil => rfl
    | cons x m ih => simp [toBls, ih]
  show fnOf 4 (S_is (R_is n)) _ _ = _
  rw [fnOf_eq]
  have v0 : eVar 0 [some (.d (.lst l)), some (.d (.lst l')), none, none] M = .ok (.d (.lst l)) M := rfl
  have v1 : eVar 1 [some (.d (.lst l)), some (.d (.lst l')), none, none] M = .ok (.d (.lst l')) M := rfl
  have t1 := truV (isi2 (b := "tuple") (c := "list") v1 (a := "list") rfl (by decide) (by decide))
  have t3 := neB (isi1 (b := "tuple") v0 (a := "list") rfl (by decide)) (isi1 (b := "tuple") v1 (a := "list") rfl (by decide))
  have t4 := neB (isi1 (b := "list") v0 (a := "list") rfl (by decide)) (isi1 (b := "list") v1 (a := "list") rfl (by decide))
  rw [show (isOf "list" "tuple" || isOf "list" "list") = true by decide] at t1
  rw [show (!decide (isOf "list" "tuple" = isOf "list" "tuple")) = false by decide] at t3
  rw [show (!decide (isOf "list" "list" = isOf "list" "list")) = false by decide] at t4
  have t5 : eBin (opEq false) (eB bLen (aCons (eVar 0) aNil)) (eB bLen (aCons (eVar 1) aNil)) [some (.d (.lst l)), some (.d (.lst l')), none, none] M = .ok (bv true) M := by
    simp [eBin, eB, aCons, aNil, v0, v1, bnd, bLen, seqOf, opEq, eqR, hl]
  show fnEnd (S_is (R_is n) [some (.d (.lst l)), some (.d (.lst l')), none, none] M) = _
  have t6 : eB bAll (aCons (eF (fLc (iO (zip2 true) (aCons (eVar 0) (aCons (eVar 1) aNil))) (.many [2, 3]) [2, 3] tYesE (eCall 2 (R_is n) (aCons (eVar 2) (aCons (eVar 3) aNil))))) aNil) [some (.d (.lst l)), some (.d (.lst l')), none, none] M = .ok (bv true) M := by
    have e1 : eF (fLc (iO (zip2 true) (aCons (eVar 0) (aCons (eVar 1) aNil))) (.many [2, 3]) [2, 3] tYesE (eCall 2 (R_is n) (aCons (eVar 2) (aCons (eVar 3) aNil)))) [some (.d (.lst l)), some (.d (.lst l')), none, none] M = .ok (.d (.lst ((zipL l l').map fun _ => .bl true))) M := by
      simp only [eF, lc, bnd]
    rw [q_B (q_cons e1 rfl)]
    simp [bAll, blsOf, lstOf, tb]
  rw [S_is, q_rt (d := .bl true) (M' := M) (by rw [q_if1 t1, q_nx (q_skip (by rw [q_or0 t3]; exact t4)), q_ret (x := bv true) (by rw [q_eand1 t5 rfl]; exact t6) rfl])]
  rfl
end DL

set_option Elab.async false
set_option linter.all false
set_option maxRecDepth 100000
set_option maxHeartbeats 2000000
/-! The data layer: texts, constants of the module, wider targets. -/
namespace DL
open PySem PySem.Spec PyProof.Rows L2
section
variable {X : Cx} {T : List (Addr × Str)} {W : WX} {a b c e o : Expr} {es : List Expr} {tg : Expr} {pos p : Pos} {f g : Sm Ev} {fs : Sm (List Ev)} {k : Bool}
/-- a whole number of the module -/
theorem de_gint {x : Str} {i : Int} (hg : Gl X x) (hm : ∃ t, X.mg x = some (.int i t)) (hd : (x == ("__debug__" : Str)) = false := by decide) : PE X (.Name x pos) (tE (cf X T W) (eC (.int i))) := by
  obtain ⟨t, hm⟩ := hm
  exact de_glob (v := .int i) hg hm ⟨t, rfl⟩ (fun _ _ _ => rfl) hd
/-- a text of the module -/
theorem de_gstr {x z : Str} (hg : Gl X x) (hm : ∃ t, X.mg x = some (.str z t)) (hd : (x == ("__debug__" : Str)) = false := by decide) : PE X (.Name x pos) (tE (cf X T W) (eC (.str z))) := by
  obtain ⟨t, hm⟩ := hm
  exact de_glob (v := .str z) hg hm ⟨t, rfl⟩ (fun _ _ _ => rfl) hd
/-- texts of a list -/
def toStrs : List D → Option (List Str)
  | [] => some []
  | .str s :: l => (toStrs l).map (s :: ·)
  | _ => none
theorem strs_at {K : PySem.W.Frag} {A m : List Addr} {H : Hp} : ∀ {l : List D} {ys : List Str} {vs : List V}, toStrs l = some ys → Rps K A m H l vs → vs = ys.map V.str
  | [], _, _, h, r => by cases h; exact r
  | .str s :: l, ys, _, h, ⟨v, r, e, h1, h2⟩ => by
    unfold toStrs at h
    cases q : toStrs l with
    | none => rw [q] at h; cases h
    | some zs =>
      rw [q] at h; cases h
      rw [e, show v = V.str s from h1, strs_at q h2]; rfl
  | .non :: _, _, _, h, _ => by cases h
  | .bl _ :: _, _, _, h, _ => by cases h
  | .int _ :: _, _, _, h, _ => by cases h
  | .ty _ :: _, _, _, h, _ => by cases h
  | .at _ :: _, _, _, h, _ => by cases h
  | .ob _ :: _, _, _, h, _ => by cases h
  | .sc _ :: _, _, _, h, _ => by cases h
  | .tup _ :: _, _, _, h, _ => by cases h
  | .lst _ :: _, _, _, h, _ => by cases h
  | .dK _ _ :: _, _, _, h, _ => by cases h
  | .dT _ _ :: _, _, _, h, _ => by cases h
def joinO (x y : Ev) : Option Str := match x, seqOf y with
  | .d (.str a), some l => match toStrs l with
    | some ys => if (ys.map (·.length)).sum + ys.length * a.length ≤ most then some (Txt.join a ys) else none
    | none => none
  | _, _ => none
def eJoin (f g : Sm Ev) : Sm Ev := fun ρ M => bnd (f ρ M) fun x M1 => match x with
  | .d (.str a) => bnd (g ρ M1) fun y M2 => match joinO (.d (.str a)) y with
    | some z => .ok (.d (.str z)) M2
    | none => .stuck
  | _ => .stuck
theorem de_join {apos : Pos} (ho : PE X o (tE (cf X T W) f)) (he : PE X e (tE (cf X T W) g)) (hs : starEach [e] X.env = [(false, eval e X.env)] := by rfl) (hbase : attributeBase o "join" X.env (eval o X.env) = eval o X.env := by rfl) (hline : (apos.endLine == pos.line) = true := by rfl) :
    PE X (.Call (.Attribute o "join" apos) [e] [] pos) (tE (cf X T W) (eJoin f g)) := by
  refine ⟨fun pins s σ H Q I q => (pe_join ho he hs hbase hline).run pins s σ H Q I ?_⟩
  obtain ⟨H0, A, m, M, ρ, P, F, q⟩ := q
  refine sub F q fun x M1 H1 v F1 _ r1 q1 => ?_
  split at q1
  · rename_i a0
    have ev : v = V.str a0 := r1
    refine ⟨⟨a0, ev⟩, ?_⟩
    refine sub F1 q1 fun y M2 H2 w F2 s2 r2 q2 => ?_
    split at q2
    · rename_i z hz
      unfold joinO at hz
      split at hz
      · rename_i a1 l e1 hl
        cases e1
        split at hz
        · rename_i ys hy
          split at hz
          · rename_i hc
            cases hz
            obtain ⟨p0, vs, ew, hq, r⟩ := seqOf_at hl r2
            have evs := strs_at hy r
            subst evs
            exact ⟨_, p0, ys, ev, by rw [ew], hq, by unfold most at hc; omega, q2.fin F2 rfl⟩
          · cases hz
        · cases hz
      · cases hz
    · exact q2.elim
  · exact q1.elim
/-- x[a:b], texts too -/
def opSlS (x : Ev) (lo hi : Option Int) (M : Mem) : R Ev := match x with
  | .d (.str z) => if z.length ≤ most then .ok (.d (.str (cutS z lo hi))) M else .stuck
  | x => opSl x lo hi M
theorem ok_slS : SOk (cf X T W) opSlS (fun x lo hi H Q => rSlS x lo hi H Q ∨ (rSlL X.K x lo hi H Q ∨ rSlA X.K x lo hi H Q)) := by
  intro H0 A m M H ρ σ P x v lo hi Q F r h
  unfold opSlS at h
  split at h
  · rename_i z
    split at h
    · rename_i hc
      exact .inl ⟨z, r, most_line hc, h.fin F rfl⟩
    · exact h.elim
  · exact .inr (ok_sl H0 A m M H ρ σ P _ v lo hi Q F r h)
def eSlS (f : Sm Ev) (lo hi : Sm (Option Int)) : Sm Ev := fun ρ M => bnd (f ρ M) fun x M1 => bnd (lo ρ M1) fun i M2 => bnd (hi ρ M2) fun j M3 => opSlS x i j M3
theorem de_slS {lo hi : Option Expr} {ol oh : Sm (Option Int)} {p2 : Pos} (ha : PE X a (tE (cf X T W) f)) (hl : PO X lo (tOI (cf X T W) ol)) (hh : PO X hi (tOI (cf X T W) oh)) : PE X (.Subscript a (.Slice lo hi none p2) pos) (tE (cf X T W) (eSlS f ol oh)) := by
  refine ⟨fun pins s σ H Q I q => (pe_slice (sl_str.or sl_A) ha hl hh).run pins s σ H Q I ?_⟩
  obtain ⟨H0, A, m, M, ρ, P, F, q⟩ := q
  refine sub F q fun x M1 H1 v F1 _ r1 q1 => ?_
  refine sub F1 q1 fun i M2 H2 i' F2 s2 r2 q2 => ?_
  refine sub F2 q2 fun j M3 H3 j' F3 s3 r3 q3 => ?_
  cases (show i = i' from r2)
  cases (show j = j' from r3)
  exact ok_slS H0 A m M3 H3 ρ σ P x v i j Q F3 (EvR.step F2.wr.aok F2.ma s3 (EvR.step F1.wr.aok F1.ma s2 r1)) q3
/-- the signs of a text -/
def chars (z : Str) : List D := z.cps.toList.map fun c => .str ⟨#[c]⟩
def iStrS (f : Sm Ev) : Sm (List D) := fun ρ M => bnd (f ρ M) fun x M1 => match x with
  | .d (.str z) => .ok (chars z) M1
  | _ => .stuck
theorem di_str (ha : PE X e (tE (cf X T W) f)) : PI X tg e (tI (cf X T W) k (iStrS f)) := by
  refine ⟨fun pins s σ H G I q => (pi_str ha).run pins s σ H G I ?_⟩
  obtain ⟨H0, A, m, M, ρ, P, F, q⟩ := q
  refine subI F q fun x M1 H1 v F1 r1 q1 => ?_
  by_cases hx : ∃ z, x = .d (.str z)
  · obtain ⟨z, rfl⟩ := hx
    refine ⟨z, r1, q1 _ H1 (Stp.refl _ _) F1.wr F1.tb ⟨fun A' H2 _ i d hd => ?_, fun A' H2 _ => ?_⟩⟩
    · unfold chars at hd
      rw [List.getElem?_map] at hd
      cases hq : z.cps.toList[i]? with
      | none => rw [hq] at hd; cases hd
      | some c =>
        rw [hq] at hd; cases hd
        refine ⟨by have := (List.getElem?_eq_some_iff.mp hq).1; show i < z.cps.size; simpa using this, fun y H3 hy => ?_⟩
        obtain ⟨e1, c', e2, e3⟩ := hy
        rw [← Array.getElem?_toList, hq] at e2
        cases e2
        exact ⟨.inl e1, e3⟩
    · show z.cps.size ≤ (chars z).length
      unfold chars; simp
  · exfalso
    revert q1
    cases x with
    | d x => cases x with
      | str z => exact (hx ⟨z, rfl⟩).elim
      | _ => exact fun h => h.elim
    | _ => exact fun h => h.elim
/-! many names at once, some of own lists -/
def gNames : List Nat → TGs
  | [] => gNil
  | i :: is => gCons (gName i) (gNames is)
theorem gNames_run {Q : L2.St → Hp → Prop} : ∀ {is : List Nat} {vs : List V} {σ : L2.St} {H : Hp}, vs.length = is.length → Q (setAll σ is vs) H → gNames is vs σ H Q
  | [], [], _, _, _, h => ⟨rfl, h⟩
  | [], _ :: _, _, _, e, _ => by cases e
  | _ :: _, [], _, _, e, _ => by cases e
  | i :: is, v :: vs, σ, H, e, h => ⟨v, vs, rfl, gNames_run (is := is) (by simpa using e) h⟩
theorem parG_run {C : Cf} {fs : Sm (List Ev)} {is : List Nat} {σ : L2.St} {H : Hp} {Dn : Ends} (q : tS C (sParN is fs) Dn σ H) (hb : is.length ≤ sizeLine) : tAsg (tTup (tNs C fs)) (gTup C.K is.length (gNames is)) Dn σ H := by
  obtain ⟨H0, A, m, M, ρ, P, F, q⟩ := q
  refine ⟨H0, A, m, M, ρ, P, F, ?_⟩
  unfold sParN at q
  cases e1 : fs ρ M with
  | stuck => rw [e1] at q; exact q.elim
  | exc c g M1 =>
    rw [e1] at q
    exact fun H' cls d s w t x => q A H' σ P cls d (Ext.step s F.ma) (F.step s w t) x
  | ok xs M1 =>
    rw [e1] at q
    intro A1 P1 H1 vs r1 w1 t1 k1 x1 n1 h1
    have F1 := F.gro r1 w1 t1 k1
    have q' : PZ C H0 A m H (if xs.length = is.length ∧ ∀ i ∈ is, i < ρ.length then .nx (setEvs ρ is xs) M1 else .stuck) Dn := q
    by_cases hi : xs.length = is.length ∧ ∀ i ∈ is, i < ρ.length
    · rw [if_pos hi] at q'
      obtain ⟨P', F'⟩ := FR.setNs F1 x1 n1 (fun p hp => ⟨(h1 p hp).1, (F.not_live (h1 p hp).2).2.1, (F.not_live (h1 p hp).2).2.2.2, (F.not_live (h1 p hp).2).2.2.1⟩) hi.2
      have el : vs.length = is.length := by rw [SlRs.len x1]; exact hi.1
      refine ⟨by rw [el]; exact hb, fun p hp => ⟨p, vs, rfl, SqT.of upd_same, el, gNames_run el ?_⟩⟩
      exact q' A1 _ _ P' ⟨fun a h _ => r1.2.1 a h, r1.1, (r1.2.2.mono F.ma).trans (Stp.upd hp)⟩ (F'.grow hp)
    · rw [if_neg hi] at q'; exact q'.elim
theorem ds_parG {is : List Nat} {ts : List Expr} {kt k2 : Nat} {pt pt2 : Pos} (hc : X.calm = true) (ha : PA X es (tNs (cf X T W) fs)) (hg : PGs X ts (gNames is)) (hb : is.length ≤ sizeLine := by decide)
    (hn : (assignEach ts X.env).length = is.length := by rfl) (hst : (assignEach ts X.env).findIdx? (·.1) = none := by rfl)
    (hs : swapsWithSole [.Tuple ts kt pt] (.Tuple es k2 pt2) pos.line X.env = pure false := by rfl) (hw : swappedStores [.Tuple ts kt pt] (.Tuple es k2 pt2) X.env = pure none := by rfl) :
    PS X (.Assign [.Tuple ts kt pt] (.Tuple es k2 pt2) pos) (tS (cf X T W) (sParN is fs)) :=
  ⟨fun pins s σ H Dn I q => (ps_asg (pe_tup ha) (pg_tup hc hg hn hst) hs hw).run pins s σ H Dn I (parG_run q hb)⟩
/-! a text so many times -/
def repS (z : Str) (k : Int) : Str := ⟨(List.replicate k.toNat z.cps).foldl (· ++ ·) #[]⟩
theorem rep_size {z : Array Nat} : ∀ {n : Nat} {acc : Array Nat}, ((List.replicate n z).foldl (· ++ ·) acc).size = acc.size + n * z.size
  | 0, acc => by simp
  | n + 1, acc => by rw [List.replicate_succ, List.foldl_cons, rep_size, Array.size_append, Nat.succ_mul]; omega
theorem op_mulS : OpR X (binaryOp .Mult) (fun x y H Q => ∃ z k, x = .str z ∧ y = .int k ∧ 1 ≤ k ∧ k ≤ 1000000 ∧ z.length * k.toNat ≤ sizeLine ∧ Q (.str (repS z k)) H) := by
  intro pins s σ H x y v u Q I rx ry h
  obtain ⟨z, k, rfl, rfl, k1, k2, hz, q⟩ := h
  obtain ⟨t, rfl⟩ := rx
  obtain ⟨t', rfl⟩ := ry
  have hlen : (z.length * k.toNat : Nat) ≤ 16777216 := by unfold sizeLine at hz; exact hz
  refine P.mul_str ?_ (fun _ _ hc => ?_) (fun _ _ => ?_) ?_
  · simp; omega
  · have h2 : (z.length : Int) ≤ 16777216 := by
      have : z.length ≤ z.length * k.toNat := Nat.le_mul_of_pos_right _ (by omega)
      omega
    have h3 : (9223372036854 : Int) ≤ (2 ^ 63 - 1) / k := Int.le_ediv_of_mul_le (by omega) (by omega)
    omega
  · simp [Builtin.Str.tooLong]; exact hz
  · rw [if_neg (by omega)]
    split
    · rename_i h1
      have e : z = repS z k := by
        rcases (by simpa using h1 : k = 1 ∨ z.length = 0) with rfl | e0
        · unfold repS; simp
        · have : z.cps = #[] := by
            apply Array.eq_empty_of_size_eq_zero; exact e0
          unfold repS
          cases z
          simp at this; subst this
          congr
          generalize k.toNat = n
          induction n with
          | zero => rfl
          | succ n ih => rw [List.replicate_succ]; simpa using ih
      exact ⟨.str (repS z k), H, I, ⟨t, by rw [← e]⟩, q⟩
    · refine ⟨?_, .str (repS z k), H, I.tok _, ⟨_, rfl⟩, q⟩
      rw [show Str.length ⟨(List.replicate k.toNat z.cps).foldl (· ++ ·) #[]⟩ = ((List.replicate k.toNat z.cps).foldl (· ++ ·) #[]).size from rfl, rep_size]
      show #[].size + k.toNat * z.cps.size ≤ sizeLine
      rw [Nat.mul_comm]; show 0 + z.length * k.toNat ≤ sizeLine; omega
def opMulS (a b : Ev) (M : Mem) : R Ev := match a, b with
  | .d (.str z), .d (.int k) => if 1 ≤ k ∧ k ≤ 1000000 ∧ z.length * k.toNat ≤ most then .ok (.d (.str (repS z k))) M else .stuck
  | a, b => opMulA a b M
theorem de_mulS (ha : PE X a (tE (cf X T W) f)) (hb : PE X b (tE (cf X T W) g)) : PE X (.BinOp a .Mult b pos) (tE (cf X T W) (eBin opMulS f g)) := by
  refine ⟨fun pins s σ H Q I q => (pe_op (op_mulS.or ((op_rep1.or op_repT).or op_mulA)) ha hb).run pins s σ H Q I (tE_bin ?_ q)⟩
  intro H0 A m M H ρ σ P x y v w Q F rx ry h
  unfold opMulS at h
  split at h
  · rename_i z k
    split at h
    · rename_i hc
      exact .inl ⟨z, k, rx, ry, hc.1, hc.2.1, most_line hc.2.2, h.fin F rfl⟩
    · exact h.elim
  · exact .inr (ok_mulA H0 A m M H ρ σ P _ _ v w Q F rx ry h)
/-! a + b, a list of one's own -/
def catL (a b : Ev) : Option (List D) := match lstOf a, lstOf b with
  | some l, some l' => if l.length + l'.length ≤ most then some (l ++ l') else none
  | _, _ => none
def fCat (f g : Sm Ev) : Sm (List D) := fun ρ M => bnd (f ρ M) fun a M1 => bnd (g ρ M1) fun b M2 => optR (catL a b) M2
theorem df_cat (ha : PE X a (tE (cf X T W) f)) (hb : PE X b (tE (cf X T W) g)) : PE X (.BinOp a .Add b pos) (tF (cf X T W) (fCat f g)) := by
  refine ⟨fun pins s σ H Q I q => (pe_op op_cat ha hb).run pins s σ H Q I ?_⟩
  obtain ⟨H0, A, m, M, ρ, P, F, q⟩ := q
  refine subF F q fun x M1 H1 v F1 s1 r1 q1 => ?_
  have q1' : match bnd (g ρ M1) (fun b M2 => optR (catL x b) M2) with
      | .ok l M' => ∀ H' p vs, Stp m H1 H' → WR X.K m M' H' → LamX.Tabs T H' → ¬ Lv H1 p → H' p = some (.lst vs) → Rps X.K (p :: A) m H' l vs → Q (.ref p) H'
      | .exc c g M' => ∀ H' cls d, Stp m H1 H' → WR X.K m M' H' → LamX.Tabs T H' → XR X.mg H' c g cls d → W cls d σ H'
      | .stuck => False := by
    cases e : bnd (g ρ M1) (fun b M2 => optR (catL x b) M2) with
    | stuck => rw [e] at q1; exact q1
    | exc c g M' => rw [e] at q1; exact fun H' cls d s w t x => q1 H' cls d (s1.trans s) w t x
    | ok l M' =>
      rw [e] at q1
      exact fun H' p vs s w t n hp r => q1 H' p vs (s1.trans s) w t (fun z => by
        by_cases hm : p ∈ m
        · obtain ⟨o, e, mu⟩ := F1.wr.aok p hm; exact n ⟨o, e, muta_tbl mu⟩
        · exact n (s1.lv z hm)) hp r
  refine subF F1 q1' fun y M2 H2 w F2 s2 r2 q2 => ?_
  have r1' := EvR.step F1.wr.aok F1.ma s2 r1
  cases e : catL x y with
  | none => rw [e] at q2; exact q2.elim
  | some l =>
    rw [e] at q2
    unfold catL at e
    split at e
    · rename_i l1 l2 e1 e2
      split at e
      · rename_i hc
        cases e
        obtain ⟨a, vs, ea, hs, k1⟩ := lstOf_at e1 r1'
        obtain ⟨b, ws, eb, ht, k2⟩ := lstOf_at e2 r2
        exact ⟨a, b, vs, ws, ea, eb, hs, ht, by rw [Rps.len k1, Rps.len k2]; exact most_line hc, fun p hp => mk_new F1 F2 s2 (Rps.app k1 k2) hp q2⟩
      · cases e
    · cases e
end
end DL

set_option Elab.async false
set_option linter.all false
set_option maxRecDepth 100000
set_option maxHeartbeats 2000000
/-! The data layer: for .. in a list of one's own: if ..: return .. -/
namespace DL
open PySem PySem.Spec PyProof.Rows L2
section
variable {X : Cx} {T : List (Addr × Str)} {W : WX} {c iter tg : Expr} {p : List Stmt} {pos pos2 : Pos} {tc : Sm Bool} {fr : Ss}
def rtOnly : SR → SR
  | .rt d M' => .rt d M'
  | _ => .stuck
def forI (g : Tgt) (tc : Sm Bool) (fr : Ss) : List D → Ss
  | [] => fun ρ M => .nx ρ M
  | d :: r => fun ρ M => match tgE g ρ d with
    | some ρ1 => match tc ρ1 M with
      | .ok true M1 => rtOnly (fr ρ1 M1)
      | .ok false M1 => forI g tc fr r ρ1 M1
      | _ => .stuck
    | none => .stuck
def sForI (it : Sm (List D)) (g : Tgt) (tc : Sm Bool) (fr : Ss) : Ss := fun ρ M => sE (it ρ M) ρ fun items M1 => forI g tc fr items ρ M1
theorem ds_forI {it : Sm (List D)} {g : Tgt} (hp : PassesOwn (model X.prog X.w) X.A X.env X.xe) (hcalm : X.calm = true) (hi : PI X tg iter (tI (cf X T W) true it)) (hg : PG X tg (tgG X.K g)) (hc : PT X c (tT (cf X T W) tc)) (hb : PSs X p (tS (cf X T W) fr))
    (hs : ∀ x, foldedSetIterable iter X.env x = pure x := by intro _; rfl) : PS X (.For tg iter [.If c p [] pos2] [] pos) (tS (cf X T W) (sForI it g tc fr)) := by
  refine ⟨fun pins s σ H D I q => (ps_for hp hcalm hi hg (pss_one (ps_if hc hb pss_nil)) hs).run pins s σ H D I ?_⟩
  obtain ⟨H0, A, m, M, ρ, P, F, q⟩ := q
  refine ⟨H0, A, m, M, ρ, P, F, ?_⟩
  unfold sForI at q
  cases e : it ρ M with
  | stuck => rw [e] at q; exact q.elim
  | exc c g M1 =>
    rw [e] at q
    exact fun H1 cls d s w t x => q A H1 σ P cls d (Ext.step s F.ma) (F.step s w t) x
  | ok items M1 =>
    rw [e] at q
    intro J H1 s w t K
    have F1 := F.step s w t
    have q1 : PZ (cf X T W) H0 A m H1 (forI g tc fr items ρ M1) D := PZ.step (Ext.step s F.ma) q
    refine ⟨fun i k σ2 H2 => k + i = items.length ∧ ∃ M2 ρ2 P2, Stp m H1 H2 ∧ FR (cf X T W) H0 A m M2 H2 ρ2 σ2 P2 ∧ PZ (cf X T W) H0 A m H2 (forI g tc fr (items.drop i) ρ2 M2) D,
      ⟨items.length, by simp, M1, ρ, P, Stp.refl _ _, F1, by simpa using q1⟩, fun i k σ2 H2 h => ?_⟩
    obtain ⟨hk, M2, ρ2, P2, x2, F2, q2⟩ := h
    have hr : RchC A m H1 A H2 := ⟨fun a h => .inl h, fun a h => h, x2⟩
    cases k with
    | zero =>
      have hi : i = items.length := by omega
      subst hi
      rw [List.drop_length] at q2
      exact .inl ⟨K.stop A H2 hr, q2 A H2 σ2 P2 Ext.refl F2⟩
    | succ k =>
      have hi : i < items.length := by omega
      have ed : items.drop i = items[i] :: items.drop (i + 1) := List.drop_eq_getElem_cons hi
      rw [ed] at q2
      obtain ⟨hgo, hy⟩ := K.go A H2 hr i items[i] (List.getElem?_eq_getElem hi)
      refine .inr ⟨hgo, fun σ' H' => ∃ M3 ρ3 P3, Stp m H1 H' ∧ FR (cf X T W) H0 A m M3 H' ρ3 σ' P3 ∧ PZ (cf X T W) H0 A m H' (forI g tc fr (items.drop (i + 1)) ρ3 M3) D, fun σ' H' h => ⟨k, Nat.lt_succ_self k, by omega, h⟩, fun v H3 hv => ?_⟩
      obtain ⟨h3, r3⟩ := hy v H3 hv
      have F3 : FR (cf X T W) H0 A m M2 H3 ρ2 σ2 P2 ∧ Stp m H2 H3 := by
        rcases h3 with rfl | ⟨p, o, hp, rfl⟩
        · exact ⟨F2, Stp.refl _ _⟩
        · exact ⟨F2.grow hp, Stp.upd hp⟩
      have q3 := PZ.step (Ext.step F3.2 F2.ma) q2
      unfold forI at q3
      split at q3
      · rename_i ρ3 h3
        refine tg_run F3.1 r3 h3 fun σ' P' F' => ?_
        refine ⟨H0, A, m, M2, ρ3, P', F', ?_⟩
        cases e4 : tc ρ3 M2 with
        | stuck => rw [e4] at q3; exact q3.elim
        | exc c g M4 => rw [e4] at q3; exact q3.elim
        | ok b M4 =>
          rw [e4] at q3
          intro H4 v4 s4 w4 t4 r4
          cases (show b = v4 from r4)
          have F4 := F'.step s4 w4 t4
          cases b with
          | true =>
            refine ⟨H0, A, m, M4, ρ3, P', F4, ?_⟩
            have q4 : PZ (cf X T W) H0 A m H4 (rtOnly (fr ρ3 M4)) D := PZ.step (Ext.step s4 F'.ma) q3
            cases e5 : fr ρ3 M4 with
            | rt d M5 => rw [e5] at q4; exact q4
            | nx _ _ => rw [e5] at q4; exact q4.elim
            | bk _ _ => rw [e5] at q4; exact q4.elim
            | ct _ _ => rw [e5] at q4; exact q4.elim
            | exc _ _ _ _ => rw [e5] at q4; exact q4.elim
            | stuck => rw [e5] at q4; exact q4.elim
          | false =>
            exact ⟨M4, ρ3, P', (x2.trans F3.2).trans s4, F4, PZ.step (Ext.step s4 F'.ma) q3⟩
      · exact q3.elim
theorem forI_inv {g : Tgt} {tc : Sm Bool} {fr : Ss} (Inv : Nat → Env → Mem → Prop) : ∀ (items : List D) (k : Nat) (ρ : Env) (M : Mem),
    (∀ i d ρ M, items[i]? = some d → Inv (k + i) ρ M → ∃ ρ1 M', tgE g ρ d = some ρ1 ∧ tc ρ1 M = .ok false M' ∧ Inv (k + i + 1) ρ1 M') → Inv k ρ M → ∃ ρ' M', forI g tc fr items ρ M = .nx ρ' M' ∧ Inv (k + items.length) ρ' M'
  | [], k, ρ, M, _, h => ⟨ρ, M, rfl, h⟩
  | d :: r, k, ρ, M, hs, h => by
    obtain ⟨ρ1, M', e1, e2, h'⟩ := hs 0 d ρ M rfl h
    obtain ⟨ρ2, M2, e3, h2⟩ := forI_inv (fr := fr) Inv r (k + 1) ρ1 M' (fun i d ρ M hd hi => by
      have := hs (i + 1) d ρ M (by simpa using hd) (by rw [show k + (i + 1) = k + 1 + i by omega]; exact hi)
      rw [show k + (i + 1) + 1 = k + 1 + i + 1 by omega] at this
      exact this) h'
    refine ⟨ρ2, M2, ?_, by rw [List.length_cons, show k + (r.length + 1) = k + 1 + r.length by omega]; exact h2⟩
    simp only [forI, e1, e2, e3]
end
end DL

set_option Elab.async false
set_option linter.all false
set_option maxRecDepth 100000
set_option maxHeartbeats 2000000
/-! The data layer: own lists that are written no more; extend; lists compared; a dict of constants. -/
namespace DL
open PySem PySem.Spec PyProof.Rows L2
section
variable {X : Cx} {T : List (Addr × Str)} {W : WX} {st : Stmt} {a b c e : Expr} {es : List Expr} {pos p p2 : Pos} {f g : Ss} {fe : Sm Ev}
variable {K : PySem.W.Frag} {H0 H : Hp} {A A' m : List Addr}
theorem ER.frz : ∀ {ρ : Env} {σ : L2.St} {P : List Addr} {j : Nat} {l : List D}, ER K H0 A m H ρ σ P → P.Nodup → ρ[j]? = some (some (.ls .own l)) →
    ∃ a P', a ∈ P ∧ P'.Nodup ∧ (∀ x ∈ P', x ∈ P) ∧ a ∉ P' ∧ ∀ A', (∀ x ∈ A', x ∈ A) → a ∉ A' → ER K H0 A' m H (ρ.set j (some (.d (.lst l)))) σ P'
  | [], _, _, j, _, _, _, e => by simp at e
  | none :: ρ, σ, P, 0, _, _, _, e => by simp at e
  | none :: ρ, σ, P, j + 1, l, ⟨y, τ, eσ, h⟩, nd, e => by
    obtain ⟨a, P', h1, h2, h3, h4, h5⟩ := ER.frz (j := j) h nd (by simpa using e)
    exact ⟨a, P', h1, h2, h3, h4, fun A' k1 k2 => ⟨y, τ, eσ, h5 A' k1 k2⟩⟩
  | some z :: ρ, σ, P, 0, l, ⟨w, τ, P1, P2, eσ, eP, h1, h2⟩, nd, e => by
    simp at e; subst e
    obtain ⟨a, vs, ew, ha, e1, r⟩ := h1
    subst e1; subst eP
    have nd' := List.nodup_cons.mp nd
    exact ⟨a, P2, List.mem_cons_self, nd'.2, fun x hx => List.mem_cons_of_mem _ hx, nd'.1, fun A' k1 k2 => ⟨w, τ, [], P2, eσ, rfl, ⟨rfl, a, vs, ew, ha, k2, Rps.avoid (fun x hx => .inl (k1 x hx)) _ _ r⟩, ER.avoid (fun x hx => .inl (k1 x hx)) h2⟩⟩
  | some z :: ρ, σ, P, j + 1, l, ⟨w, τ, P1, P2, eσ, eP, h1, h2⟩, nd, e => by
    subst eP
    have nd' := List.nodup_append.mp nd
    obtain ⟨a, P', k1, k2, k3, k4, k5⟩ := ER.frz (j := j) h2 nd'.2.1 (by simpa using e)
    refine ⟨a, P1 ++ P', List.mem_append_right _ k1, ?_, fun x hx => ?_, fun hx => ?_, fun A' q1 q2 => ⟨w, τ, P1, P', eσ, rfl, SlR.avoid (fun x hx => .inl (q1 x hx)) h1, k5 A' q1 q2⟩⟩
    · exact List.nodup_append.mpr ⟨nd'.1, k2, fun x hx y hy => nd'.2.2 x hx y (k3 y hy)⟩
    · rcases List.mem_append.mp hx with hx | hx
      · exact List.mem_append_left _ hx
      · exact List.mem_append_right _ (k3 x hx)
    · rcases List.mem_append.mp hx with hx | hx
      · exact nd'.2.2 a hx a k1 rfl
      · exact k4 hx
/-- an own list is written no more -/
def sFz (j : Nat) : Ss := fun ρ M => match ρ[j]? with
  | some (some (.ls .own l)) => .nx (ρ.set j (some (.d (.lst l)))) M
  | _ => .stuck
theorem tS_frz {C : Cf} {j : Nat} {D : Ends} {σ : L2.St} (h : tS C (sSeq (sFz j) f) D σ H) : tS C f D σ H := by
  obtain ⟨H0, A, m, M, ρ, P, F, q⟩ := h
  unfold sSeq sFz at q
  by_cases hj : ∃ l, ρ[j]? = some (some (.ls .own l))
  · obtain ⟨l, hj⟩ := hj
    rw [hj] at q
    obtain ⟨a, P', h1, h2, h3, h4, h5⟩ := ER.frz F.er F.nd hj
    obtain ⟨o1, o2, o3⟩ := F.own a h1
    have sub : ∀ x ∈ A.filter (fun x => decide (x ≠ a)), x ∈ A := fun x hx => (List.mem_filter.mp hx).1
    have na : a ∉ A.filter (fun x => decide (x ≠ a)) := fun hx => by have := (List.mem_filter.mp hx).2; simp at this
    have inn : ∀ x ∈ A, x ≠ a → x ∈ A.filter (fun x => decide (x ≠ a)) := fun x hx ne => List.mem_filter.mpr ⟨hx, by simp [ne]⟩
    refine ⟨H0, A.filter (fun x => decide (x ≠ a)), m, M, ρ.set j (some (.d (.lst l))), P', ⟨F.wr, F.tb, h5 _ sub na, h2, fun x hx => ?_, fun x hx => inn x (F.ma x hx) fun z => o2 (by rw [← z]; exact hx), fun x hx => F.aok x (sub x hx), F.base⟩, PZ.step (Ext.less sub fun x hx lv => inn x hx fun z => o3 (by rw [← z]; exact lv)) q⟩
    obtain ⟨w1, w2, w3⟩ := F.own x (h3 x hx)
    exact ⟨inn x w1 fun z => h4 (by rw [← z]; exact hx), w2, w3⟩
  · exfalso
    revert q
    cases e : ρ[j]? with
    | none => exact fun q => q
    | some o => cases o with
      | none => exact fun q => q
      | some x => cases x with
        | ls md l => cases md with
          | own => exact (hj ⟨l, e⟩).elim
          | _ => exact fun q => q
        | _ => exact fun q => q
theorem ds_frz {j : Nat} (h : PS X st (tS (cf X T W) f)) : PS X st (tS (cf X T W) (sSeq (sFz j) f)) :=
  ⟨fun pins s σ H D I q => h.run pins s σ H D I (tS_frz q)⟩
/-- own.extend(e) -/
def extO (ρ : Env) (M : Mem) (j : Nat) (x : Ev) : SR := match lstOf x, ρ[j]? with
  | some l', some (some (.ls .own l)) => if l.length + l'.length ≤ most then .nx (ρ.set j (some (.ls .own (l ++ l')))) M else .stuck
  | _, _ => .stuck
def ownB (ρ : Env) (j : Nat) : Bool := match ρ[j]? with
  | some (some (.ls .own _)) => true
  | _ => false
def sExt (j : Nat) (fe : Sm Ev) : Ss := fun ρ M => if ownB ρ j = true then sE (fe ρ M) ρ fun x M1 => extO ρ M1 j x else .stuck
theorem ds_extend {j : Nat} {x : Str} {apos cpos : Pos} (he : PE X e (tE (cf X T W) fe)) (hN : X.N[j]? = some x := by rfl) (hv : Vis X.env.scope x := by first | exact Or.inl rfl | exact Or.inr (Or.inl rfl) | exact Or.inr (Or.inr rfl)) (hd : (x == ("__debug__" : Str)) = false := by decide)
    (hcd : (x == ("__classdict__" : Str)) = false := by decide) (hbase : attributeBase (.Name x p) "extend" X.env (eval (.Name x p) X.env) = eval (.Name x p) X.env := by rfl)
    (hfew : ((backTo cpos (starEach [e] X.env)).all (fun x => !x.1) && (backToKw cpos (keywordEach [] X.env)).all (fun x => x.1.isSome)
      && decide (([e] : List Expr).length + ([] : List Keyword).length + (if ([] : List Keyword).isEmpty then 0 else 1) < 30)) = true := by rfl)
    (hline : (apos.endLine == cpos.line) = true := by rfl) (hs : starEach [e] X.env = (false, eval e X.env) :: starEach [] X.env := by rfl) (hsw : swapsWith (.Call (.Attribute (.Name x p) "extend" apos) [e] [] cpos) none pos.line X.env = pure false := by rfl) :
    PS X (.Expr (.Call (.Attribute (.Name x p) "extend" apos) [e] [] cpos) pos) (tS (cf X T W) (sExt j fe)) := by
  refine ⟨fun pins s σ H Dn I q => (ps_expr (pe_bm PySem.F.plainAttrs_list PySem.F.slot_list_extend PySem.F.type_list_extend mt_extend (pe_var hN hv hd hcd) (pa_cons he pa_nil hs) hbase hfew hline hs rfl) hsw).run pins s σ H Dn I ?_⟩
  obtain ⟨H0, A, m, M, ρ, P, F, q⟩ := q
  have q : PZ (cf X T W) H0 A m H (if ownB ρ j = true then sE (fe ρ M) ρ fun x M1 => extO ρ M1 j x else .stuck) Dn := q
  by_cases hw : ownB ρ j = true
  · rw [if_pos hw] at q
    have first : ∃ l, ρ[j]? = some (some (.ls .own l)) := by
      unfold ownB at hw
      split at hw
      · rename_i l h; exact ⟨l, h⟩
      · cases hw
    obtain ⟨l, h⟩ := first
    obtain ⟨o, vs0, ho, hp0, _⟩ := F.ownL h
    refine ⟨_, ho, .inl ⟨rfl, vs0, SqL.of hp0⟩, ?_⟩
    refine subS F q fun y M1 H1 w F1 s1 r1 q1 => ?_
    unfold extO at q1
    rw [h] at q1
    cases hy : lstOf y with
    | none => rw [hy] at q1; exact q1.elim
    | some l' =>
      rw [hy] at q1
      have q1 : PZ (cf X T W) H0 A m H1 (if l.length + l'.length ≤ most then .nx (ρ.set j (some (.ls .own (l ++ l')))) M1 else .stuck) Dn := q1
      by_cases hc : l.length + l'.length ≤ most
      · rw [if_pos hc] at q1
        obtain ⟨bb, ws, ew, hb, r3⟩ := lstOf_at hy r1
        obtain ⟨p0, vs, e1, hp, hA, hm, r2, wt⟩ := F1.ownL h
        rw [ho] at e1; cases e1
        have F' := wt (l ++ l') (vs ++ ws) (Rps.app (Rps.self hp trivial hA r2) (Rps.self hp trivial hA r3))
        exact ⟨o, bb, vs, ws, rfl, by rw [ew], hp, hb, by rw [Rps.len r2, Rps.len r3]; exact most_line hc, q1 A _ σ P (Ext.write hA) F'⟩
      · rw [if_neg hc] at q1; exact q1.elim
  · rw [if_neg hw] at q; exact q.elim
end
end DL

set_option Elab.async false
set_option linter.all false
set_option maxRecDepth 100000
set_option maxHeartbeats 2000000
/-! The data layer: lists of ints compared; a dict of constants. -/
namespace DL
open PySem PySem.Spec PyProof.Rows L2
theorem firstLt_succ (e r : Nat → Bool) (fin : Bool) : ∀ l : List Nat, SeqAt.firstLt e r fin (l.map Nat.succ) = SeqAt.firstLt (fun j => e (j + 1)) (fun j => r (j + 1)) fin l
  | [] => rfl
  | j :: l => by
    show (if e (j + 1) = true then SeqAt.firstLt e r fin (l.map Nat.succ) else r (j + 1)) = if e (j + 1) = true then _ else _
    rw [firstLt_succ e r fin l]
theorem firstLt_ints : ∀ (ns ms : List Int), SeqAt.firstLt (fun j => decide (ns.getD j 0 = ms.getD j 0)) (fun j => decide (ns.getD j 0 < ms.getD j 0)) (decide (ns.length < ms.length)) (List.range (min ns.length ms.length)) = HT.lexLt ns ms
  | [], [] => rfl
  | [], m :: ms => by simp [SeqAt.firstLt, HT.lexLt_nil_cons]
  | n :: ns, [] => by simp [SeqAt.firstLt, HT.lexLt_cons_nil]
  | n :: ns, m :: ms => by
    rw [HT.lexLt_cons, List.length_cons, List.length_cons, Nat.succ_min_succ, List.range_succ_eq_map]
    show (if decide (n = m) = true then SeqAt.firstLt _ _ _ _ else decide (n < m)) = _
    rw [firstLt_succ]
    by_cases e : n = m
    · subst e
      rw [if_pos (by simp), if_pos rfl]
      have := firstLt_ints ns ms
      simpa using this
    · rw [if_neg (by simpa using e), if_neg e]
theorem intsAre_get : ∀ {us : List Value} {ns : List Int}, IntsAre us ns → ∀ j (h : j < us.length), ∃ t, us[j] = .int (ns.getD j 0) t
  | _, _, .nil, j, h => by simp at h
  | _, _, .cons a t r, 0, h => ⟨t, rfl⟩
  | _, _, .cons a t r, j + 1, h => by
    obtain ⟨u, e⟩ := intsAre_get r j (by simpa using h)
    exact ⟨u, by simpa using e⟩
def rLtL : R2 := fun x y H Q => ∃ a b ns ms, x = .ref a ∧ y = .ref b ∧ H a = some (.lst (ns.map V.int)) ∧ H b = some (.lst (ms.map V.int)) ∧ Q (.bl (HT.lexLt ns ms)) H
theorem op_ltL {X : Cx} (hu : X.A.units < cLine) : OpR X (compareOp .Lt) rLtL := by
  intro pins s σ H x y v u Q I rx ry h
  obtain ⟨a, b, ns, ms, rfl, rfl, ha, hb, q⟩ := h
  cases rx
  cases ry
  obtain ⟨z, its, n, r, hl, e⟩ := I.lstM ha
  obtain ⟨z2, its2, n2, r2, hl2, e2⟩ := I.lstM hb
  have i1 : IntsAre its ns := L2.intsAre_of r
  have i2 : IntsAre its2 ms := L2.intsAre_of r2
  have k := SeqAt.RcLt.lists (A := X.A) (s := s) (l := a) (b := b) (items := its.toArray) (items2 := its2.toArray) (e := fun j => decide (ns.getD j 0 = ms.getD j 0)) (r := fun j => decide (ns.getD j 0 < ms.getD j 0)) ⟨_, e, rfl, _, rfl⟩ ⟨_, e2, rfl, _, rfl⟩ hu
    (fun j h1 h2 => by
      obtain ⟨t, e1⟩ := intsAre_get i1 j (by simpa using h1)
      obtain ⟨t', e1'⟩ := intsAre_get i2 j (by simpa using h2)
      have e3 : its.toArray[j] = .int (ns.getD j 0) t := by simpa using e1
      have e4 : its2.toArray[j] = .int (ms.getD j 0) t' := by simpa using e1'
      rw [e3, e4]
      obtain ⟨k, hk, hk2⟩ := HT.eqAt_int X.A.in1 s (ns.getD j 0) t (ms.getD j 0) t'
      have : decide (ns.getD j 0 = ms.getD j 0) = k := by
        cases k
        · exact decide_eq_false fun z => by have := hk2.mpr z; cases this
        · exact decide_eq_true (hk2.mp rfl)
      rw [this]; exact hk)
    (fun j h1 h2 _ => by
      obtain ⟨t, e1⟩ := intsAre_get i1 j (by simpa using h1)
      obtain ⟨t', e1'⟩ := intsAre_get i2 j (by simpa using h2)
      have e3 : its.toArray[j] = .int (ns.getD j 0) t := by simpa using e1
      have e4 : its2.toArray[j] = .int (ms.getD j 0) t' := by simpa using e1'
      rw [e3, e4]
      exact fun prog w E Q h => HT.rcLt_int _ s _ _ _ _ prog w E Q h)
  have l1 : its.toArray.size = ns.length := by rw [List.size_toArray]; exact i1.length
  have l2 : its2.toArray.size = ms.length := by rw [List.size_toArray]; exact i2.length
  rw [l1, l2, firstLt_ints] at k
  exact k _ _ _ _ ⟨.bl (HT.lexLt ns ms), H, I, rfl, q⟩
def opLtX (a b : Ev) (M : Mem) : R Ev := match a, b with
  | .d (.lst s), .d (.lst t) => match toInts s, toInts t with
    | some ns, some ms => .ok (bv (HT.lexLt ns ms)) M
    | _, _ => .stuck
  | a, b => opLt a b M
theorem ok_ltX {C : Cf} : OpOk C opLtX (fun x y H Q => (rI0 (fun i j => .bl (decide (i < j))) x y H Q ∨ (∃ i j, x = .str i ∧ y = .str j ∧ Q (.bl (decide (i.cps.toList < j.cps.toList))) H) ∨ rLtT C.K x y H Q) ∨ rLtL x y H Q) := by
  intro H0 A m M H ρ σ P x y v w Q F rx ry h
  unfold opLtX at h
  split at h
  · rename_i s t
    split at h
    · rename_i ns ms e1 e2
      have es := toInts_map e1
      have et := toInts_map e2
      subst es; subst et
      obtain ⟨a, vs, e, hs, _, r1⟩ := rx
      obtain ⟨b, ws, e', ht, _, r2⟩ := ry
      rw [Rps.ints r1] at hs
      rw [Rps.ints r2] at ht
      exact .inr ⟨a, b, ns, ms, e, e', hs, ht, h.fin F rfl⟩
    · exact h.elim
  · exact .inl (ok_lt H0 A m M H ρ σ P _ _ v w Q F rx ry h)
theorem ci_ltX {X : Cx} {T : List (Addr × Str)} {W : WX} (hu : X.A.units + 64 < cLine) : CmpIs X T W .Lt opLtX := ⟨_, (op_ltA hu).or (op_ltL (by omega)), ok_ltX⟩
/-! {"a": 1, ..} of three constants -/
theorem de_disp3 {X : Cx} {T : List (Addr × Str)} {W : WX} {k1 k2 k3 : Str} {i1 i2 i3 : Int} {a1 a2 a3 b1 b2 b3 : Nat} {p1 p2 p3 q1 q2 q3 pos : Pos} (hd : (mergeK [] [(.inr k1, .int i1), (.inr k2, .int i2), (.inr k3, .int i3)] : List (Key × V)) = [(.inr k1, .int i1), (.inr k2, .int i2), (.inr k3, .int i3)] := by rfl) :
    PE X (.Dict [some (.Constant (.str k1) a1 p1), some (.Constant (.str k2) a2 p2), some (.Constant (.str k3) a3 p3)] [.Constant (.int i1) b1 q1, .Constant (.int i2) b2 q2, .Constant (.int i3) b3 q3] pos) (tE (cf X T W) (eC (.dK [.inr k1, .inr k2, .inr k3] [.int i1, .int i2, .int i3]))) := by
  refine ⟨fun pins s σ H Q I q => (pe_disp (pps_cons pe_str pe_int (pps_cons pe_str pe_int (pps_cons pe_str pe_int pps_nil))) rfl rfl (by simp) (by simp)).run pins s σ H Q I ?_⟩
  obtain ⟨H0, A, m, M, ρ, P, F, q⟩ := q
  intro p hp
  refine ⟨upd_same, [(.inr k1, .int i1), (.inr k2, .int i2), (.inr k3, .int i3)], rfl, by show 3 ≤ 15; omega, ?_⟩
  rw [hd, upd_upd]
  exact q.made F hp ⟨p, [(.inr k1, .int i1), (.inr k2, .int i2), (.inr k3, .int i3)], rfl, upd_same, rfl, F.new hp, ⟨_, _, rfl, rfl, _, _, rfl, rfl, _, _, rfl, rfl, rfl⟩⟩
end DL

set_option Elab.async false
set_option linter.all false
set_option maxRecDepth 100000
set_option maxHeartbeats 2000000
/-! The data layer: a def whose code object is told; a sign in a text. -/
namespace DL
open PySem PySem.Spec PyProof.Rows L2
section
variable {P : Program} {w : World} {K : PySem.W.Frag} {mg : Str → Option Value} {base : Heap} {T : List (Addr × Str)}
theorem dn_code {x : Str} {params : Arguments} {body : List Stmt} {scope : Scope} {f c : Addr} {fd : FuncData} {N ps : List Str} {k : Nat} {g : Ss} (F : FunD K x x params body scope [] [] f fd) (hc : fd.code = .ref c) (hx : mg x = some (.ref f)) (hb : Binds K fd ps []) (S : FnScope N ps scope)
    (hbody : ∀ (A : Around) (outer : List PySem.Env) (s : Shared) (H : Hp) (E : XK), Room k (A.deeper (envOfC x scope s.heap.objs.size f (.ref c))) →
      PSs (cxOf (L2.CX P w) P w K mg base N x scope f (.ref c) A outer s H E) body (tS ⟨K, mg, T, wE E⟩ g)) : Dn P w K mg base T (k + 1) x ps.length (fnOf N.length g) :=
  ⟨f, fd, ps, rfl, fnOk_code F hc S (fun vs H Q E h => h.1) (fun A outer s H vs Q E hr h => ⟨_, hbody A outer s H E hr, fn_start (C := ⟨K, mg, T, wE E⟩) rfl h⟩), hx, F.kp, hb⟩
end
/-- a sign in a text -/
def opInS (a b : Ev) (M : Mem) : R Ev := match a, b with
  | .d (.str x), .d (.str z) => match x.cps.toList with
    | [c] => .ok (bv (decide (c ∈ z.cps.toList))) M
    | _ => .stuck
  | _, _ => .stuck
theorem ok_inS {C : Cf} : OpOk C opInS (fun x y H Q => ∃ (c : Nat) (z : Str), x = .str ⟨#[c]⟩ ∧ y = .str z ∧ Q (.bl (decide (c ∈ z.cps.toList))) H) := by
  intro H0 A m M H ρ σ P x y v w Q F rx ry h
  unfold opInS at h
  split at h
  · rename_i x z
    split at h
    · rename_i c hc
      have : x = ⟨#[c]⟩ := by
        cases x with
        | mk cps =>
          congr
          apply Array.ext'
          simpa using hc
      subst this
      exact ⟨c, z, rx, ry, h.fin F rfl⟩
    · exact h.elim
  · exact h.elim
theorem ci_inS {X : Cx} {T : List (Addr × Str)} {W : WX} : CmpIs X T W .In opInS := ⟨_, op_in_sign, ok_inS⟩
/-! a text so many times, none too -/
theorem op_mulN {X : Cx} : OpR X (binaryOp .Mult) (fun x y H Q => ∃ z k, x = .str z ∧ y = .int k ∧ k ≤ 0 ∧ -1000000 ≤ k ∧ Q (.str ⟨#[]⟩) H) := by
  intro pins s σ H x y v u Q I rx ry h
  obtain ⟨z, k, rfl, rfl, k1, k2, q⟩ := h
  obtain ⟨t, rfl⟩ := rx
  obtain ⟨t', rfl⟩ := ry
  exact P.mul_str_none (by omega) (by omega) ⟨.str Str.empty, H, I.tok _, ⟨_, rfl⟩, q⟩
def opMulS2 (a b : Ev) (M : Mem) : R Ev := match a, b with
  | .d (.str z), .d (.int k) => if k ≤ 0 ∧ -1000000 ≤ k then .ok (.d (.str ⟨#[]⟩)) M else if 1 ≤ k ∧ k ≤ 1000000 ∧ z.length * k.toNat ≤ most then .ok (.d (.str (repS z k))) M else .stuck
  | a, b => opMulA a b M
theorem de_mulS2 {X : Cx} {T : List (Addr × Str)} {W : WX} {a b : Expr} {pos : Pos} {f g : Sm Ev} (ha : PE X a (tE (cf X T W) f)) (hb : PE X b (tE (cf X T W) g)) : PE X (.BinOp a .Mult b pos) (tE (cf X T W) (eBin opMulS2 f g)) := by
  refine ⟨fun pins s σ H Q I q => (pe_op (op_mulN.or (op_mulS.or ((op_rep1.or op_repT).or op_mulA))) ha hb).run pins s σ H Q I (tE_bin ?_ q)⟩
  intro H0 A m M H ρ σ P x y v w Q F rx ry h
  unfold opMulS2 at h
  split at h
  · rename_i z k
    split at h
    · rename_i hc
      exact .inl ⟨z, k, rx, ry, hc.1, hc.2, h.fin F rfl⟩
    · split at h
      · rename_i hc
        exact .inr (.inl ⟨z, k, rx, ry, hc.1, hc.2.1, most_line hc.2.2, h.fin F rfl⟩)
      · exact h.elim
  · exact .inr (.inr (ok_mulA H0 A m M H ρ σ P _ _ v w Q F rx ry h))
end DL

set_option linter.all false
/-! numbers by signs, plainly: the walk -/
namespace NB
structure St where
  x : Rat
  lo : Option Rat
  hi : Option Rat
def step (b : Bool) (s : St) : St :=
  match (if b then some s.x else s.lo), (if b then s.hi else some s.x) with
  | some l, some h => ⟨(l + h) / 2, some l, some h⟩
  | l, h => ⟨s.x + (if b then 1 else -1), l, h⟩
def run : List Bool → St → St
  | [], s => s
  | b :: w, s => run w (step b s)
def s0 : St := ⟨0, none, none⟩
def node (w : List Bool) : St := run w s0
theorem run_app : ∀ (u v : List Bool) (s : St), run (u ++ v) s = run v (run u s)
  | [], _, _ => rfl
  | b :: u, v, s => run_app u v (step b s)
theorem node_snoc (w : List Bool) (b : Bool) : node (w ++ [b]) = step b (node w) := by
  unfold node; rw [run_app]; rfl
/-- halves -/
def p : Nat → Rat
  | 0 => 1
  | j + 1 => p j / 2
theorem p_pos : ∀ j, 0 < p j
  | 0 => by unfold p; decide
  | j + 1 => by have := p_pos j; unfold p; grind
theorem ext {s t : St} (h1 : s.x = t.x) (h2 : s.lo = t.lo) (h3 : s.hi = t.hi) : s = t := by
  cases s; cases t; simp at h1 h2 h3; simp [h1, h2, h3]
/-- what states look like, and how many signs there were -/
inductive Sh (s : St) (n : Nat) : Prop
  | mid (h1 : s.x = 0) (h2 : s.lo = none) (h3 : s.hi = none) (h4 : n = 0)
  | pos (k : Int) (h0 : 0 ≤ k) (h1 : s.x = k + 1) (h2 : s.lo = some (k : Rat)) (h3 : s.hi = none) (h4 : (n : Int) = k + 1)
  | neg (k : Int) (h0 : 0 ≤ k) (h1 : s.x = -(k + 1)) (h2 : s.lo = none) (h3 : s.hi = some (-(k : Rat))) (h4 : (n : Int) = k + 1)
  | fr (t : Int) (j : Nat) (k : Int) (h1 : s.x = (2 * t + 1) * p (j + 1)) (h2 : s.lo = some (t * p j)) (h3 : s.hi = some ((t + 1) * p j)) (h4 : (n : Int) = k + j + 2) (h0 : 0 ≤ k)
    (h5 : 0 ≤ t → (k : Rat) ≤ t * p j ∧ (t + 1) * p j ≤ k + 1) (h6 : t < 0 → (k : Rat) ≤ -((t + 1) * p j) ∧ -(t * p j) ≤ k + 1)
theorem Sh.step {s : St} {n : Nat} (h : Sh s n) (b : Bool) : Sh (NB.step b s) (n + 1) := by
  obtain ⟨x, lo, hi⟩ := s
  cases h with
  | mid h1 h2 h3 h4 =>
    simp only at h1 h2 h3
    subst h1 h2 h3 h4
    cases b
    · exact .neg 0 (by omega) (by simp [NB.step]; grind) rfl (by simp [NB.step]) rfl
    · exact .pos 0 (by omega) (by simp [NB.step]) (by simp [NB.step]) rfl rfl
  | pos k h0 h1 h2 h3 h4 =>
    simp only at h1 h2 h3
    subst h1 h2 h3
    cases b
    · refine .fr k 0 k ?_ ?_ ?_ (by omega) h0 (fun _ => by unfold p; grind) (fun h => by omega)
      · simp only [NB.step, p]; simp; grind
      · simp [NB.step, p]
      · simp [NB.step, p]
    · refine .pos (k + 1) (by omega) ?_ ?_ rfl (by omega)
      · simp only [NB.step]; simp
      · simp only [NB.step]; simp
  | neg k h0 h1 h2 h3 h4 =>
    simp only at h1 h2 h3
    subst h1 h2 h3
    cases b
    · refine .neg (k + 1) (by omega) ?_ rfl ?_ (by omega)
      · simp only [NB.step]; simp; grind
      · simp only [NB.step]; simp
    · refine .fr (-(k + 1)) 0 k ?_ ?_ ?_ (by omega) h0 (fun h => by omega) (fun _ => by unfold p; simp; grind)
      · simp only [NB.step, p]; simp; grind
      · simp [NB.step, p]
      · simp [NB.step, p]; grind
  | fr t j k h1 h2 h3 h4 h0 h5 h6 =>
    simp only at h1 h2 h3
    subst h1 h2 h3
    have hp := p_pos j
    cases b
    · refine .fr (2 * t) (j + 1) k ?_ ?_ ?_ (by omega) h0 (fun h => ?_) (fun h => ?_)
      · simp only [NB.step, p]; simp; grind
      · simp only [NB.step, p]; simp; grind
      · simp only [NB.step, p]; grind
      · have := h5 (by omega); simp only [p]; simp; grind
      · have := h6 (by omega); simp only [p]; simp; grind
    · refine .fr (2 * t + 1) (j + 1) k ?_ ?_ ?_ (by omega) h0 (fun h => ?_) (fun h => ?_)
      · simp only [NB.step, p]; simp; grind
      · simp only [NB.step, p]; simp; 
      · simp only [NB.step, p]; simp; grind
      · have := h5 (by omega); simp only [p]; simp; grind
      · have := h6 (by omega); simp only [p]; simp; grind
end NB

set_option linter.all false
/-! numbers by signs, plainly: order, beginnings -/
namespace NB
theorem run_sh : ∀ (w : List Bool) (s : St) (n : Nat), Sh s n → Sh (run w s) (n + w.length)
  | [], _, _, h => h
  | b :: w, s, n, h => by
    have := run_sh w (step b s) (n + 1) (h.step b)
    rw [List.length_cons, show n + (w.length + 1) = n + 1 + w.length by omega]; exact this
theorem node_sh (w : List Bool) : Sh (node w) w.length := by
  have := run_sh w s0 0 (.mid rfl rfl rfl rfl)
  rw [Nat.zero_add] at this; exact this
def In (lo hi : Option Rat) (x : Rat) : Prop := (∀ l, lo = some l → l < x) ∧ ∀ h, hi = some h → x < h
theorem Sh.bd {s : St} {n : Nat} (h : Sh s n) : In s.lo s.hi s.x := by
  obtain ⟨x, lo, hi⟩ := s
  cases h with
  | mid h1 h2 h3 h4 => simp only at h2 h3; subst h2 h3; exact ⟨nofun, nofun⟩
  | pos k h0 h1 h2 h3 h4 =>
    simp only at h1 h2 h3; subst h1 h2 h3
    exact ⟨fun l e => by cases e; grind, nofun⟩
  | neg k h0 h1 h2 h3 h4 =>
    simp only at h1 h2 h3; subst h1 h2 h3
    exact ⟨nofun, fun l e => by cases e; grind⟩
  | fr t j k h1 h2 h3 h4 h0 h5 h6 =>
    simp only at h1 h2 h3; subst h1 h2 h3
    have hp := p_pos j
    exact ⟨fun l e => by cases e; simp only [p]; grind, fun l e => by cases e; simp only [p]; grind⟩
theorem step_lo (b : Bool) (s : St) : (step b s).lo = if b then some s.x else s.lo := by
  unfold step; split <;> rename_i e1 e2 <;> simp_all
theorem step_hi (b : Bool) (s : St) : (step b s).hi = if b then s.hi else some s.x := by
  unfold step; split <;> rename_i e1 e2 <;> simp_all
theorem run_in : ∀ (w : List Bool) (s : St) (n : Nat), Sh s n → In s.lo s.hi (run w s).x
  | [], _, _, h => h.bd
  | b :: w, s, n, h => by
    have q := run_in w (step b s) (n + 1) (h.step b)
    rw [step_lo, step_hi] at q
    have hb := h.bd
    cases b
    · exact ⟨q.1, fun h' e => by have := q.2 s.x rfl; have := hb.2 h' e; show (run w (step false s)).x < h'; grind⟩
    · exact ⟨fun l e => by have := hb.1 l e; have := q.1 s.x rfl; show l < (run w (step true s)).x; grind, q.2⟩
theorem up_lt (u v : List Bool) : (node u).x < (node (u ++ true :: v)).x := by
  have := run_in v (step true (node u)) _ ((node_sh u).step true)
  rw [step_lo] at this
  have := this.1 _ rfl
  rw [show node (u ++ true :: v) = run v (step true (node u)) by unfold node; rw [run_app]; rfl]; exact this
theorem dn_lt (u v : List Bool) : (node (u ++ false :: v)).x < (node u).x := by
  have := run_in v (step false (node u)) _ ((node_sh u).step false)
  rw [step_hi] at this
  have := this.2 _ rfl
  rw [show node (u ++ false :: v) = run v (step false (node u)) by unfold node; rw [run_app]; rfl]; exact this
/-- the way w is the way to what lies between -/
def Tow (lo hi : Option Rat) (w : List Bool) : Prop := ∀ u b v, w = u ++ b :: v → (b = true → ∃ l, lo = some l ∧ (node u).x ≤ l) ∧ (b = false → ∃ h, hi = some h ∧ h ≤ (node u).x)
theorem pre {lo hi : Option Rat} : ∀ (w z u : List Bool), Tow lo hi (u ++ w) → In lo hi (node (u ++ z)).x → ∃ v, z = w ++ v
  | [], z, u, _, _ => ⟨z, rfl⟩
  | b :: w, [], u, ht, hx => by
    have h := ht u b w rfl
    rw [List.append_nil] at hx
    cases b
    · obtain ⟨h', e, k⟩ := h.2 rfl
      have := hx.2 h' e; grind
    · obtain ⟨h', e, k⟩ := h.1 rfl
      have := hx.1 h' e; grind
  | b :: w, c :: z, u, ht, hx => by
    by_cases e : b = c
    · subst e
      obtain ⟨v, ev⟩ := pre w z (u ++ [b]) (by rw [List.append_assoc]; exact ht) (by rw [List.append_assoc]; exact hx)
      exact ⟨v, by rw [ev]; rfl⟩
    · have h := ht u b w rfl
      cases b
      · have ec : c = true := by cases c <;> simp_all
        subst ec
        obtain ⟨h', e, k⟩ := h.2 rfl
        have := hx.2 h' e; have := up_lt u z; grind
      · have ec : c = false := by cases c <;> simp_all
        subst ec
        obtain ⟨h', e, k⟩ := h.1 rfl
        have := hx.1 h' e; have := dn_lt u z; grind
end NB

set_option linter.all false
/-! numbers by signs, plainly: what lies between -/
namespace NB
theorem run_lo : ∀ (v : List Bool) (s : St) (n : Nat), Sh s n → ∀ l, s.lo = some l → ∃ l', (run v s).lo = some l' ∧ l ≤ l'
  | [], s, _, _, l, e => ⟨l, e, by grind⟩
  | b :: v, s, n, h, l, e => by
    have hb := h.bd.1 l e
    cases b
    · obtain ⟨l', e', k⟩ := run_lo v (step false s) (n + 1) (h.step false) l (by rw [step_lo]; exact e)
      exact ⟨l', e', k⟩
    · obtain ⟨l', e', k⟩ := run_lo v (step true s) (n + 1) (h.step true) s.x (by rw [step_lo]; rfl)
      exact ⟨l', e', by grind⟩
theorem run_hi : ∀ (v : List Bool) (s : St) (n : Nat), Sh s n → ∀ l, s.hi = some l → ∃ l', (run v s).hi = some l' ∧ l' ≤ l
  | [], s, _, _, l, e => ⟨l, e, by grind⟩
  | b :: v, s, n, h, l, e => by
    have hb := h.bd.2 l e
    cases b
    · obtain ⟨l', e', k⟩ := run_hi v (step false s) (n + 1) (h.step false) s.x (by rw [step_hi]; rfl)
      exact ⟨l', e', by grind⟩
    · obtain ⟨l', e', k⟩ := run_hi v (step true s) (n + 1) (h.step true) l (by rw [step_hi]; exact e)
      exact ⟨l', e', k⟩
theorem node_app (u v : List Bool) : node (u ++ v) = run v (node u) := run_app u v s0
theorem tow_node (w : List Bool) : Tow (node w).lo (node w).hi w := by
  intro u b v e
  subst e
  constructor
  · rintro rfl
    obtain ⟨l', e', k⟩ := run_lo v (step true (node u)) _ ((node_sh u).step true) (node u).x (by rw [step_lo]; rfl)
    exact ⟨l', by rw [node_app]; exact e', k⟩
  · rintro rfl
    obtain ⟨l', e', k⟩ := run_hi v (step false (node u)) _ ((node_sh u).step false) (node u).x (by rw [step_hi]; rfl)
    exact ⟨l', by rw [node_app]; exact e', k⟩
theorem two_pre {a b : List Bool} {v v' : List Bool} (h : b = a ++ v) (k : a = b ++ v') : a = b := by
  have h1 := congrArg List.length h
  have h2 := congrArg List.length k
  simp only [List.length_append] at h1 h2
  have : v = [] := List.eq_nil_of_length_eq_zero (by omega)
  rw [h, this, List.append_nil]
theorem pre0 {lo hi : Option Rat} {w z : List Bool} (t : Tow lo hi w) (h : In lo hi (node z).x) : ∃ v, z = w ++ v := pre w z [] t h
theorem node_inj {a b : List Bool} (h : (node a).x = (node b).x) : a = b := by
  obtain ⟨v, e⟩ := pre0 (tow_node a) (z := b) (by rw [← h]; exact (node_sh a).bd)
  obtain ⟨v', e'⟩ := pre0 (tow_node b) (z := a) (by rw [h]; exact (node_sh b).bd)
  exact two_pre e e'
/-- the simplest between -/
def Sm (lo hi : Option Rat) (x : Rat) : Prop := ∃ w, Tow lo hi w ∧ In lo hi (node w).x ∧ (node w).x = x
theorem tow_uniq {lo hi : Option Rat} {a b : List Bool} (h1 : Tow lo hi a) (h2 : In lo hi (node a).x) (k1 : Tow lo hi b) (k2 : In lo hi (node b).x) : a = b := by
  obtain ⟨v, e⟩ := pre0 h1 k2
  obtain ⟨v', e'⟩ := pre0 k1 h2
  exact two_pre e e'
theorem Sm.uniq {lo hi : Option Rat} {x y : Rat} (h : Sm lo hi x) (k : Sm lo hi y) : x = y := by
  obtain ⟨a, h1, h2, rfl⟩ := h
  obtain ⟨b, k1, k2, rfl⟩ := k
  rw [tow_uniq h1 h2 k1 k2]
theorem sm_node (w : List Bool) : Sm (node w).lo (node w).hi (node w).x := ⟨w, tow_node w, (node_sh w).bd, rfl⟩
theorem tow_nil (lo hi : Option Rat) : Tow lo hi [] := by
  intro u b v e
  cases u <;> simp at e
theorem tow_snoc {lo hi : Option Rat} {u : List Bool} {b : Bool} (t : Tow lo hi u) (h : (b = true → ∃ l, lo = some l ∧ (node u).x ≤ l) ∧ (b = false → ∃ h, hi = some h ∧ h ≤ (node u).x)) : Tow lo hi (u ++ [b]) := by
  intro u' b' v' e
  rcases List.eq_nil_or_concat v' with rfl | ⟨v'', c, rfl⟩
  · have := List.append_inj' e rfl
    obtain ⟨rfl, e2⟩ := this
    cases e2
    exact h
  · have e' : u ++ [b] = (u' ++ b' :: v'') ++ [c] := by rw [e]; simp
    obtain ⟨rfl, _⟩ := List.append_inj' e' rfl
    exact t u' b' v'' rfl
/-- on the way to what lies between -/
theorem tow_next {lo hi : Option Rat} {u z : List Bool} (t : Tow lo hi u) (h : In lo hi (node z).x) (hn : ¬ In lo hi (node u).x) : ∃ b v, z = u ++ b :: v ∧ Tow lo hi (u ++ [b]) := by
  obtain ⟨v, rfl⟩ := pre0 t h
  cases v with
  | nil => rw [List.append_nil] at h; exact absurd h hn
  | cons b v =>
    refine ⟨b, v, rfl, tow_snoc t ?_⟩
    have hu := up_lt u v
    have hd := dn_lt u v
    cases b
    · refine ⟨nofun, fun _ => ?_⟩
      cases hi with
      | none => exact absurd ⟨fun l e => by have := h.1 l e; grind, nofun⟩ hn
      | some h' =>
        refine ⟨h', rfl, ?_⟩
        apply Classical.byContradiction
        intro k
        exact hn ⟨fun l e => by have := h.1 l e; grind, fun l e => by cases e; grind⟩
    · refine ⟨fun _ => ?_, nofun⟩
      cases lo with
      | none => exact absurd ⟨nofun, fun l e => by have := h.2 l e; grind⟩ hn
      | some h' =>
        refine ⟨h', rfl, ?_⟩
        apply Classical.byContradiction
        intro k
        exact hn ⟨fun l e => by cases e; grind, fun l e => by have := h.2 l e; grind⟩
theorem sm_ex {lo hi : Option Rat} {z : List Bool} (h : In lo hi (node z).x) : ∀ (m : Nat) (u : List Bool), Tow lo hi u → u.length + m = z.length → ∃ w, Tow lo hi w ∧ In lo hi (node w).x
  | 0, u, t, e => by
    obtain ⟨v, rfl⟩ := pre0 t h
    rw [List.length_append] at e
    have : v = [] := List.eq_nil_of_length_eq_zero (by omega)
    subst this
    exact ⟨u, t, by rw [List.append_nil] at h; exact h⟩
  | m + 1, u, t, e => by
    by_cases k : In lo hi (node u).x
    · exact ⟨u, t, k⟩
    · obtain ⟨b, v, rfl, t'⟩ := tow_next t h k
      exact sm_ex h m (u ++ [b]) t' (by rw [List.length_append, List.length_singleton]; omega)
theorem sm_ex0 {lo hi : Option Rat} {z : List Bool} (h : In lo hi (node z).x) : ∃ w, Tow lo hi w ∧ In lo hi (node w).x ∧ w.length ≤ z.length := by
  obtain ⟨w, t, i⟩ := sm_ex h z.length [] (tow_nil lo hi) (by simp)
  obtain ⟨v, e⟩ := pre0 t h
  refine ⟨w, t, i, ?_⟩
  rw [e, List.length_append]; omega
/-- narrower -/
theorem Tow.narrow {lo hi : Option Rat} {w : List Bool} (t : Tow lo hi w) {m : Rat} (hm : ∀ h, hi = some h → m < h) : Tow lo (some m) w := by
  intro u b v e
  have k := t u b v e
  refine ⟨k.1, fun eb => ?_⟩
  obtain ⟨h, e1, e2⟩ := k.2 eb
  exact ⟨m, rfl, by have := hm h e1; grind⟩
/-- turned about -/
def ng : Option Rat → Option Rat := Option.map (fun x => -x)
def ms (s : St) : St := ⟨-s.x, ng s.hi, ng s.lo⟩
theorem step_ms (b : Bool) (s : St) : step (!b) (ms s) = ms (step b s) := by
  obtain ⟨x, lo, hi⟩ := s
  cases b <;> cases lo <;> cases hi <;> simp [step, ms, ng] <;> grind
theorem run_ms : ∀ (w : List Bool) (s : St), run (w.map (! ·)) (ms s) = ms (run w s)
  | [], _ => rfl
  | b :: w, s => by
    show run (w.map (! ·)) (step (!b) (ms s)) = ms (run w (step b s))
    rw [step_ms]; exact run_ms w _
theorem node_ms (w : List Bool) : node (w.map (! ·)) = ms (node w) := by
  have := run_ms w s0
  exact this
theorem In.neg {lo hi : Option Rat} {x : Rat} (h : In lo hi x) : In (ng hi) (ng lo) (-x) := by
  refine ⟨fun l e => ?_, fun l e => ?_⟩
  · cases hi with
    | none => cases e
    | some y => cases e; have := h.2 y rfl; grind
  · cases lo with
    | none => cases e
    | some y => cases e; have := h.1 y rfl; grind
theorem map_not (w : List Bool) : (w.map (! ·)).map (! ·) = w := by
  rw [List.map_map, show ((fun b => !b) ∘ fun b => !b) = (id : Bool → Bool) by funext b; simp, List.map_id]
theorem Tow.neg {lo hi : Option Rat} {w : List Bool} (h : Tow lo hi w) : Tow (ng hi) (ng lo) (w.map (! ·)) := by
  intro u b v e
  have e' : w = u.map (! ·) ++ (!b) :: v.map (! ·) := by
    have := congrArg (List.map (! ·)) e
    rw [map_not] at this
    rw [this]; simp
  have k := h _ _ _ e'
  have en : node (u.map (! ·)) = ms (node u) := node_ms u
  rw [en] at k
  refine ⟨fun eb => ?_, fun eb => ?_⟩
  · obtain ⟨y, e1, e2⟩ := k.2 (by rw [eb]; rfl)
    exact ⟨-y, by rw [e1]; rfl, by simp only [ms] at e2; grind⟩
  · obtain ⟨y, e1, e2⟩ := k.1 (by rw [eb]; rfl)
    exact ⟨-y, by rw [e1]; rfl, by simp only [ms] at e2; grind⟩
theorem Sm.neg {lo hi : Option Rat} {x : Rat} (h : Sm lo hi x) : Sm (ng hi) (ng lo) (-x) := by
  obtain ⟨w, t, i, rfl⟩ := h
  exact ⟨w.map (! ·), t.neg, by rw [node_ms]; exact i.neg, by rw [node_ms]; rfl⟩
theorem ng_ng (o : Option Rat) : ng (ng o) = o := by cases o <;> simp [ng]
end NB

set_option linter.all false
/-! numbers by signs, plainly: whole ones, halves, all are reached -/
namespace NB
theorem node_up : ∀ n : Nat, node (List.replicate n true) = ⟨((n : Int) : Rat), if n = 0 then none else some (((n : Int) - 1 : Int) : Rat), none⟩
  | 0 => rfl
  | n + 1 => by
    rw [List.replicate_succ', node_snoc, node_up n]
    apply ext
    · simp [step]
    · rw [step_lo]; simp
    · rw [step_hi]; simp
theorem node_dn (n : Nat) : node (List.replicate n false) = ⟨-((n : Int) : Rat), none, if n = 0 then none else some (-(((n : Int) - 1 : Int) : Rat))⟩ := by
  have := node_ms (List.replicate n true)
  rw [List.map_replicate, node_up] at this
  rw [show (!true) = false from rfl] at this
  rw [this]
  by_cases h : n = 0
  · subst h; rfl
  · simp [ms, ng, h]
theorem tow_up {lo hi : Option Rat} {n : Nat} {l : Rat} (h : lo = some l) (k : n = 0 ∨ (((n : Int) - 1 : Int) : Rat) ≤ l) : Tow lo hi (List.replicate n true) := by
  intro u b v e
  have hl := congrArg List.length e
  simp only [List.length_replicate, List.length_append, List.length_cons] at hl
  have hu : u = List.replicate u.length true := by
    rw [List.eq_replicate_iff]
    exact ⟨rfl, fun x hx => by
      have : x ∈ List.replicate n true := by rw [e]; exact List.mem_append_left _ hx
      exact (List.mem_replicate.mp this).2⟩
  have hb : b = true := by
    have : b ∈ List.replicate n true := by rw [e]; simp
    exact (List.mem_replicate.mp this).2
  refine ⟨fun _ => ⟨l, h, ?_⟩, fun e => by rw [hb] at e; cases e⟩
  rw [hu, node_up]
  rcases k with k | k
  · omega
  · have : ((u.length : Int) : Rat) ≤ (((n : Int) - 1 : Int) : Rat) := Rat.intCast_le_intCast.mpr (by omega)
    show ((u.length : Int) : Rat) ≤ l
    grind
theorem sm_zero {lo hi : Option Rat} (h : In lo hi 0) : Sm lo hi 0 := ⟨[], tow_nil _ _, h, rfl⟩
theorem sm_whole {l : Rat} {hi : Option Rat} {k : Int} (h0 : 0 ≤ k) (h1 : (k : Rat) ≤ l) (h2 : l < ((k + 1 : Int) : Rat)) (h3 : ∀ h, hi = some h → ((k + 1 : Int) : Rat) < h) : Sm (some l) hi ((k + 1 : Int) : Rat) := by
  have e : (((k + 1).toNat : Nat) : Int) = k + 1 := Int.toNat_of_nonneg (by omega)
  refine ⟨List.replicate (k + 1).toNat true, tow_up rfl (Or.inr ?_), ?_, ?_⟩
  · rw [e, show k + 1 - 1 = k by omega]; exact h1
  · rw [node_up, e]
    exact ⟨fun l' e' => by cases e'; exact h2, h3⟩
  · rw [node_up, e]
/-- on the way, in halves -/
def Hv (l h : Rat) (t : Int) (j : Nat) : Prop :=
  ∃ u, Tow (some l) (some h) u ∧ node u = ⟨(2 * t + 1) * p (j + 1), some (t * p j), some ((t + 1) * p j)⟩ ∧ (t : Rat) * p j ≤ l ∧ l < (t + 1) * p j ∧ h ≤ (t + 1) * p j
theorem hv0 {l h : Rat} {k : Int} (h0 : 0 ≤ k) (h1 : (k : Rat) ≤ l) (h2 : l < ((k + 1 : Int) : Rat)) (h3 : h ≤ ((k + 1 : Int) : Rat)) : Hv l h k 0 := by
  have e : (((k + 1).toNat : Nat) : Int) = k + 1 := Int.toNat_of_nonneg (by omega)
  have hn : node (List.replicate (k + 1).toNat true) = ⟨((k + 1 : Int) : Rat), some (k : Rat), none⟩ := by
    rw [node_up, e, if_neg (by omega), show k + 1 - 1 = k by omega]
  have ec : ((k + 1 : Int) : Rat) = k + 1 := by simp
  refine ⟨List.replicate (k + 1).toNat true ++ [false], tow_snoc (tow_up rfl (Or.inr ?_)) ⟨nofun, fun _ => ⟨h, rfl, ?_⟩⟩, ?_, ?_, ?_, ?_⟩
  · rw [e, show k + 1 - 1 = k by omega]; exact h1
  · rw [hn]; exact h3
  · rw [node_snoc, hn]
    apply ext
    · simp only [step, p, ec]; simp; grind
    · rw [step_lo]; simp [p]
    · rw [step_hi]; simp [p, ec]
  · simp only [p]; grind
  · simp only [p]; grind
  · simp only [p]; grind
theorem hv_step {l h : Rat} {t f : Int} {j : Nat} (H : Hv l h t j) (hlh : l < h) (f1 : (f : Rat) * p (j + 1) ≤ l) (f2 : l < (f + 1) * p (j + 1)) :
    (((f : Rat) + 1) * p (j + 1) < h → Sm (some l) (some h) ((f + 1) * p (j + 1))) ∧ (¬ ((f : Rat) + 1) * p (j + 1) < h → Hv l h f (j + 1)) := by
  obtain ⟨u, tw, e, h1, h2, h3⟩ := H
  have hp := p_pos (j + 1)
  have pe : p j = 2 * p (j + 1) := by simp only [p]; grind
  rw [pe] at h1 h2 h3
  have hx : (node u).x = (2 * t + 1) * p (j + 1) := by rw [e]
  by_cases c : l < (2 * t + 1) * p (j + 1)
  · have ef : f = 2 * t := by
      have a1 : (f : Rat) < ((2 * t + 1 : Int) : Rat) := by
        apply Rat.lt_of_mul_lt_mul_right (c := p (j + 1)) _ (by grind)
        simp; grind
      have a2 : ((2 * t : Int) : Rat) < ((f + 1 : Int) : Rat) := by
        apply Rat.lt_of_mul_lt_mul_right (c := p (j + 1)) _ (by grind)
        simp; grind
      have := Rat.intCast_lt_intCast.mp a1
      have := Rat.intCast_lt_intCast.mp a2
      omega
    subst ef
    have ec : ((2 * t : Int) : Rat) = 2 * t := by simp
    rw [ec] at f1 f2 ⊢
    refine ⟨fun k => ⟨u, tw, ?_, hx⟩, fun k => ⟨u ++ [false], tow_snoc tw ⟨nofun, fun _ => ⟨h, rfl, by rw [hx]; grind⟩⟩, ?_, ?_, ?_, ?_⟩⟩
    · rw [hx]; exact ⟨fun _ e => by cases e; exact c, fun _ e => by cases e; exact k⟩
    · rw [node_snoc, e]
      apply ext
      · simp only [step, pe]; simp only [p]; simp; grind
      · rw [step_lo]; simp only [pe]; simp; grind
      · rw [step_hi]; simp
    · rw [ec]; exact f1
    · rw [ec]; exact f2
    · rw [ec]; grind
  · have ef : f = 2 * t + 1 := by
      have a1 : (f : Rat) < ((2 * t + 2 : Int) : Rat) := by
        apply Rat.lt_of_mul_lt_mul_right (c := p (j + 1)) _ (by grind)
        simp; grind
      have a2 : ((2 * t + 1 : Int) : Rat) < ((f + 1 : Int) : Rat) := by
        apply Rat.lt_of_mul_lt_mul_right (c := p (j + 1)) _ (by grind)
        simp; grind
      have := Rat.intCast_lt_intCast.mp a1
      have := Rat.intCast_lt_intCast.mp a2
      omega
    subst ef
    have ec : ((2 * t + 1 : Int) : Rat) = 2 * t + 1 := by simp
    rw [ec] at f1 f2 ⊢
    refine ⟨fun k => by grind, fun k => ⟨u ++ [true], tow_snoc tw ⟨fun _ => ⟨l, rfl, by rw [hx]; grind⟩, nofun⟩, ?_, ?_, ?_, ?_⟩⟩
    · rw [node_snoc, e]
      apply ext
      · simp only [step, pe]; simp only [p]; simp; grind
      · rw [step_lo]; simp
      · rw [step_hi]; simp only [pe]; simp; grind
    · rw [ec]; exact f1
    · rw [ec]; exact f2
    · rw [ec]; grind
theorem hv_gap {l h : Rat} {t : Int} {j : Nat} (H : Hv l h t j) : h - l ≤ p j := by
  obtain ⟨u, tw, e, h1, h2, h3⟩ := H
  grind
/-- between neighbours of a like kind lies a node -/
theorem gap : ∀ (n : Nat) (t : Int), ∃ (u : List Bool) (k : Int), node u = ⟨(2 * t + 1) * p (n + 1), some (t * p n), some ((t + 1) * p n)⟩ ∧ (u.length : Int) = k + n + 2 ∧ ((k : Rat) ≤ t * p n ∨ (k : Rat) ≤ -((t + 1) * p n))
  | 0, t => by
    by_cases h : 0 ≤ t
    · obtain ⟨u, tw, e, -⟩ := hv0 (l := t) (h := ((t + 1 : Int) : Rat)) (k := t) h (by grind) (by simp; grind) (by grind)
      have hs := node_sh u
      refine ⟨List.replicate (t + 1).toNat true ++ [false], t, ?_, ?_, Or.inl ?_⟩
      · have ee : (((t + 1).toNat : Nat) : Int) = t + 1 := Int.toNat_of_nonneg (by omega)
        have hn : node (List.replicate (t + 1).toNat true) = ⟨((t + 1 : Int) : Rat), some (t : Rat), none⟩ := by
          rw [node_up, ee, if_neg (by omega), show t + 1 - 1 = t by omega]
        have ec : ((t + 1 : Int) : Rat) = t + 1 := by simp
        rw [node_snoc, hn]
        apply ext
        · simp only [step, p, ec]; simp; grind
        · rw [step_lo]; simp [p]
        · rw [step_hi]; simp [p, ec]
      · rw [List.length_append, List.length_replicate]; simp; omega
      · simp [p]
    · have ee : (((-t).toNat : Nat) : Int) = -t := Int.toNat_of_nonneg (by omega)
      have hn : node (List.replicate (-t).toNat false) = ⟨(t : Rat), none, some ((t : Rat) + 1)⟩ := by
        rw [node_dn, ee, if_neg (by omega)]
        apply ext <;> simp <;> grind
      refine ⟨List.replicate (-t).toNat false ++ [true], -t - 1, ?_, ?_, Or.inr ?_⟩
      · rw [node_snoc, hn]
        apply ext
        · simp only [step, p]; simp; grind
        · rw [step_lo]; simp [p]
        · rw [step_hi]; simp [p]
      · rw [List.length_append, List.length_replicate]; simp; omega
      · simp [p]; grind
  | n + 1, t => by
    obtain ⟨u, k, e, hl, hk⟩ := gap n (t / 2)
    have hp := p_pos (n + 1)
    have pe : p n = 2 * p (n + 1) := by simp only [p]; grind
    rw [pe] at hk
    rcases Int.emod_two_eq t with m | m
    · have et : t = 2 * (t / 2) := by omega
      generalize t / 2 = s at *
      subst et
      have ec : ((2 * s : Int) : Rat) = 2 * s := by simp
      refine ⟨u ++ [false], k, ?_, ?_, ?_⟩
      · rw [node_snoc, e]
        apply ext
        · simp only [step, pe, ec]; simp only [p]; simp; grind
        · rw [step_lo]; simp only [pe, ec]; simp; grind
        · rw [step_hi]; simp [ec]
      · rw [List.length_append, List.length_singleton]; omega
      · rw [ec]; grind
    · have et : t = 2 * (t / 2) + 1 := by omega
      generalize t / 2 = s at *
      subst et
      have ec : ((2 * s + 1 : Int) : Rat) = 2 * s + 1 := by simp
      refine ⟨u ++ [true], k, ?_, ?_, ?_⟩
      · rw [node_snoc, e]
        apply ext
        · simp only [step, pe, ec]; simp only [p]; simp; grind
        · rw [step_lo]; simp [ec]
        · rw [step_hi]; simp only [pe, ec]; simp; grind
      · rw [List.length_append, List.length_singleton]; omega
      · rw [ec]; grind
/-- all are reached -/
theorem surj (B : Int) : ∀ (n : Nat) (a : Int), -(B : Rat) ≤ a * p n → (a : Rat) * p n ≤ B → ∃ w, (node w).x = a * p n ∧ (w.length : Int) ≤ B + n + 1
  | 0, a, h1, h2 => by
    have e1 : (a : Rat) * p 0 = a := by simp [p]
    rw [e1] at h1 h2 ⊢
    have h1' : ((-B : Int) : Rat) ≤ (a : Rat) := by simp; exact h1
    have h1'' := Rat.intCast_le_intCast.mp h1'
    have h2' := Rat.intCast_le_intCast.mp h2
    by_cases h : 0 ≤ a
    · refine ⟨List.replicate a.toNat true, ?_, ?_⟩
      · rw [node_up, Int.toNat_of_nonneg h]
      · rw [List.length_replicate]; omega
    · refine ⟨List.replicate (-a).toNat false, ?_, ?_⟩
      · rw [node_dn, Int.toNat_of_nonneg (by omega)]; simp
      · rw [List.length_replicate]; omega
  | n + 1, a, h1, h2 => by
    have hp := p_pos (n + 1)
    have pe : p n = 2 * p (n + 1) := by simp only [p]; grind
    rcases Int.emod_two_eq a with m | m
    · have et : a = 2 * (a / 2) := by omega
      generalize a / 2 = s at *
      subst et
      have ec : ((2 * s : Int) : Rat) = 2 * s := by simp
      obtain ⟨w, e, hl⟩ := surj B n s (by rw [pe]; grind) (by rw [pe]; grind)
      exact ⟨w, by rw [e, pe, ec]; grind, by omega⟩
    · have et : a = 2 * (a / 2) + 1 := by omega
      generalize a / 2 = s at *
      subst et
      obtain ⟨u, k, e, hl, hk⟩ := gap n s
      have ec : ((2 * s + 1 : Int) : Rat) = 2 * s + 1 := by simp
      refine ⟨u, by rw [e, ec], ?_⟩
      have : (k : Rat) < ((B : Int) : Rat) := by
        rw [pe] at hk; rw [ec] at h1 h2; grind
      have := Rat.intCast_lt_intCast.mp this
      omega
end NB

set_option linter.all false
/-! numbers by signs, plainly: tops and bottoms -/
namespace NB
def T (n : Nat) : Int := ((2 ^ n : Nat) : Int)
theorem T0 : T 0 = 1 := rfl
theorem Ts (n : Nat) : T (n + 1) = 2 * T n := by unfold T; rw [Nat.pow_succ]; omega
theorem T_pos (n : Nat) : 0 < T n := by unfold T; have := Nat.two_pow_pos n; omega
theorem pT : ∀ n, p n * (T n : Rat) = 1
  | 0 => by simp [p, T0]
  | n + 1 => by
    have := pT n
    rw [Ts]; simp only [p]; simp; grind
theorem Tr_pos (n : Nat) : 0 < (T n : Rat) := Rat.intCast_pos.mpr (T_pos n)
theorem den_pos (q : Rat) : 0 < (q.den : Int) := by have := q.den_pos; omega
theorem denr_pos (q : Rat) : (0 : Rat) < ((q.den : Int) : Rat) := Rat.intCast_pos.mpr (den_pos q)
theorem nd (q : Rat) : q * ((q.den : Int) : Rat) = (q.num : Rat) := by
  have h := Rat.num_divInt_den q
  rw [Rat.divInt_eq_div] at h
  have k := Rat.div_mul_cancel (a := (q.num : Rat)) (b := ((q.den : Int) : Rat)) (by have := denr_pos q; grind)
  rw [h] at k
  exact k
theorem mkq {a : Int} {d : Nat} {q : Rat} (hd : d ≠ 0) (hc : Nat.gcd a.natAbs d = 1) (h : q * ((d : Int) : Rat) = (a : Rat)) : q.num = a ∧ q.den = d := by
  have e : q = ⟨a, d, hd, hc⟩ := by
    rw [Rat.mk_eq_mkRat, Rat.mkRat_eq_div]
    have hd0 : (0 : Rat) < ((d : Int) : Rat) := Rat.intCast_pos.mpr (by omega)
    have : q = q * ((d : Int) : Rat) / ((d : Int) : Rat) := (Rat.mul_div_cancel (by grind)).symm
    rw [this, h]; rfl
  rw [e]; exact ⟨rfl, rfl⟩
theorem odd_cop {a : Int} (h : a % 2 = 1) (n : Nat) : Nat.gcd a.natAbs (2 ^ n) = 1 := by
  have : Nat.Coprime a.natAbs 2 := by
    have e : a.natAbs % 2 = 1 := by omega
    rw [Nat.coprime_iff_gcd_eq_one, Nat.gcd_comm, Nat.gcd_rec, e]
    rfl
  exact Nat.Coprime.pow_right n this
theorem nd_odd {a : Int} {n : Nat} (h : a % 2 = 1 ∨ n = 0) : ((a : Rat) * p n).num = a ∧ ((a : Rat) * p n).den = 2 ^ n := by
  refine mkq (Nat.pos_iff_ne_zero.mp (Nat.two_pow_pos n)) ?_ ?_
  · rcases h with h | h
    · exact odd_cop h n
    · subst h; simp
  · have := pT n
    unfold T at this
    grind
theorem dy : ∀ (n : Nat) (a : Int), ∃ m, m ≤ n ∧ ((a : Rat) * p n).den = 2 ^ m ∧ ((a : Rat) * p n).num.natAbs ≤ a.natAbs
  | 0, a => ⟨0, by omega, (nd_odd (.inr rfl)).2, by rw [(nd_odd (.inr rfl)).1]; omega⟩
  | n + 1, a => by
    rcases Int.emod_two_eq a with m | m
    · have et : a = 2 * (a / 2) := by omega
      obtain ⟨m', h1, h2, h3⟩ := dy n (a / 2)
      have e : (a : Rat) * p (n + 1) = ((a / 2 : Int) : Rat) * p n := by
        generalize a / 2 = s at *
        subst et
        have ec : ((2 * s : Int) : Rat) = 2 * s := by simp
        rw [ec]; simp only [p]; grind
      rw [e]
      exact ⟨m', by omega, h2, by omega⟩
    · exact ⟨n + 1, by omega, (nd_odd (.inl m)).2, by rw [(nd_odd (.inl m)).1]; omega⟩
theorem of_den {q : Rat} {m : Nat} (h : q.den = 2 ^ m) : q = q.num * p m := by
  have := nd q
  have k := pT m
  unfold T at k
  rw [h] at this
  grind
/-- a fraction in lowest terms -/
theorem nd_div {a b : Int} (h : 0 < b) : ((a : Rat) / (b : Rat)).num = a / (Int.gcd b a : Int) ∧ (((a : Rat) / (b : Rat)).den : Int) = b / (Int.gcd b a : Int) := by
  rw [← Rat.divInt_eq_div, Rat.num_divInt, Rat.den_divInt, if_neg (by omega), Int.sign_eq_one_of_pos h, Int.one_mul]
  refine ⟨rfl, ?_⟩
  rw [Int.natCast_ediv]
  congr 1
  omega
theorem lt_div {a b c d : Int} (hb : 0 < b) (hd : 0 < d) : ((a : Rat) / (b : Rat) < (c : Rat) / (d : Rat)) ↔ a * d < c * b := by
  have hb' : (0 : Rat) < (b : Rat) := Rat.intCast_pos.mpr hb
  have hd' : (0 : Rat) < (d : Rat) := Rat.intCast_pos.mpr hd
  have ea : (a : Rat) / (b : Rat) * (b : Rat) = a := Rat.div_mul_cancel (by grind)
  have ec : (c : Rat) / (d : Rat) * (d : Rat) = c := Rat.div_mul_cancel (by grind)
  generalize (a : Rat) / (b : Rat) = x at *
  generalize (c : Rat) / (d : Rat) = y at *
  rw [← Rat.intCast_lt_intCast]
  rw [← Rat.mul_lt_mul_right (Rat.mul_pos hb' hd')]
  have e1 : x * ((b : Rat) * d) = (a * d : Int) := by simp; rw [← ea]; grind
  have e2 : y * ((b : Rat) * d) = (c * b : Int) := by simp; rw [← ec]; grind
  rw [e1, e2]
theorem q_div (q : Rat) : q = (q.num : Rat) / ((q.den : Int) : Rat) := by
  have := nd q
  rw [← this, Rat.mul_div_cancel (by have := denr_pos q; grind)]
theorem mul_p (a : Int) (j : Nat) : (a : Rat) * p j = (a : Rat) / (T j : Rat) := by
  have := pT j
  have h : (a : Rat) = (a * p j) * (T j : Rat) := by grind
  have h2 := Tr_pos j
  conv => rhs; rw [h]
  rw [Rat.mul_div_cancel (by grind)]
theorem lt_half {a : Int} {j : Nat} {h : Rat} : ((a : Rat) * p j < h) ↔ a * (h.den : Int) < h.num * T j := by
  have k := lt_div (a := a) (c := h.num) (T_pos j) (den_pos h)
  rw [← q_div h, ← mul_p] at k
  exact k
theorem fl1 {f l P T D : Rat} (hT : 0 < T) (hD : 0 < D) (k : P * T = 1) (h : f * D ≤ l * D * T) : f * P ≤ l := by
  apply Rat.le_of_mul_le_mul_right (c := D * T) _ (Rat.mul_pos hD hT)
  have e1 : f * P * (D * T) = f * D := by grind
  rw [e1]; grind
theorem fl2 {f l P T D : Rat} (hT : 0 < T) (hD : 0 < D) (k : P * T = 1) (h : l * D * T < f * D) : l < f * P := by
  apply Rat.lt_of_mul_lt_mul_right (c := D * T) _ (Rat.le_of_lt (Rat.mul_pos hD hT))
  have e1 : f * P * (D * T) = f * D := by grind
  rw [e1]; grind
theorem floor_half {l : Rat} {j : Nat} : ((l.num * T j / (l.den : Int) : Int) : Rat) * p j ≤ l ∧ l < (((l.num * T j / (l.den : Int) : Int) : Rat) + 1) * p j := by
  have hd := den_pos l
  have h1 : l.num * T j / (l.den : Int) * (l.den : Int) ≤ l.num * T j := Int.ediv_mul_le _ (by omega)
  have h2 : l.num * T j < (l.num * T j / (l.den : Int) + 1) * (l.den : Int) := Int.lt_ediv_add_one_mul_self _ hd
  generalize l.num * T j / (l.den : Int) = f at *
  have h1' := Rat.intCast_le_intCast.mpr h1
  have h2' := Rat.intCast_lt_intCast.mpr h2
  simp only [Rat.intCast_mul, Rat.intCast_add] at h1' h2'
  rw [← nd l] at h1' h2'
  have : ((1 : Int) : Rat) = 1 := rfl
  rw [this] at h2'
  exact ⟨fl1 (Tr_pos j) (denr_pos l) (pT j) h1', fl2 (Tr_pos j) (denr_pos l) (pT j) h2'⟩
end NB

set_option linter.all false
/-! numbers by signs, plainly: bounds, how many signs -/
namespace NB
theorem p_raise (m : Nat) : ∀ (d : Nat), p m = (T d : Rat) * p (m + d)
  | 0 => by simp [T0]
  | d + 1 => by
    have := p_raise m d
    have e : p (m + d) = 2 * p (m + (d + 1)) := by rw [show m + (d + 1) = (m + d) + 1 by omega]; simp only [p]; grind
    rw [Ts]; simp; grind
theorem p_lt {i j : Nat} (h : i < j) : p j < p i := by
  obtain ⟨d, rfl⟩ : ∃ d, j = i + (d + 1) := ⟨j - i - 1, by omega⟩
  have := p_raise i (d + 1)
  have hp := p_pos (i + (d + 1))
  have e : (T (d + 1) : Rat) = 2 * (T d : Rat) := by rw [Ts]; simp
  have h1 : ((1 : Int) : Rat) ≤ (T d : Rat) := Rat.intCast_le_intCast.mpr (by have := T_pos d; omega)
  have h2 : p (i + (d + 1)) * 1 ≤ p (i + (d + 1)) * (T d : Rat) := Rat.mul_le_mul_of_nonneg_left h1 (by grind)
  rw [this, e]; grind
/-- at most so great, at most so many halves -/
def Bx (B : Nat) (q : Rat) : Prop := -((B : Int) : Rat) ≤ q ∧ q ≤ ((B : Int) : Rat) ∧ ∃ a : Int, q = a * p B
theorem raise {q : Rat} {m : Nat} {a : Int} (h : q = a * p m) {M : Nat} (hm : m ≤ M) : ∃ b : Int, q = b * p M := by
  obtain ⟨d, rfl⟩ : ∃ d, M = m + d := ⟨M - m, by omega⟩
  exact ⟨a * T d, by rw [h, p_raise m d]; simp; grind⟩
theorem Bx.mono {B C : Nat} {q : Rat} (h : Bx B q) (k : B ≤ C) : Bx C q := by
  obtain ⟨h1, h2, a, e⟩ := h
  have : ((B : Int) : Rat) ≤ ((C : Int) : Rat) := Rat.intCast_le_intCast.mpr (by omega)
  exact ⟨by grind, by grind, raise e k⟩
theorem Bx.neg {B : Nat} {q : Rat} (h : Bx B q) : Bx B (-q) := by
  obtain ⟨h1, h2, a, e⟩ := h
  exact ⟨by grind, by grind, -a, by rw [e]; simp; grind⟩
theorem Bx.mid {B : Nat} {q r : Rat} (h : Bx B q) (k : Bx B r) : Bx (B + 1) ((q + r) / 2) := by
  obtain ⟨h1, h2, a, e⟩ := h
  obtain ⟨k1, k2, b, f⟩ := k
  have ec : (((B + 1 : Nat) : Int) : Rat) = ((B : Int) : Rat) + 1 := by simp
  refine ⟨by rw [ec]; grind, by rw [ec]; grind, a + b, ?_⟩
  rw [e, f]; simp only [p]; simp; grind
theorem Bx.surj {B : Nat} {q : Rat} (h : Bx B q) : ∃ w, (node w).x = q ∧ w.length ≤ 2 * B + 1 := by
  obtain ⟨h1, h2, a, e⟩ := h
  obtain ⟨w, e1, e2⟩ := NB.surj B B a (by rw [← e]; exact h1) (by rw [← e]; exact h2)
  exact ⟨w, by rw [e1, e], by omega⟩
theorem Sh.bx {s : St} {n : Nat} (h : Sh s n) : ∀ q, (q = s.x ∨ s.lo = some q ∨ s.hi = some q) → Bx n q := by
  obtain ⟨x, lo, hi⟩ := s
  intro q hq
  cases h with
  | mid h1 h2 h3 h4 =>
    simp only at h1 h2 h3 hq; subst h1 h2 h3 h4
    rcases hq with rfl | hq | hq
    · exact ⟨by simp, by simp, 0, by simp⟩
    · cases hq
    · cases hq
  | pos k h0 h1 h2 h3 h4 =>
    simp only at h1 h2 h3 hq; subst h1 h2 h3
    have en : ((n : Int) : Rat) = k + 1 := by rw [h4]; simp
    have k0 : ((0 : Int) : Rat) ≤ k := Rat.intCast_le_intCast.mpr h0
    have k0' : (0 : Rat) ≤ k := k0
    rcases hq with rfl | hq | hq
    · exact ⟨by rw [en]; grind, by rw [en]; grind, raise (m := 0) (a := k + 1) (by simp [p]) (by omega)⟩
    · cases hq; exact ⟨by rw [en]; grind, by rw [en]; grind, raise (m := 0) (a := k) (by simp [p]) (by omega)⟩
    · cases hq
  | neg k h0 h1 h2 h3 h4 =>
    simp only at h1 h2 h3 hq; subst h1 h2 h3
    have en : ((n : Int) : Rat) = k + 1 := by rw [h4]; simp
    have k0 : ((0 : Int) : Rat) ≤ k := Rat.intCast_le_intCast.mpr h0
    have k0' : (0 : Rat) ≤ k := k0
    rcases hq with rfl | hq | hq
    · exact ⟨by rw [en]; grind, by rw [en]; grind, raise (m := 0) (a := -(k + 1)) (by simp [p]) (by omega)⟩
    · cases hq
    · cases hq; exact ⟨by rw [en]; grind, by rw [en]; grind, raise (m := 0) (a := -k) (by simp [p]) (by omega)⟩
  | fr t j k h1 h2 h3 h4 h0 h5 h6 =>
    simp only at h1 h2 h3 hq; subst h1 h2 h3
    have k0 : ((0 : Int) : Rat) ≤ k := Rat.intCast_le_intCast.mpr h0
    have k0' : (0 : Rat) ≤ k := k0
    have en : (k : Rat) + 1 ≤ ((n : Int) : Rat) := by
      have : ((k + 1 : Int) : Rat) ≤ ((n : Int) : Rat) := Rat.intCast_le_intCast.mpr (by omega)
      simpa using this
    have hp := p_pos (j + 1)
    have pe : p j = 2 * p (j + 1) := by simp only [p]; grind
    simp only [pe] at h5 h6 hq
    have hb : -((n : Int) : Rat) ≤ t * (2 * p (j + 1)) ∧ (t + 1) * (2 * p (j + 1)) ≤ ((n : Int) : Rat) := by
      by_cases c : 0 ≤ t
      · have := h5 c; constructor <;> grind
      · have := h6 (by omega); constructor <;> grind
    rcases hq with rfl | hq | hq
    · exact ⟨by grind, by grind, raise (m := j + 1) (a := 2 * t + 1) (by simp) (by omega)⟩
    · cases hq; exact ⟨by grind, by grind, raise (m := j + 1) (a := 2 * t) (by simp; grind) (by omega)⟩
    · cases hq; exact ⟨by grind, by grind, raise (m := j + 1) (a := 2 * t + 2) (by simp; grind) (by omega)⟩
theorem node_bx (w : List Bool) : Bx w.length (node w).x := (node_sh w).bx _ (.inl rfl)
def Bn (n : Nat) (i : Int) : Prop := i.natAbs < 2 ^ n
/-- what the program is asked of -/
def Dq (q : Rat) : Prop := (∃ m, m ≤ 400 ∧ q.den = 2 ^ m) ∧ Bn 420 q.num
theorem num_bd {q : Rat} {B m : Nat} (hd : q.den = 2 ^ m) (h1 : -((B : Int) : Rat) ≤ q) (h2 : q ≤ ((B : Int) : Rat)) : q.num.natAbs ≤ B * 2 ^ m := by
  have e := nd q
  have hr := denr_pos q
  have a1 := Rat.mul_le_mul_of_nonneg_right h1 (Rat.le_of_lt hr)
  have a2 := Rat.mul_le_mul_of_nonneg_right h2 (Rat.le_of_lt hr)
  rw [e] at a1 a2
  have a1' : ((-(B : Int) * (q.den : Int) : Int) : Rat) ≤ (q.num : Rat) := by simp; exact a1
  have a2' : (q.num : Rat) ≤ (((B : Int) * (q.den : Int) : Int) : Rat) := by simp; exact a2
  have b1 := Rat.intCast_le_intCast.mp a1'
  have b2 := Rat.intCast_le_intCast.mp a2'
  rw [hd] at b1 b2
  have e2 : ((B * 2 ^ m : Nat) : Int) = (B : Int) * ((2 ^ m : Nat) : Int) := by simp
  rw [Int.neg_mul, ← e2] at b1
  rw [← e2] at b2
  omega
theorem Bx.dq {B : Nat} {q : Rat} (h : Bx B q) (hB : B ≤ 400) : Dq q := by
  obtain ⟨h1, h2, a, e⟩ := h
  obtain ⟨m, k1, k2, k3⟩ := dy B a
  rw [← e] at k2 k3
  refine ⟨⟨m, by omega, k2⟩, ?_⟩
  have := num_bd k2 h1 h2
  unfold Bn
  have h3 : 2 ^ m ≤ 2 ^ 400 := Nat.pow_le_pow_right (by omega) (by omega)
  have h4 : B * 2 ^ m ≤ 400 * 2 ^ 400 := Nat.mul_le_mul (by omega) h3
  have h5 : 400 * 2 ^ 400 < 2 ^ 420 := by decide +kernel
  omega
theorem Dq.at {q : Rat} (h : Dq q) : ∃ a : Int, q = a * p 400 := by
  obtain ⟨⟨m, h1, h2⟩, _⟩ := h
  exact raise (of_den h2) h1
theorem Dq.neg {q : Rat} (h : Dq q) : Dq (-q) := by
  obtain ⟨h1, h2⟩ := h
  exact ⟨h1, by unfold Bn at *; rw [Rat.neg_num, Int.natAbs_neg]; exact h2⟩
theorem Dq.int {n : Int} (h : Bn 420 n) : Dq (n : Rat) := ⟨⟨0, by omega, rfl⟩, h⟩
theorem hv_end {l h : Rat} {t : Int} {j : Nat} (H : Hv l h t j) (lt : l < h) (hl : Dq l) (hh : Dq h) : j ≤ 400 := by
  have g := hv_gap H
  obtain ⟨a, ea⟩ := hl.at
  obtain ⟨b, eb⟩ := hh.at
  have hp := p_pos 400
  have ab : (a : Rat) < b := by
    rw [ea, eb] at lt
    exact Rat.lt_of_mul_lt_mul_right lt (by grind)
  have ab' := Rat.intCast_lt_intCast.mp ab
  have ab2 : ((a + 1 : Int) : Rat) ≤ (b : Rat) := Rat.intCast_le_intCast.mpr (by omega)
  have := Rat.mul_le_mul_of_nonneg_right ab2 (Rat.le_of_lt hp)
  apply Classical.byContradiction
  intro c
  have := p_lt (show 400 < j by omega)
  have ec : ((a + 1 : Int) : Rat) = a + 1 := by simp
  rw [ec] at *
  rw [ea, eb] at g
  grind
/-- something lies between -/
theorem ex_z {lo hi : Option Rat} {B : Nat} (hl : ∀ q, lo = some q → Bx B q) (hh : ∀ q, hi = some q → Bx B q) (lt : ∀ a b, lo = some a → hi = some b → a < b) : ∃ z, In lo hi (node z).x ∧ z.length ≤ 2 * B + 3 := by
  cases lo with
  | none => cases hi with
    | none => exact ⟨[], ⟨nofun, nofun⟩, by simp⟩
    | some h =>
      refine ⟨List.replicate (B + 1) false, ⟨nofun, fun q e => ?_⟩, by simp; omega⟩
      cases e
      have := hh h rfl
      rw [node_dn]
      have ec : (((B + 1 : Nat) : Int) : Rat) = ((B : Int) : Rat) + 1 := by simp
      rw [ec]
      have := this.1; grind
  | some l => cases hi with
    | none =>
      refine ⟨List.replicate (B + 1) true, ⟨fun q e => ?_, nofun⟩, by simp; omega⟩
      cases e
      have := hl l rfl
      rw [node_up]
      have ec : (((B + 1 : Nat) : Int) : Rat) = ((B : Int) : Rat) + 1 := by simp
      rw [ec]
      have := this.2.1; grind
    | some h =>
      obtain ⟨z, e, k⟩ := ((hl l rfl).mid (hh h rfl)).surj
      have := lt l h rfl rfl
      exact ⟨z, ⟨fun q e => by cases e; grind, fun q e => by cases e; grind⟩, by omega⟩
theorem pow_inj {a b : Nat} (h : 2 ^ a = 2 ^ b) : a = b := by
  exact Nat.pow_right_inj (a := 2) (by omega) |>.mp h
theorem le_T {k t : Int} {j : Nat} : ((k : Rat) ≤ t * p j) ↔ k * T j ≤ t := by
  have h := pT j
  have hT := Tr_pos j
  rw [← Rat.intCast_le_intCast]
  simp only [Rat.intCast_mul]
  have e1 : (t : Rat) * p j * (T j : Rat) = t := by rw [Rat.mul_assoc, h, Rat.mul_one]
  have e2 : (k : Rat) * (T j : Rat) * p j = k := by rw [Rat.mul_assoc, Rat.mul_comm (T j : Rat), h, Rat.mul_one]
  constructor
  · intro q
    have := Rat.mul_le_mul_of_nonneg_right q (Rat.le_of_lt hT)
    rw [e1] at this; exact this
  · intro q
    have := Rat.mul_le_mul_of_nonneg_right q (Rat.le_of_lt (p_pos j))
    rw [e2] at this; exact this
theorem le_T' {k t : Int} {j : Nat} : (t * p j ≤ (k : Rat)) ↔ t ≤ k * T j := by
  have h := pT j
  have hT := Tr_pos j
  rw [← Rat.intCast_le_intCast]
  simp only [Rat.intCast_mul]
  have e1 : (t : Rat) * p j * (T j : Rat) = t := by rw [Rat.mul_assoc, h, Rat.mul_one]
  have e2 : (k : Rat) * (T j : Rat) * p j = k := by rw [Rat.mul_assoc, Rat.mul_comm (T j : Rat), h, Rat.mul_one]
  constructor
  · intro q
    have := Rat.mul_le_mul_of_nonneg_right q (Rat.le_of_lt hT)
    rw [e1] at this; exact this
  · intro q
    have := Rat.mul_le_mul_of_nonneg_right q (Rat.le_of_lt (p_pos j))
    rw [e2] at this; exact this
/-- how many signs -/
theorem sn_node (w : List Bool) {m : Nat} (hm : (node w).x.den = 2 ^ m) : ((node w).x.num.natAbs : Int) / (2 ^ m : Nat) + m + (if 0 < ((node w).x.num.natAbs : Int) % (2 ^ m : Nat) then 1 else 0) = w.length := by
  have h := node_sh w
  generalize node w = s at *
  generalize w.length = n at *
  obtain ⟨x, lo, hi⟩ := s
  simp only at hm ⊢
  cases h with
  | mid h1 h2 h3 h4 =>
    simp only at h1; subst h1 h4
    have : m = 0 := pow_inj (show 2 ^ m = 2 ^ 0 from hm.symm)
    subst this; rfl
  | pos k h0 h1 h2 h3 h4 =>
    simp only at h1; subst h1
    have e : (k : Rat) + 1 = ((k + 1 : Int) : Rat) := by simp
    rw [e] at hm ⊢
    have : m = 0 := pow_inj (show 2 ^ m = 2 ^ 0 from hm.symm)
    subst this
    rw [Rat.num_intCast]; simp; omega
  | neg k h0 h1 h2 h3 h4 =>
    simp only at h1; subst h1
    have e : -((k : Rat) + 1) = ((-(k + 1) : Int) : Rat) := by simp
    rw [e] at hm ⊢
    have : m = 0 := pow_inj (show 2 ^ m = 2 ^ 0 from hm.symm)
    subst this
    rw [Rat.num_intCast]; simp; omega
  | fr t j k h1 h2 h3 h4 h0 h5 h6 =>
    simp only at h1; subst h1
    have e : (2 * (t : Rat) + 1) * p (j + 1) = ((2 * t + 1 : Int) : Rat) * p (j + 1) := by simp
    rw [e] at hm ⊢
    obtain ⟨a1, a2⟩ := nd_odd (a := 2 * t + 1) (n := j + 1) (.inl (by omega))
    rw [a2] at hm
    have := pow_inj hm
    subst this
    rw [a1]
    have hT : ((2 ^ (j + 1) : Nat) : Int) = 2 * T j := by rw [← Ts]; rfl
    rw [hT]
    have hTp := T_pos j
    have key : k * T j * 2 < ((2 * t + 1).natAbs : Int) ∧ ((2 * t + 1).natAbs : Int) < (k + 1) * T j * 2 := by
      by_cases c : 0 ≤ t
      · obtain ⟨b1, b2⟩ := h5 c
        have c1 := le_T.mp b1
        have c2 := le_T'.mp (show ((t + 1 : Int) : Rat) * p j ≤ ((k + 1 : Int) : Rat) by simp; exact b2)
        omega
      · obtain ⟨b1, b2⟩ := h6 (by omega)
        have c1 := le_T.mp (show (k : Rat) ≤ ((-(t + 1) : Int) : Rat) * p j by simp; grind)
        have c2 := le_T'.mp (show ((-t : Int) : Rat) * p j ≤ ((k + 1 : Int) : Rat) by simp; grind)
        omega
    have ek : ((2 * t + 1).natAbs : Int) / (2 * T j) = k := by
      apply Int.le_antisymm
      · exact Int.lt_add_one_iff.mp (Int.ediv_lt_of_lt_mul (by omega) (by rw [show (k + 1) * (2 * T j) = (k + 1) * T j * 2 by grind]; exact key.2))
      · exact Int.le_ediv_of_mul_le (by omega) (by rw [show k * (2 * T j) = k * T j * 2 by grind]; omega)
    have em : 0 < ((2 * t + 1).natAbs : Int) % (2 * T j) := by
      have := Int.emod_add_mul_ediv ((2 * t + 1).natAbs : Int) (2 * T j)
      rw [ek, show 2 * T j * k = k * T j * 2 by grind] at this
      omega
    rw [ek, if_pos em]
    omega
end NB

set_option linter.all false
/-! numbers by signs, plainly: days, words in order -/
namespace NB
/-- all words that go on from u by at most d signs, by their numbers -/
def io : Nat → List Bool → List (List Bool)
  | 0, u => [u]
  | d + 1, u => io d (u ++ [false]) ++ u :: io d (u ++ [true])
/-- what lies behind each -/
def Jl (hi : Option Rat) : List (List Bool) → List (List Bool) → Prop
  | [], [] => True
  | x :: r, w :: g => (node w).lo = some (node x).x ∧ (node w).hi = (match r with | [] => hi | y :: _ => some (node y).x) ∧ Jl hi r g
  | _, _ => False
def weave : List (List Bool) → List (List Bool) → List (List Bool)
  | x :: r, w :: g => x :: w :: weave r g
  | _, _ => []
theorem Jl.len {hi : Option Rat} : ∀ {r g : List (List Bool)}, Jl hi r g → r.length = g.length
  | [], [], _ => rfl
  | _ :: r, _ :: g, h => by have := Jl.len (r := r) (g := g) h.2.2; simp [this]
  | [], _ :: _, h => h.elim
  | _ :: _, [], h => h.elim
theorem Jl.app {hi : Option Rat} {x : List Bool} {B g2 : List (List Bool)} (h2 : Jl hi (x :: B) g2) : ∀ {A g1 : List (List Bool)}, Jl (some (node x).x) A g1 → Jl hi (A ++ x :: B) (g1 ++ g2)
  | [], [], _ => h2
  | [y], [w], h => ⟨h.1, h.2.1, Jl.app h2 (A := []) (g1 := []) trivial⟩
  | y :: z :: r, w :: w2 :: g, h => ⟨h.1, h.2.1, Jl.app h2 (A := z :: r) (g1 := w2 :: g) h.2.2⟩
  | [_], _ :: _ :: _, h => h.2.2.elim
  | _ :: _ :: _, [_], h => h.2.2.elim
  | [], _ :: _, h => h.elim
  | _ :: _, [], h => h.elim
theorem weave_app {x w : List Bool} {B g2 : List (List Bool)} : ∀ {A g1 : List (List Bool)}, A.length = g1.length → weave (A ++ x :: B) (g1 ++ w :: g2) = weave A g1 ++ x :: w :: weave B g2
  | [], [], _ => rfl
  | y :: A, w2 :: g1, h => by
    show y :: w2 :: weave (A ++ x :: B) (g1 ++ w :: g2) = _
    rw [weave_app (by simpa using h)]; rfl
  | [], _ :: _, h => by simp at h
  | _ :: _, [], h => by simp at h
theorem io_ne (d : Nat) (u : List Bool) : ∃ x r, io d u = x :: r := by
  cases d with
  | zero => exact ⟨u, [], rfl⟩
  | succ d =>
    show ∃ x r, io d (u ++ [false]) ++ u :: io d (u ++ [true]) = x :: r
    cases io d (u ++ [false]) with
    | nil => exact ⟨_, _, rfl⟩
    | cons a b => exact ⟨_, _, rfl⟩
/-- a day's gaps -/
theorem day_gaps : ∀ (d : Nat) (u : List Bool), ∃ (w : List Bool) (g : List (List Bool)), (node w).lo = (node u).lo ∧ (∀ x r, io d u = x :: r → (node w).hi = some (node x).x) ∧ Jl (node u).hi (io d u) g ∧ io (d + 1) u = w :: weave (io d u) g ∧ w.length = u.length + d + 1 ∧ ∀ v ∈ g, v.length = u.length + d + 1
  | 0, u => by
    refine ⟨u ++ [false], [u ++ [true]], ?_, ?_, ⟨?_, ?_, trivial⟩, rfl, by simp, by simp⟩
    · rw [node_snoc, step_lo]; rfl
    · intro x r e
      have : u = x := by have := congrArg List.head? e; simpa [io] using this
      subst this
      rw [node_snoc, step_hi]; rfl
    · rw [node_snoc, step_lo]; rfl
    · rw [node_snoc, step_hi]; rfl
  | d + 1, u => by
    obtain ⟨w1, g1, a1, a2, a3, a4, a5, a6⟩ := day_gaps d (u ++ [false])
    obtain ⟨w2, g2, b1, b2, b3, b4, b5, b6⟩ := day_gaps d (u ++ [true])
    have e1 : (node (u ++ [false])).hi = some (node u).x := by rw [node_snoc, step_hi]; rfl
    have e2 : (node (u ++ [true])).lo = some (node u).x := by rw [node_snoc, step_lo]; rfl
    have e3 : (node (u ++ [false])).lo = (node u).lo := by rw [node_snoc, step_lo]; rfl
    have e4 : (node (u ++ [true])).hi = (node u).hi := by rw [node_snoc, step_hi]; rfl
    rw [e1] at a3; rw [e3] at a1; rw [e2] at b1; rw [e4] at b3
    obtain ⟨x2, r2, hB⟩ := io_ne d (u ++ [true])
    have j2 : Jl (node u).hi (u :: io d (u ++ [true])) (w2 :: g2) := by
      refine ⟨b1, ?_, b3⟩
      rw [b2 x2 r2 hB, hB]
    refine ⟨w1, g1 ++ w2 :: g2, a1, fun x r e => ?_, Jl.app j2 a3, ?_, by rw [a5]; simp; omega, fun v hv => ?_⟩
    · obtain ⟨x1, r1, hA⟩ := io_ne d (u ++ [false])
      rw [a2 x1 r1 hA]
      have e' : io d (u ++ [false]) ++ u :: io d (u ++ [true]) = x :: r := e
      rw [hA] at e'
      cases e'
      rfl
    · show io (d + 1) (u ++ [false]) ++ u :: io (d + 1) (u ++ [true]) = _
      rw [a4, b4]
      show _ = w1 :: weave (io d (u ++ [false]) ++ u :: io d (u ++ [true])) (g1 ++ w2 :: g2)
      rw [weave_app a3.len]; rfl
    · rcases List.mem_append.mp hv with hv | hv
      · rw [a6 v hv]; simp; omega
      · rcases List.mem_cons.mp hv with rfl | hv
        · rw [b5]; simp; omega
        · rw [b6 v hv]; simp; omega
theorem io_mem : ∀ (d : Nat) (u v : List Bool), v ∈ io d u → ∃ z, v = u ++ z ∧ z.length ≤ d
  | 0, u, v, h => ⟨[], by simpa [io] using h, by simp⟩
  | d + 1, u, v, h => by
    have h' : v ∈ io d (u ++ [false]) ++ u :: io d (u ++ [true]) := h
    rcases List.mem_append.mp h' with h' | h'
    · obtain ⟨z, e, k⟩ := io_mem d _ v h'
      exact ⟨false :: z, by rw [e]; simp, by simp; omega⟩
    · rcases List.mem_cons.mp h' with rfl | h'
      · exact ⟨[], by simp, by simp⟩
      · obtain ⟨z, e, k⟩ := io_mem d _ v h'
        exact ⟨true :: z, by rw [e]; simp, by simp; omega⟩
/-- they ascend -/
theorem io_asc : ∀ (d : Nat) (u : List Bool), (io d u).Pairwise (fun v w => (node v).x < (node w).x)
  | 0, u => by simp [io]
  | d + 1, u => by
    show (io d (u ++ [false]) ++ u :: io d (u ++ [true])).Pairwise _
    rw [List.pairwise_append, List.pairwise_cons]
    have dn : ∀ v ∈ io d (u ++ [false]), (node v).x < (node u).x := fun v hv => by
      obtain ⟨z, e, _⟩ := io_mem d _ v hv
      rw [e, List.append_assoc]; exact dn_lt u z
    have up : ∀ v ∈ io d (u ++ [true]), (node u).x < (node v).x := fun v hv => by
      obtain ⟨z, e, _⟩ := io_mem d _ v hv
      rw [e, List.append_assoc]; exact up_lt u z
    refine ⟨io_asc d _, ⟨up, io_asc d _⟩, fun v hv w hw => ?_⟩
    have k1 := dn v hv
    rcases List.mem_cons.mp hw with rfl | hw
    · exact k1
    · have k2 := up w hw; grind
theorem io_len : ∀ (d : Nat) (u : List Bool), (io d u).length + 1 = 2 ^ (d + 1)
  | 0, u => rfl
  | d + 1, u => by
    show (io d (u ++ [false]) ++ u :: io d (u ++ [true])).length + 1 = _
    rw [List.length_append, List.length_cons]
    have h1 := io_len d (u ++ [false])
    have h2 := io_len d (u ++ [true])
    rw [Nat.pow_succ]; omega
/-- words level by level -/
def lev : Nat → List Bool → List (List Bool)
  | 0, u => [u]
  | k + 1, u => lev k (u ++ [true]) ++ lev k (u ++ [false])
theorem lev_next : ∀ (k : Nat) (u : List Bool), (lev k u).flatMap (fun w => [w ++ [true], w ++ [false]]) = lev (k + 1) u
  | 0, u => by simp [lev]
  | k + 1, u => by
    show (lev k (u ++ [true]) ++ lev k (u ++ [false])).flatMap _ = _
    rw [List.flatMap_append, lev_next k, lev_next k]; rfl
def alls : Nat → List Bool → List (List Bool)
  | 0, u => lev 0 u
  | d + 1, u => alls d u ++ lev (d + 1) u
theorem alls_perm : ∀ (d : Nat) (u : List Bool), (alls (d + 1) u).Perm (u :: (alls d (u ++ [true]) ++ alls d (u ++ [false])))
  | 0, u => by simp [alls, lev]
  | d + 1, u => by
    show (alls (d + 1) u ++ (lev (d + 1) (u ++ [true]) ++ lev (d + 1) (u ++ [false]))).Perm (u :: ((alls d (u ++ [true]) ++ lev (d + 1) (u ++ [true])) ++ (alls d (u ++ [false]) ++ lev (d + 1) (u ++ [false]))))
    refine ((alls_perm d u).append_right _).trans ?_
    rw [List.cons_append]
    refine List.Perm.cons _ ?_
    generalize alls d (u ++ [true]) = a
    generalize alls d (u ++ [false]) = b
    generalize lev (d + 1) (u ++ [true]) = c
    generalize lev (d + 1) (u ++ [false]) = e
    rw [List.append_assoc, List.append_assoc]
    refine List.Perm.append_left a ?_
    rw [← List.append_assoc, ← List.append_assoc]
    exact (List.perm_append_comm).append_right e
theorem io_perm : ∀ (d : Nat) (u : List Bool), (io d u).Perm (alls d u)
  | 0, u => List.Perm.refl _
  | d + 1, u => by
    refine List.Perm.trans ?_ (alls_perm d u).symm
    show (io d (u ++ [false]) ++ u :: io d (u ++ [true])).Perm _
    refine List.Perm.trans List.perm_middle ?_
    refine List.Perm.cons _ ?_
    exact (((io_perm d _).append (io_perm d _)).trans List.perm_append_comm)
/-! words compared -/
def kl : Nat → List Bool → List Int
  | 0, _ => []
  | n + 1, [] => 1 :: kl n []
  | n + 1, b :: w => (if b then 2 else 0) :: kl n w
def kd (w : List Bool) (i : Nat) : Int := match w[i]? with
  | some true => 2
  | some false => 0
  | none => 1
theorem kl_kd : ∀ (n : Nat) (w : List Bool), kl n w = (List.range n).map (kd w)
  | 0, _ => rfl
  | n + 1, [] => by
    rw [List.range_succ_eq_map, List.map_cons, List.map_map]
    show 1 :: kl n [] = _
    rw [kl_kd n []]
    rfl
  | n + 1, b :: w => by
    rw [List.range_succ_eq_map, List.map_cons, List.map_map]
    show (if b then 2 else 0) :: kl n w = _
    rw [kl_kd n w]
    congr 1
    cases b <;> rfl
/-- the order of two words that go on from s -/
theorem lex_lt (lx : List Int → List Int → Bool) (h0 : ∀ l, lx l l = false) (h1 : ∀ x y l m, lx (x :: l) (y :: m) = if x = y then lx l m else decide (x < y)) : ∀ (n : Nat) (u v s : List Bool), u.length ≤ n → v.length ≤ n → lx (kl n u) (kl n v) = decide ((node (s ++ u)).x < (node (s ++ v)).x)
  | 0, u, v, s, hu, hv => by
    have : u = [] := List.eq_nil_of_length_eq_zero (by omega)
    have : v = [] := List.eq_nil_of_length_eq_zero (by omega)
    subst u v
    rw [h0]; exact (decide_eq_false (by grind)).symm
  | n + 1, [], [], s, _, _ => by rw [h0]; exact (decide_eq_false (by grind)).symm
  | n + 1, [], c :: v, s, _, _ => by
    show lx (1 :: _) ((if c then 2 else 0) :: _) = _
    rw [h1, List.append_nil]
    cases c
    · have := dn_lt s v
      rw [if_neg (by decide)]
      exact (decide_eq_false (by grind)).symm
    · have := up_lt s v
      rw [if_neg (by decide)]
      exact (decide_eq_true this).symm
  | n + 1, b :: u, [], s, _, _ => by
    show lx ((if b then 2 else 0) :: _) (1 :: _) = _
    rw [h1, List.append_nil]
    cases b
    · have := dn_lt s u
      rw [if_neg (by decide)]
      exact (decide_eq_true this).symm
    · have := up_lt s u
      rw [if_neg (by decide)]
      exact (decide_eq_false (by grind)).symm
  | n + 1, b :: u, c :: v, s, hu, hv => by
    show lx ((if b then 2 else 0) :: _) ((if c then 2 else 0) :: _) = _
    rw [h1]
    have hu' : u.length ≤ n := by simpa using hu
    have hv' : v.length ≤ n := by simpa using hv
    have ih := lex_lt lx h0 h1 n u v (s ++ [b]) hu' hv'
    cases b <;> cases c
    · rw [if_pos rfl, ih]; simp
    · have := dn_lt s u; have := up_lt s v
      rw [if_neg (by decide)]
      exact (decide_eq_true (by grind)).symm
    · have := up_lt s u; have := dn_lt s v
      rw [if_neg (by decide)]
      exact (decide_eq_false (by grind)).symm
    · rw [if_pos rfl, ih]; simp
/-! words that are told -/
theorem node_small : ∀ n : Nat, (node (true :: List.replicate n false)).lo = some 0 ∧ (node (true :: List.replicate n false)).x = p n ∧ (∀ h, (node (true :: List.replicate n false)).hi = some h → h = 2 * p n) ∧ (n ≠ 0 → (node (true :: List.replicate n false)).hi = some (2 * p n))
  | 0 => ⟨rfl, by show (node ([] ++ [true])).x = p 0; rw [node_snoc]; simp [step, node, run, s0, p]; grind, nofun, nofun⟩
  | n + 1 => by
    obtain ⟨h1, h2, h3, h4⟩ := node_small n
    have e : true :: List.replicate (n + 1) false = (true :: List.replicate n false) ++ [false] := by rw [List.replicate_succ']; rfl
    rw [e, node_snoc]
    have lo : (step false (node (true :: List.replicate n false))).lo = some 0 := by rw [step_lo]; exact h1
    have hi : (step false (node (true :: List.replicate n false))).hi = some (p n) := by rw [step_hi, ← h2]; rfl
    have pe : p n = 2 * p (n + 1) := by simp only [p]; grind
    refine ⟨lo, ?_, fun h q => ?_, fun _ => by rw [hi, pe]⟩
    · generalize node (true :: List.replicate n false) = s at *
      obtain ⟨x, l, h⟩ := s
      simp only at h1 h2
      subst h1 h2
      simp only [step, p]; simp; grind
    · rw [hi] at q; cases q; exact pe
theorem node_far (n : Nat) : (node (List.replicate (n + 1) true ++ [false])).x = ((2 * (n : Int) + 1 : Int) : Rat) * p 1 := by
  rw [node_snoc, node_up, if_neg (by omega)]
  simp only [step, p]
  simp
  grind
end NB

set_option Elab.async false
set_option linter.all false
set_option maxRecDepth 100000
set_option maxHeartbeats 2000000
/-! law 08: its text's defs over the data layer. -/
namespace K08
open PySem PySem.Spec PyProof.Rows L2 DL
abbrev LW : PySem.W.OpenLaw := PySem.Challenge.rw_stuckloses_k08_whole_numbers_and_signs
def top (i : Nat) : Stmt := LW.prog.main.body.getD i (.Pass ⟨0, 0, 0, 0⟩)
/-- what the text tells of names -/
structure Fx (K : PySem.W.Frag) (mg : Str → Option Value) : Prop where
  z_abs : mg "abs" = none
  z_all : mg "all" = none
  z_bool : mg "bool" = none
  z_enumerate : mg "enumerate" = none
  z_int : mg "int" = none
  z_isinstance : mg "isinstance" = none
  z_len : mg "len" = none
  z_list : mg "list" = none
  z_max : mg "max" = none
  z_range : mg "range" = none
  z_sorted : mg "sorted" = none
  z_str : mg "str" = none
  z_tuple : mg "tuple" = none
  z_zip : mg "zip" = none
  xc_BadNumber : XC K mg "BadNumber"
  m_MOST_SIGNS : ∃ t, mg "MOST_SIGNS" = some (.int 400 t)
def tbl (c : Str) : Option Bool := if c = "BadNumber" then some true else none
def lamq : Str := (PySem.W.envX "_law_refused" (defScope (top 43)) 0 0 (.ref 0) []).qual ++ "<lambda>"
structure Rz (K : PySem.W.Frag) (mg : Str → Option Value) : Prop where
  ex : ∃ (g : Addr) (gd : FuncData) (CS CB : Addr), FunD K "_law_raised" "_law_raised" (defArgs (top 42)) (defBody (top 42)) (defScope (top 42)) [] [] g gd ∧ mg "_law_raised" = some (.ref g) ∧ Binds K gd ["call"] [] ∧ mg "PlayError" = some (.ref CS) ∧ mg "BadNumber" = some (.ref CB) ∧
    ∀ c b, tbl c = some b → ∃ Dc, mg c = some (.ref Dc) ∧ ExcC K Dc ∧ PySem.W.exmOne K (.ref Dc) (.ref CS) = some true ∧ PySem.W.kitOne K (.ref Dc) (.ref CB) = some b
theorem sc_is_integer : FnScope ["thing"] ["thing"] (defScope (top 1)) := ⟨rfl, rfl, rfl, by decide +kernel, rfl, by decide +kernel, by decide +kernel⟩
def T1_is_integer : Ss := (sRet (eAnd (eB bIsi (aCons (eVar 0) (aCons (eC (.ty "int")) aNil))) (eNot (eB bIsi (aCons (eVar 0) (aCons (eC (.ty "bool")) aNil))))))
def S_is_integer : Ss := T1_is_integer
def F_is_integer : Fn := fnOf 1 S_is_integer
theorem sc_is_within : FnScope ["thing", "low", "high"] ["thing", "low", "high"] (defScope (top 2)) := ⟨rfl, rfl, rfl, by decide +kernel, rfl, by decide +kernel, by decide +kernel⟩
def T1_is_within : Ss := (sRet (eAnd (eCall 1 F_is_integer (aCons (eVar 0) aNil)) (eChain opLe opLe (eVar 1) (eVar 0) (eVar 2))))
def S_is_within : Ss := T1_is_within
def F_is_within : Fn := fnOf 3 S_is_within
theorem sc_is_tuple_of : FnScope ["thing", "many"] ["thing", "many"] (defScope (top 3)) := ⟨rfl, rfl, rfl, by decide +kernel, rfl, by decide +kernel, by decide +kernel⟩
def T1_is_tuple_of : Ss := (sRet (eAnd (eB bIsi (aCons (eVar 0) (aCons (eC (.ty "tuple")) aNil))) (eBin (opEq false) (eB bLen (aCons (eVar 0) aNil)) (eVar 1))))
def S_is_tuple_of : Ss := T1_is_tuple_of
def F_is_tuple_of : Fn := fnOf 2 S_is_tuple_of
theorem sc_common : FnScope ["one", "other"] ["one", "other"] (defScope (top 4)) := ⟨rfl, rfl, rfl, by decide +kernel, rfl, by decide +kernel, by decide +kernel⟩
def T1_common : Ss := (sPar [0, 1] (aCons (eB bAbs (aCons (eVar 0) aNil)) (aCons (eB bAbs (aCons (eVar 1) aNil)) aNil)))
def B2_common : Ss := (sPar [0, 1] (aCons (eVar 1) (aCons (eBin opMod (eVar 0) (eVar 1)) aNil)))
def T3_common : Ss := (sWhile (tCmpE opGt (eVar 1) (eC (.int 0))) B2_common 10000000000000000000000000000000000000000000000000000000000000000000000000000000000000000000000000000000000000000000000000000000000000000000000000000000000000000000000000000000000000000000000000000000000000000000000000000000000000000000000000000000000000000000000000000000000000000000000000000000000000000000000000000000000000000000000000000000000000000000000000000000000000000000000000000000000000000)
def T4_common : Ss := (sRet (eVar 0))
def S_common : Ss := (sSeq T1_common (sSeq T3_common T4_common))
def F_common : Fn := fnOf 2 S_common
theorem sc_frac : FnScope ["top", "bottom", "divisor"] ["top", "bottom"] (defScope (top 5)) := ⟨rfl, rfl, rfl, by decide +kernel, rfl, by decide +kernel, by decide +kernel⟩
def T1_frac : Ss := (sAsg 2 (eCall 2 F_common (aCons (eVar 0) (aCons (eVar 1) aNil))))
def T2_frac : Ss := (sIf (tCmpE opLt (eVar 1) (eC (.int 0))) (sAsg 2 (eUn unNeg (eVar 2))) sNext)
def T3_frac : Ss := (sRet (eTup (aCons (eBin opDiv (eVar 0) (eVar 2)) (aCons (eBin opDiv (eVar 1) (eVar 2)) aNil))))
def S_frac : Ss := (sSeq T1_frac (sSeq T2_frac T3_frac))
def F_frac : Fn := fnOf 3 S_frac
theorem sc_is_fraction : FnScope ["thing"] ["thing"] (defScope (top 6)) := ⟨rfl, rfl, rfl, by decide +kernel, rfl, by decide +kernel, by decide +kernel⟩
def T1_is_fraction : Ss := (sIf (bOr (bNot (tTru (eCall 2 F_is_tuple_of (aCons (eVar 0) (aCons (eC (.int 2)) aNil))))) (bOr (bNot (tTru (eCall 1 F_is_integer (aCons (eBin opIx (eVar 0) (eC (.int 0))) aNil)))) (bNot (tTru (eCall 1 F_is_integer (aCons (eBin opIx (eVar 0) (eC (.int 1))) aNil)))))) (sRet (eC (.bl false))) sNext)
def T2_is_fraction : Ss := (sRet (eAnd (eBin opGe (eBin opIx (eVar 0) (eC (.int 1))) (eC (.int 1))) (eBin (opEq false) (eCall 2 F_common (aCons (eBin opIx (eVar 0) (eC (.int 0))) (aCons (eBin opIx (eVar 0) (eC (.int 1))) aNil))) (eC (.int 1)))))
def S_is_fraction : Ss := (sSeq T1_is_fraction T2_is_fraction)
def F_is_fraction : Fn := fnOf 1 S_is_fraction
theorem sc_plus : FnScope ["one", "other"] ["one", "other"] (defScope (top 7)) := ⟨rfl, rfl, rfl, by decide +kernel, rfl, by decide +kernel, by decide +kernel⟩
def T1_plus : Ss := (sRet (eCall 2 F_frac (aCons (eBin opAdd (eBin opMulA (eBin opIx (eVar 0) (eC (.int 0))) (eBin opIx (eVar 1) (eC (.int 1)))) (eBin opMulA (eBin opIx (eVar 1) (eC (.int 0))) (eBin opIx (eVar 0) (eC (.int 1))))) (aCons (eBin opMulA (eBin opIx (eVar 0) (eC (.int 1))) (eBin opIx (eVar 1) (eC (.int 1)))) aNil))))
def S_plus : Ss := T1_plus
def F_plus : Fn := fnOf 2 S_plus
theorem sc_half_of : FnScope ["one"] ["one"] (defScope (top 8)) := ⟨rfl, rfl, rfl, by decide +kernel, rfl, by decide +kernel, by decide +kernel⟩
def T1_half_of : Ss := (sRet (eCall 2 F_frac (aCons (eBin opIx (eVar 0) (eC (.int 0))) (aCons (eBin opMulA (eC (.int 2)) (eBin opIx (eVar 0) (eC (.int 1)))) aNil))))
def S_half_of : Ss := T1_half_of
def F_half_of : Fn := fnOf 1 S_half_of
theorem sc_less : FnScope ["one", "other"] ["one", "other"] (defScope (top 9)) := ⟨rfl, rfl, rfl, by decide +kernel, rfl, by decide +kernel, by decide +kernel⟩
def T1_less : Ss := (sRet (eBin opLt (eBin opMulA (eBin opIx (eVar 0) (eC (.int 0))) (eBin opIx (eVar 1) (eC (.int 1)))) (eBin opMulA (eBin opIx (eVar 1) (eC (.int 0))) (eBin opIx (eVar 0) (eC (.int 1))))))
def S_less : Ss := T1_less
def F_less : Fn := fnOf 2 S_less
theorem sc_is_two_power : FnScope ["number"] ["number"] (defScope (top 10)) := ⟨rfl, rfl, rfl, by decide +kernel, rfl, by decide +kernel, by decide +kernel⟩
def T1_is_two_power : Ss := (sRet (eBin (opEq false) (eBin opAnd (eVar 0) (eBin opSub (eVar 0) (eC (.int 1)))) (eC (.int 0))))
def S_is_two_power : Ss := T1_is_two_power
def F_is_two_power : Fn := fnOf 1 S_is_two_power
theorem sc_is_half_number : FnScope ["thing"] ["thing"] (defScope (top 16)) := ⟨rfl, rfl, rfl, by decide +kernel, rfl, by decide +kernel, by decide +kernel⟩
def T1_is_half_number : Ss := (sRet (eAnd (eCall 1 F_is_fraction (aCons (eVar 0) aNil)) (eCall 1 F_is_two_power (aCons (eBin opIx (eVar 0) (eC (.int 1))) aNil))))
def S_is_half_number : Ss := T1_is_half_number
def F_is_half_number : Fn := fnOf 1 S_is_half_number
theorem sc_signs_number : FnScope ["number", "found", "rest", "bottom"] ["number"] (defScope (top 17)) := ⟨rfl, rfl, rfl, by decide +kernel, rfl, by decide +kernel, by decide +kernel⟩
def T1_signs_number : Ss := (sAsg 1 (eBin opDiv (eB bAbs (aCons (eBin opIx (eVar 0) (eC (.int 0))) aNil)) (eBin opIx (eVar 0) (eC (.int 1)))))
def T2_signs_number : Ss := (sPar [2, 3] (aCons (eBin opMod (eB bAbs (aCons (eBin opIx (eVar 0) (eC (.int 0))) aNil)) (eBin opIx (eVar 0) (eC (.int 1)))) (aCons (eBin opIx (eVar 0) (eC (.int 1))) aNil)))
def B3_signs_number : Ss := (sPar [1, 3] (aCons (eBin opAdd (eVar 1) (eC (.int 1))) (aCons (eBin opDiv (eVar 3) (eC (.int 2))) aNil)))
def T4_signs_number : Ss := (sWhile (tCmpE opGt (eVar 3) (eC (.int 1))) B3_signs_number 1000)
def T5_signs_number : Ss := (sRet (eBin opAdd (eVar 1) (eB bInt (aCons (eBin opGt (eVar 2) (eC (.int 0))) aNil))))
def S_signs_number : Ss := (sSeq T1_signs_number (sSeq T2_signs_number (sSeq T4_signs_number T5_signs_number)))
def F_signs_number : Fn := fnOf 4 S_signs_number
theorem sc_between_of : FnScope ["low", "high", "told", "whole", "bottom", "found", "top"] ["low", "high"] (defScope (top 18)) := ⟨rfl, rfl, rfl, by decide +kernel, rfl, by decide +kernel, by decide +kernel⟩
def S_between_of (Fr : Fn) : Ss := (sSeq (sIf (bAnd (bOr (tCmpE (opIs false) (eVar 0) (eC .non)) (tTru (eCall 2 F_less (aCons (eVar 0) (aCons (eTup (aCons (eC (.int 0)) (aCons (eC (.int 1)) aNil))) aNil))))) (bOr (tCmpE (opIs false) (eVar 1) (eC .non)) (tTru (eCall 2 F_less (aCons (eTup (aCons (eC (.int 0)) (aCons (eC (.int 1)) aNil))) (aCons (eVar 1) aNil)))))) (sRet (eTup (aCons (eC (.int 0)) (aCons (eC (.int 1)) aNil)))) sNext) (sSeq (sIf (bAnd (tCmpE (opIs true) (eVar 1) (eC .non)) (bNot (tTru (eCall 2 F_less (aCons (eTup (aCons (eC (.int 0)) (aCons (eC (.int 1)) aNil))) (aCons (eVar 1) aNil)))))) (sSeq (sAsg 2 (eCall 2 Fr (aCons (eTup (aCons (eUn unNeg (eBin opIx (eVar 1) (eC (.int 0)))) (aCons (eBin opIx (eVar 1) (eC (.int 1))) aNil))) (aCons (eIf (tCmpE (opIs false) (eVar 0) (eC .non)) (eC .non) (eTup (aCons (eUn unNeg (eBin opIx (eVar 0) (eC (.int 0)))) (aCons (eBin opIx (eVar 0) (eC (.int 1))) aNil)))) aNil)))) (sRet (eTup (aCons (eUn unNeg (eBin opIx (eVar 2) (eC (.int 0)))) (aCons (eBin opIx (eVar 2) (eC (.int 1))) aNil))))) sNext) (sSeq (sAsg 3 (eBin opAdd (eBin opDiv (eBin opIx (eVar 0) (eC (.int 0))) (eBin opIx (eVar 0) (eC (.int 1)))) (eC (.int 1)))) (sSeq (sIf (bOr (tCmpE (opIs false) (eVar 1) (eC .non)) (tTru (eCall 2 F_less (aCons (eTup (aCons (eVar 3) (aCons (eC (.int 1)) aNil))) (aCons (eVar 1) aNil))))) (sRet (eTup (aCons (eVar 3) (aCons (eC (.int 1)) aNil)))) sNext) (sSeq (sAsg 4 (eC (.int 1))) (sSeq (sAsg 5 (eC .non)) (sSeq (sWhile (tCmpE (opIs false) (eVar 5) (eC .non)) (sSeq (sAsg 4 (eBin opMulA (eVar 4) (eC (.int 2)))) (sSeq (sAsg 6 (eBin opAdd (eBin opDiv (eBin opMulA (eBin opIx (eVar 0) (eC (.int 0))) (eVar 4)) (eBin opIx (eVar 0) (eC (.int 1)))) (eC (.int 1)))) (sIf (tTru (eCall 2 F_less (aCons (eTup (aCons (eVar 6) (aCons (eVar 4) aNil))) (aCons (eVar 1) aNil)))) (sAsg 5 (eCall 2 F_frac (aCons (eVar 6) (aCons (eVar 4) aNil)))) sNext))) 1000) (sRet (eVar 5)))))))))
def R_between_of : Nat → Fn
  | 0 => fun _ _ => .stuck
  | n + 1 => fnOf 7 (S_between_of (R_between_of n))
def F_between_of : Fn := R_between_of 3
theorem sc_signs_of : FnScope ["number", "found", "low", "high", "here"] ["number"] (defScope (top 19)) := ⟨rfl, rfl, rfl, by decide +kernel, rfl, by decide +kernel, by decide +kernel⟩
def T1_signs_of : Ss := (sParN [1, 2, 3, 4] (nCons (nF (fLst aNil)) (nCons (nE (eC .non)) (nCons (nE (eC .non)) (nCons (nE (eTup (aCons (eC (.int 0)) (aCons (eC (.int 1)) aNil)))) nNil)))))
def B2_signs_of : Ss := (sSeq (sIf (tTru (eCall 2 F_less (aCons (eVar 4) (aCons (eVar 0) aNil)))) (sSeq (sApp 1 (eC (.str "L"))) (sAsg 2 (eVar 4))) (sSeq (sApp 1 (eC (.str "R"))) (sAsg 3 (eVar 4)))) (sAsg 4 (eCall 2 F_between_of (aCons (eVar 2) (aCons (eVar 3) aNil)))))
def T3_signs_of : Ss := (sWhile (tCmpE (opEq true) (eVar 4) (eVar 0)) B2_signs_of 1000)
def T4_signs_of : Ss := (sRet (eJoin (eC (.str "")) (eVar 1)))
def S_signs_of : Ss := (sSeq T1_signs_of (sSeq T3_signs_of T4_signs_of))
def F_signs_of : Fn := fnOf 5 S_signs_of
theorem sc_signs : FnScope ["number"] ["number"] (defScope (top 20)) := ⟨rfl, rfl, rfl, by decide +kernel, rfl, by decide +kernel, by decide +kernel⟩
def T1_signs : Ss := (sIf (bOr (bNot (tTru (eCall 1 F_is_half_number (aCons (eVar 0) aNil)))) (bOr (tCmpE opGt (eBin opDiv (eB bAbs (aCons (eBin opIx (eVar 0) (eC (.int 0))) aNil)) (eBin opIx (eVar 0) (eC (.int 1)))) (eC (.int 400))) (tCmpE opGt (eBin opIx (eVar 0) (eC (.int 1))) (eBin opShl (eC (.int 1)) (eC (.int 400)))))) (sRaise "BadNumber") sNext)
def T2_signs : Ss := (sRet (eCall 1 F_signs_of (aCons (eVar 0) aNil)))
def S_signs : Ss := (sSeq T1_signs T2_signs)
def F_signs : Fn := fnOf 1 S_signs
theorem sc_number_by : FnScope ["word", "low", "high", "here", "sign"] ["word"] (defScope (top 21)) := ⟨rfl, rfl, rfl, by decide +kernel, rfl, by decide +kernel, by decide +kernel⟩
def T1_number_by : Ss := (sIf (bOr (bNot (tTru (eB bIsi (aCons (eVar 0) (aCons (eC (.ty "str")) aNil))))) (bOr (tCmpE opGt (eB bLen (aCons (eVar 0) aNil)) (eC (.int 400))) (bNot (tTru (eB bAll (aCons (eF (fLc (iStrS (eVar 0)) (.one 4) [4] tYesE (eBin opInS (eVar 4) (eC (.str "LR"))))) aNil)))))) (sRaise "BadNumber") sNext)
def T2_number_by : Ss := (sAsgT (.many [1, 2, 3]) (eTup (aCons (eC .non) (aCons (eC .non) (aCons (eTup (aCons (eC (.int 0)) (aCons (eC (.int 1)) aNil))) aNil)))))
def B3_number_by : Ss := (sSeq (sIf (tCmpE (opEq false) (eVar 4) (eC (.str "L"))) (sAsg 1 (eVar 3)) (sAsg 2 (eVar 3))) (sAsg 3 (eCall 2 F_between_of (aCons (eVar 1) (aCons (eVar 2) aNil)))))
def T4_number_by : Ss := (sFor (iStrS (eVar 0)) (.one 4) B3_number_by)
def T5_number_by : Ss := (sRet (eVar 3))
def S_number_by : Ss := (sSeq T1_number_by (sSeq T2_number_by (sSeq T4_number_by T5_number_by)))
def F_number_by : Fn := fnOf 5 S_number_by
theorem sc_product_of : FnScope ["one", "other", "number"] ["one", "other"] (defScope (top 22)) := ⟨rfl, rfl, rfl, by decide +kernel, rfl, by decide +kernel, by decide +kernel⟩
def B1_product_of : Ss := (sIf (bNot (tTru (eCall 1 F_is_half_number (aCons (eVar 2) aNil)))) (sRaise "BadNumber") sNext)
def T2_product_of : Ss := (sFor (iSeq false (eTup (aCons (eVar 0) (aCons (eVar 1) aNil)))) (.one 2) B1_product_of)
def T3_product_of : Ss := (sRet (eCall 2 F_frac (aCons (eBin opMulA (eBin opIx (eVar 0) (eC (.int 0))) (eBin opIx (eVar 1) (eC (.int 0)))) (aCons (eBin opMulA (eBin opIx (eVar 0) (eC (.int 1))) (eBin opIx (eVar 1) (eC (.int 1)))) aNil))))
def S_product_of : Ss := (sSeq T2_product_of T3_product_of)
def F_product_of : Fn := fnOf 3 S_product_of
theorem sc_born_on : FnScope ["number"] ["number"] (defScope (top 23)) := ⟨rfl, rfl, rfl, by decide +kernel, rfl, by decide +kernel, by decide +kernel⟩
def T1_born_on : Ss := (sIf (bOr (bNot (tTru (eCall 1 F_is_half_number (aCons (eVar 0) aNil)))) (tCmpE opGt (eBin opIx (eVar 0) (eC (.int 1))) (eBin opShl (eC (.int 1)) (eC (.int 400))))) (sRaise "BadNumber") sNext)
def T2_born_on : Ss := (sRet (eCall 1 F_signs_number (aCons (eVar 0) aNil)))
def S_born_on : Ss := (sSeq T1_born_on T2_born_on)
def F_born_on : Fn := fnOf 1 S_born_on
theorem sc_numbers_by : FnScope ["day", "rows", "turn", "later", "at", "one"] ["day"] (defScope (top 24)) := ⟨rfl, rfl, rfl, by decide +kernel, rfl, by decide +kernel, by decide +kernel⟩
def T1_numbers_by : Ss := (sIf (bNot (tTru (eCall 3 F_is_within (aCons (eVar 0) (aCons (eC (.int 0)) (aCons (eC (.int 10)) aNil)))))) (sRaise "BadNumber") sNext)
def T2_numbers_by : Ss := (sAsg 1 (eLst (aCons (eTup (aCons (eC (.int 0)) (aCons (eC (.int 1)) aNil))) aNil)))
def B3_numbers_by : Ss := (sSeq (sApp 3 (eVar 5)) (sApp 3 (eCall 2 F_between_of (aCons (eVar 5) (aCons (eIf (tCmpE opLt (eBin opAdd (eVar 4) (eC (.int 1))) (eB bLen (aCons (eVar 1) aNil))) (eBin opIx (eVar 1) (eBin opAdd (eVar 4) (eC (.int 1)))) (eC .non)) aNil)))))
def B4_numbers_by : Ss := (sSeq (sSetN 3 (nF (fLst (aCons (eCall 2 F_between_of (aCons (eC .non) (aCons (eBin opIx (eVar 1) (eC (.int 0))) aNil))) aNil)))) (sSeq (sFor (iO (enumA false) (aCons (eVar 1) aNil)) (.many [4, 5]) B3_numbers_by) (sSeq (sFz 3) (sAsg 1 (eVar 3)))))
def T5_numbers_by : Ss := (sFor (iO rng1 (aCons (eVar 0) aNil)) (.one 2) B4_numbers_by)
def T6_numbers_by : Ss := (sRet (eB bTup (aCons (eVar 1) aNil)))
def S_numbers_by : Ss := (sSeq T1_numbers_by (sSeq T2_numbers_by (sSeq T5_numbers_by T6_numbers_by)))
def F_numbers_by : Fn := fnOf 6 S_numbers_by
theorem sc_middle_of : FnScope ["one", "other", "number"] ["one", "other"] (defScope (top 25)) := ⟨rfl, rfl, rfl, by decide +kernel, rfl, by decide +kernel, by decide +kernel⟩
def B1_middle_of : Ss := (sIf (bNot (tTru (eCall 1 F_is_half_number (aCons (eVar 2) aNil)))) (sRaise "BadNumber") sNext)
def T2_middle_of : Ss := (sFor (iSeq false (eTup (aCons (eVar 0) (aCons (eVar 1) aNil)))) (.one 2) B1_middle_of)
def T3_middle_of : Ss := (sRet (eCall 1 F_half_of (aCons (eCall 2 F_plus (aCons (eVar 0) (aCons (eVar 1) aNil))) aNil)))
def S_middle_of : Ss := (sSeq T2_middle_of T3_middle_of)
def F_middle_of : Fn := fnOf 3 S_middle_of
theorem sc_is_whole : FnScope ["number"] ["number"] (defScope (top 26)) := ⟨rfl, rfl, rfl, by decide +kernel, rfl, by decide +kernel, by decide +kernel⟩
def T1_is_whole : Ss := (sIf (bNot (tTru (eCall 1 F_is_half_number (aCons (eVar 0) aNil)))) (sRaise "BadNumber") sNext)
def T2_is_whole : Ss := (sRet (eAnd (eCall 1 F_is_integer (aCons (eBin opIx (eVar 0) (eC (.int 0))) aNil)) (eBin (opEq false) (eBin opIx (eVar 0) (eC (.int 1))) (eC (.int 1)))))
def S_is_whole : Ss := (sSeq T1_is_whole T2_is_whole)
def F_is_whole : Fn := fnOf 1 S_is_whole
theorem sc__law_hand : FnScope ["script", "cells", "cell"] ["script"] (defScope (top 28)) := ⟨rfl, rfl, rfl, by decide +kernel, rfl, by decide +kernel, by decide +kernel⟩
def T1__law_hand : Ss := (sSetN 1 (nE (eF (fLc (iSeq true (eSl (eVar 0) oNone (oSome (eC (.int 63))))) (.one 2) [2] tYesE (eB bAbs (aCons (eB bInt (aCons (eVar 2) aNil)) aNil))))))
def T2__law_hand : Ss := (sRet (eLst (aCons (eVar 1) (aCons (eC (.int 0)) (aCons (eC (.int 0)) (aCons (eBin opAdd (eC (.int 47)) (eBin opMulA (eC (.int 7)) (eB bLen (aCons (eVar 1) aNil)))) (aCons (eC (.int 0)) aNil)))))))
def S__law_hand : Ss := (sSeq T1__law_hand T2__law_hand)
def F__law_hand : Fn := fnOf 3 S__law_hand
theorem sc__law_draw : FnScope ["hand", "many", "cell", "digit", "number"] ["hand", "many"] (defScope (top 29)) := ⟨rfl, rfl, rfl, by decide +kernel, rfl, by decide +kernel, by decide +kernel⟩
def T1__law_draw : Ss := (sIf (bAnd (tCmpE (opEq false) (eBin opIx (eVar 0) (eC (.int 2))) (eC (.int 0))) (tCmpE opLt (eBin opIx (eVar 0) (eC (.int 1))) (eB bLen (aCons (eBin opIx (eVar 0) (eC (.int 0))) aNil)))) (sSeq (sAsg 2 (eBin opIx (eBin opIx (eVar 0) (eC (.int 0))) (eBin opIx (eVar 0) (eC (.int 1))))) (sSeq (sPut 0 (eC (.int 1)) (eBin opAdd (eBin opIx (eVar 0) (eC (.int 1))) (eC (.int 1)))) (sSeq (sPut 0 (eC (.int 3)) (eBin opMod (eB bInt (aCons (eBin opAdd (eBin opAdd (eBin opMulA (eBin opIx (eVar 0) (eC (.int 3))) (eC (.int 69621))) (eBin opMulA (eVar 2) (eC (.int 40692)))) (eC (.int 23))) aNil)) (eC (.int 2147483629)))) (sIf (tCmpE opGe (eVar 2) (eBin opPow (eC (.int 10)) (eC (.int 18)))) (sPut 0 (eC (.int 2)) (eVar 2)) sNext)))) sNext)
def T2__law_draw : Ss := (sIf (tCmpE opGt (eBin opIx (eVar 0) (eC (.int 2))) (eC (.int 0))) (sSeq (sAsg 3 (eBin opMod (eB bInt (aCons (eBin opIx (eVar 0) (eC (.int 2))) aNil)) (eVar 1))) (sSeq (sPut 0 (eC (.int 2)) (eBin opDiv (eBin opIx (eVar 0) (eC (.int 2))) (eVar 1))) (sRet (eVar 3)))) sNext)
def T3__law_draw : Ss := (sPut 0 (eC (.int 4)) (eBin opAdd (eBin opIx (eVar 0) (eC (.int 4))) (eC (.int 1))))
def T4__law_draw : Ss := (sAsg 4 (eBin opMod (eB bInt (aCons (eBin opMulA (eB bInt (aCons (eBin opAdd (eBin opIx (eVar 0) (eC (.int 3))) (eBin opMulA (eC (.int 7919)) (eBin opIx (eVar 0) (eC (.int 4))))) aNil)) (eC (.int 48271))) aNil)) (eC (.int 2147483647))))
def T5__law_draw : Ss := (sAsg 4 (eBin opMod (eB bInt (aCons (eBin opMulA (eVar 4) (eBin opAdd (eBin opDiv (eVar 4) (eC (.int 1009))) (eC (.int 69621)))) aNil)) (eC (.int 2147483647))))
def T6__law_draw : Ss := (sAsg 4 (eBin opMod (eB bInt (aCons (eBin opMulA (eVar 4) (eBin opAdd (eBin opDiv (eVar 4) (eC (.int 2003))) (eC (.int 40014)))) aNil)) (eC (.int 2147483563))))
def T7__law_draw : Ss := (sRet (eBin opMod (eB bInt (aCons (eBin opDiv (eVar 4) (eC (.int 16))) aNil)) (eVar 1)))
def S__law_draw : Ss := (sSeq T1__law_draw (sSeq T2__law_draw (sSeq T3__law_draw (sSeq T4__law_draw (sSeq T5__law_draw (sSeq T6__law_draw T7__law_draw))))))
def F__law_draw : Fn := fnOf 5 S__law_draw
theorem sc__law_any : FnScope ["hand", "some"] ["hand", "some"] (defScope (top 30)) := ⟨rfl, rfl, rfl, by decide +kernel, rfl, by decide +kernel, by decide +kernel⟩
def T1__law_any : Ss := (sRet (eBin opIx (eVar 1) (eCall 2 F__law_draw (aCons (eVar 0) (aCons (eB bLen (aCons (eVar 1) aNil)) aNil)))))
def S__law_any : Ss := T1__law_any
def F__law_any : Fn := fnOf 2 S__law_any
theorem sc__law_is : FnScope ["said", "due", "one", "other"] ["said", "due"] (defScope (top 31)) := ⟨rfl, rfl, rfl, by decide +kernel, rfl, by decide +kernel, by decide +kernel⟩
def S__law_is (Fr : Fn) : Ss := (sSeq (sIf (tTru (eB bIsi (aCons (eVar 1) (aCons (eTup (aCons (eC (.ty "tuple")) (aCons (eC (.ty "list")) aNil))) aNil)))) (sSeq (sIf (bOr (tCmpE (opEq true) (eB bIsi (aCons (eVar 0) (aCons (eC (.ty "tuple")) aNil))) (eB bIsi (aCons (eVar 1) (aCons (eC (.ty "tuple")) aNil)))) (tCmpE (opEq true) (eB bIsi (aCons (eVar 0) (aCons (eC (.ty "list")) aNil))) (eB bIsi (aCons (eVar 1) (aCons (eC (.ty "list")) aNil))))) (sRet (eC (.bl false))) sNext) (sRet (eAnd (eBin (opEq false) (eB bLen (aCons (eVar 0) aNil)) (eB bLen (aCons (eVar 1) aNil))) (eB bAll (aCons (eF (fLc (iO (zip2 true) (aCons (eVar 0) (aCons (eVar 1) aNil))) (.many [2, 3]) [2, 3] tYesE (eCall 2 Fr (aCons (eVar 2) (aCons (eVar 3) aNil))))) aNil))))) sNext) (sSeq (sIf (bOr (tCmpE (opIs false) (eVar 1) (eC .non)) (tCmpE (opIs false) (eVar 0) (eC .non))) (sRet (eAnd (eBin (opIs false) (eVar 1) (eC .non)) (eBin (opIs false) (eVar 0) (eC .non)))) sNext) (sSeq (sIf (bOr (tCmpE (opEq true) (eB bIsi (aCons (eVar 0) (aCons (eC (.ty "bool")) aNil))) (eB bIsi (aCons (eVar 1) (aCons (eC (.ty "bool")) aNil)))) (tCmpE (opEq true) (eB bIsi (aCons (eVar 0) (aCons (eC (.ty "int")) aNil))) (eB bIsi (aCons (eVar 1) (aCons (eC (.ty "int")) aNil))))) (sRet (eC (.bl false))) sNext) (sRet (eAnd (eBin (opEq false) (eB bIsi (aCons (eVar 0) (aCons (eC (.ty "str")) aNil))) (eB bIsi (aCons (eVar 1) (aCons (eC (.ty "str")) aNil)))) (eBin (opEq false) (eVar 0) (eVar 1)))))))
def R__law_is : Nat → Fn
  | 0 => fun _ _ => .stuck
  | n + 1 => fnOf 4 (S__law_is (R__law_is n))
def F__law_is : Fn := R__law_is 4
theorem sc__law_frac : FnScope ["n", "d", "a", "b"] ["n", "d"] (defScope (top 32)) := ⟨rfl, rfl, rfl, by decide +kernel, rfl, by decide +kernel, by decide +kernel⟩
def T1__law_frac : Ss := (sPar [2, 3] (aCons (eB bAbs (aCons (eVar 0) aNil)) (aCons (eVar 1) aNil)))
def B2__law_frac : Ss := (sPar [2, 3] (aCons (eVar 3) (aCons (eBin opMod (eB bInt (aCons (eVar 2) aNil)) (eVar 3)) aNil)))
def T3__law_frac : Ss := (sWhile (tCmpE opGt (eVar 3) (eC (.int 0))) B2__law_frac 10000000000000000000000000000000000000000000000000000000000000000000000000000000000000000000000000000000000000000000000000000000000000000000000000000000000000000000000000000000000000000000000000000000000000000000000000000000000000000000000000000000000000000000000000000000000000000000000000000000000000000000000000000000000000000000000000000000000000000000000000000000000000000000000000000000000000000)
def T4__law_frac : Ss := (sRet (eTup (aCons (eBin opDiv (eVar 0) (eVar 2)) (aCons (eBin opDiv (eVar 1) (eVar 2)) aNil))))
def S__law_frac : Ss := (sSeq T1__law_frac (sSeq T3__law_frac T4__law_frac))
def F__law_frac : Fn := fnOf 4 S__law_frac
theorem sc__law_below : FnScope ["one", "other"] ["one", "other"] (defScope (top 33)) := ⟨rfl, rfl, rfl, by decide +kernel, rfl, by decide +kernel, by decide +kernel⟩
def T1__law_below : Ss := (sRet (eBin opLt (eBin opMulA (eBin opIx (eVar 0) (eC (.int 0))) (eBin opIx (eVar 1) (eC (.int 1)))) (eBin opMulA (eBin opIx (eVar 1) (eC (.int 0))) (eBin opIx (eVar 0) (eC (.int 1))))))
def S__law_below : Ss := T1__law_below
def F__law_below : Fn := fnOf 2 S__law_below
theorem sc__law_moved : FnScope ["here", "nearest", "is_above", "low", "high"] ["here", "nearest", "is_above"] (defScope (top 34)) := ⟨rfl, rfl, rfl, by decide +kernel, rfl, by decide +kernel, by decide +kernel⟩
def T1__law_moved : Ss := (sAsgT (.many [3, 4]) (eIf (tTru (eVar 2)) (eTup (aCons (eVar 0) (aCons (eBin opIx (eVar 1) (eC (.int 1))) aNil))) (eTup (aCons (eBin opIx (eVar 1) (eC (.int 0))) (aCons (eVar 0) aNil)))))
def T2__law_moved : Ss := (sIf (bOr (tCmpE (opIs false) (eVar 3) (eC .non)) (tCmpE (opIs false) (eVar 4) (eC .non))) (sRet (eTup (aCons (eTup (aCons (eBin opAdd (eBin opIx (eVar 0) (eC (.int 0))) (eIf (tTru (eVar 2)) (eC (.int 1)) (eUn unNeg (eC (.int 1))))) (aCons (eC (.int 1)) aNil))) (aCons (eTup (aCons (eVar 3) (aCons (eVar 4) aNil))) aNil)))) sNext)
def T3__law_moved : Ss := (sRet (eTup (aCons (eCall 2 F__law_frac (aCons (eBin opAdd (eBin opMulA (eBin opIx (eVar 3) (eC (.int 0))) (eBin opIx (eVar 4) (eC (.int 1)))) (eBin opMulA (eBin opIx (eVar 4) (eC (.int 0))) (eBin opIx (eVar 3) (eC (.int 1))))) (aCons (eBin opMulA (eBin opMulA (eC (.int 2)) (eBin opIx (eVar 3) (eC (.int 1)))) (eBin opIx (eVar 4) (eC (.int 1)))) aNil))) (aCons (eTup (aCons (eVar 3) (aCons (eVar 4) aNil))) aNil))))
def S__law_moved : Ss := (sSeq T1__law_moved (sSeq T2__law_moved T3__law_moved))
def F__law_moved : Fn := fnOf 5 S__law_moved
theorem sc__law_number_by : FnScope ["word", "here", "nearest", "sign"] ["word"] (defScope (top 35)) := ⟨rfl, rfl, rfl, by decide +kernel, rfl, by decide +kernel, by decide +kernel⟩
def T1__law_number_by : Ss := (sAsgT (.many [1, 2]) (eTup (aCons (eTup (aCons (eC (.int 0)) (aCons (eC (.int 1)) aNil))) (aCons (eTup (aCons (eC .non) (aCons (eC .non) aNil))) aNil))))
def B2__law_number_by : Ss := (sAsgT (.many [1, 2]) (eCall 3 F__law_moved (aCons (eVar 1) (aCons (eVar 2) (aCons (eBin (opEq false) (eVar 3) (eC (.str "L"))) aNil)))))
def T3__law_number_by : Ss := (sFor (iStrS (eVar 0)) (.one 3) B2__law_number_by)
def T4__law_number_by : Ss := (sRet (eTup (aCons (eVar 1) (aCons (eVar 2) aNil))))
def S__law_number_by : Ss := (sSeq T1__law_number_by (sSeq T3__law_number_by T4__law_number_by))
def F__law_number_by : Fn := fnOf 4 S__law_number_by
theorem sc__law_power : FnScope ["often", "found", "turn"] ["often"] (defScope (top 36)) := ⟨rfl, rfl, rfl, by decide +kernel, rfl, by decide +kernel, by decide +kernel⟩
def T1__law_power : Ss := (sAsg 1 (eC (.int 1)))
def B2__law_power : Ss := (sAsg 1 (eBin opMulA (eC (.int 2)) (eVar 1)))
def T3__law_power : Ss := (sFor (iO rng1 (aCons (eVar 0) aNil)) (.one 2) B2__law_power)
def T4__law_power : Ss := (sRet (eVar 1))
def S__law_power : Ss := (sSeq T1__law_power (sSeq T3__law_power T4__law_power))
def F__law_power : Fn := fnOf 3 S__law_power
theorem sc__law_word : FnScope ["hand", "most", "kind", "size", "word", "turn"] ["hand", "most"] (defScope (top 37)) := ⟨rfl, rfl, rfl, by decide +kernel, rfl, by decide +kernel, by decide +kernel⟩
def T1__law_word : Ss := (sPar [2, 3] (aCons (eCall 2 F__law_draw (aCons (eVar 0) (aCons (eC (.int 3)) aNil))) (aCons (eCall 2 F__law_draw (aCons (eVar 0) (aCons (eBin opAdd (eVar 1) (eC (.int 1))) aNil))) aNil)))
def T2__law_word : Ss := (sAsg 4 (eJoin (eC (.str "")) (eF (fLc (iO rng1 (aCons (eVar 3) aNil)) (.one 5) [5] tYesE (eCall 2 F__law_any (aCons (eVar 0) (aCons (eC (.str "LR")) aNil)))))))
def T3__law_word : Ss := (sIf (tCmpE (opEq false) (eVar 2) (eC (.int 0))) (sAsg 4 (eBin opAdd (eSlS (eBin opMulS2 (eCall 2 F__law_any (aCons (eVar 0) (aCons (eC (.str "LR")) aNil))) (eVar 1)) oNone (oSome (eVar 3))) (eSlS (eVar 4) oNone (oSome (eC (.int 6)))))) sNext)
def T4__law_word : Ss := (sRet (eSlS (eVar 4) oNone (oSome (eC (.int 400)))))
def S__law_word : Ss := (sSeq T1__law_word (sSeq T2__law_word (sSeq T3__law_word T4__law_word)))
def F__law_word : Fn := fnOf 6 S__law_word
theorem sc__law_other : FnScope ["word", "sign"] ["word"] (defScope (top 38)) := ⟨rfl, rfl, rfl, by decide +kernel, rfl, by decide +kernel, by decide +kernel⟩
def T1__law_other : Ss := (sRet (eJoin (eC (.str "")) (eF (fLc (iStrS (eVar 0)) (.one 1) [1] tYesE (eIf (tCmpE (opEq false) (eVar 1) (eC (.str "R"))) (eC (.str "L")) (eC (.str "R")))))))
def S__law_other : Ss := T1__law_other
def F__law_other : Fn := fnOf 2 S__law_other
theorem sc__law_word_right : FnScope ["word", "number", "back"] ["word"] (defScope (top 39)) := ⟨rfl, rfl, rfl, by decide +kernel, rfl, by decide +kernel, by decide +kernel⟩
def T1__law_word_right : Ss := (sAsg 1 (eBin opIx (eCall 1 F__law_number_by (aCons (eVar 0) aNil)) (eC (.int 0))))
def T2__law_word_right : Ss := (sIf (bNot (tTru (eCall 2 F__law_is (aCons (eLst (aCons (eCall 1 F_number_by (aCons (eVar 0) aNil)) (aCons (eCall 1 F_signs (aCons (eVar 1) aNil)) (aCons (eCall 1 F_born_on (aCons (eVar 1) aNil)) aNil)))) (aCons (eLst (aCons (eVar 1) (aCons (eVar 0) (aCons (eB bLen (aCons (eVar 0) aNil)) aNil)))) aNil))))) (sRet (eC (.bl false))) sNext)
def T3__law_word_right : Ss := (sAsg 2 (eTup (aCons (eBin opSub (eC (.int 0)) (eBin opIx (eVar 1) (eC (.int 0)))) (aCons (eBin opIx (eVar 1) (eC (.int 1))) aNil))))
def T4__law_word_right : Ss := (sRet (eCall 2 F__law_is (aCons (eLst (aCons (eCall 1 F_number_by (aCons (eCall 1 F__law_other (aCons (eVar 0) aNil)) aNil)) (aCons (eCall 1 F_signs (aCons (eVar 2) aNil)) aNil))) (aCons (eLst (aCons (eVar 2) (aCons (eCall 1 F__law_other (aCons (eVar 0) aNil)) aNil))) aNil))))
def S__law_word_right : Ss := (sSeq T1__law_word_right (sSeq T2__law_word_right (sSeq T3__law_word_right T4__law_word_right)))
def F__law_word_right : Fn := fnOf 3 S__law_word_right
theorem sc__law_two_right : FnScope ["one", "other", "first", "second", "key", "due", "at", "word"] ["one", "other"] (defScope (top 40)) := ⟨rfl, rfl, rfl, by decide +kernel, rfl, by decide +kernel, by decide +kernel⟩
def T1__law_two_right : Ss := (sPar [2, 3] (aCons (eCall 1 F_number_by (aCons (eVar 0) aNil)) (aCons (eCall 1 F_number_by (aCons (eVar 1) aNil)) aNil)))
def T2__law_two_right : Ss := (sSetN 4 (nE (eF (fLc (iSeq true (eTup (aCons (eVar 0) (aCons (eVar 1) aNil)))) (.one 7) [7] tYesE (eF (fLc (iO rng1 (aCons (eC (.int 402)) aNil)) (.one 6) [6] tYesE (eBin opDget (eC (.dK [.inr "R", .inr "", .inr "L"] [.int 0, .int 1, .int 2])) (eSlS (eVar 7) (oSome (eVar 6)) (oSome (eBin opAdd (eVar 6) (eC (.int 1))))))))))))
def T3__law_two_right : Ss := (sIf (bOr (tCmpE (opEq true) (eBin opLtX (eBin opIx (eVar 4) (eC (.int 0))) (eBin opIx (eVar 4) (eC (.int 1)))) (eCall 2 F__law_below (aCons (eVar 2) (aCons (eVar 3) aNil)))) (tCmpE (opEq true) (eBin (opEq false) (eVar 0) (eVar 1)) (eBin (opEq false) (eVar 2) (eVar 3)))) (sRet (eC (.bl false))) sNext)
def T4__law_two_right : Ss := (sSetN 5 (nF (fLst (aCons (eCall 2 F__law_frac (aCons (eBin opMulA (eBin opIx (eVar 2) (eC (.int 0))) (eBin opIx (eVar 3) (eC (.int 0)))) (aCons (eBin opMulA (eBin opIx (eVar 2) (eC (.int 1))) (eBin opIx (eVar 3) (eC (.int 1)))) aNil))) aNil))))
def T5__law_two_right : Ss := (sApp 5 (eCall 2 F__law_frac (aCons (eBin opAdd (eBin opMulA (eBin opIx (eVar 2) (eC (.int 0))) (eBin opIx (eVar 3) (eC (.int 1)))) (eBin opMulA (eBin opIx (eVar 3) (eC (.int 0))) (eBin opIx (eVar 2) (eC (.int 1))))) (aCons (eBin opMulA (eBin opMulA (eC (.int 2)) (eBin opIx (eVar 2) (eC (.int 1)))) (eBin opIx (eVar 3) (eC (.int 1)))) aNil))))
def T6__law_two_right : Ss := (sIf (bNot (tTru (eCall 2 F__law_is (aCons (eLst (aCons (eCall 2 F_product_of (aCons (eVar 2) (aCons (eVar 3) aNil))) (aCons (eCall 2 F_middle_of (aCons (eVar 2) (aCons (eVar 3) aNil))) aNil))) (aCons (eVar 5) aNil))))) (sRet (eC (.bl false))) sNext)
def T7__law_two_right : Ss := (sRet (eCall 2 F__law_is (aCons (eLst (aCons (eCall 1 F_is_whole (aCons (eVar 2) aNil)) (aCons (eCall 1 F_is_whole (aCons (eBin opIx (eVar 5) (eC (.int 0))) aNil)) aNil))) (aCons (eLst (aCons (eBin (opEq false) (eBin opIx (eVar 2) (eC (.int 1))) (eC (.int 1))) (aCons (eBin (opEq false) (eBin opIx (eBin opIx (eVar 5) (eC (.int 0))) (eC (.int 1))) (eC (.int 1))) aNil))) aNil))))
def S__law_two_right : Ss := (sSeq T1__law_two_right (sSeq T2__law_two_right (sSeq T3__law_two_right (sSeq T4__law_two_right (sSeq T5__law_two_right (sSeq T6__law_two_right T7__law_two_right))))))
def F__law_two_right : Fn := fnOf 8 S__law_two_right
theorem sc__law_days_right : FnScope ["hand", "day", "words", "row", "turn", "longer", "word", "some", "scale", "due", "told", "at", "top", "one"] ["hand"] (defScope (top 41)) := ⟨rfl, rfl, rfl, by decide +kernel, rfl, by decide +kernel, by decide +kernel⟩
def T1__law_days_right : Ss := (sPar [1, 2, 3] (aCons (eCall 2 F__law_draw (aCons (eVar 0) (aCons (eC (.int 11)) aNil))) (aCons (eLst (aCons (eC (.str "")) aNil)) (aCons (eLst (aCons (eC (.str "")) aNil)) aNil))))
def B2__law_days_right : Ss := (sExt 5 (eLst (aCons (eBin opAdd (eVar 6) (eC (.str "L"))) (aCons (eBin opAdd (eVar 6) (eC (.str "R"))) aNil))))
def B3__law_days_right : Ss := (sSeq (sSetN 5 (nF (fLst aNil))) (sSeq (sFor (iSeq false (eVar 3)) (.one 6) B2__law_days_right) (sSeq (sSeq (sFz 5) (sAsg 3 (eVar 5))) (sAsg 2 (eBin opAdd (eVar 2) (eVar 3))))))
def T4__law_days_right : Ss := (sFor (iO rng1 (aCons (eVar 1) aNil)) (.one 4) B3__law_days_right)
def T5__law_days_right : Ss := (sSetN 7 (nE (eF (fLc (iSeq true (eVar 2)) (.one 6) [6] tYesE (eBin opIx (eCall 1 F__law_number_by (aCons (eVar 6) aNil)) (eC (.int 0)))))))
def T6__law_days_right : Ss := (sAsg 8 (eCall 1 F__law_power (aCons (eC (.int 11)) aNil)))
def T7__law_days_right : Ss := (sAsg 9 (eB bTup (aCons (eF (fLc (iSeq true (eB bSorted (aCons (eF (fLc (iSeq true (eVar 7)) (.one 13) [13] tYesE (eBin opMulA (eBin opIx (eVar 13) (eC (.int 0))) (eBin opDiv (eVar 8) (eBin opIx (eVar 13) (eC (.int 1))))))) aNil))) (.one 12) [12] tYesE (eCall 2 F__law_frac (aCons (eVar 12) (aCons (eVar 8) aNil))))) aNil)))
def T8__law_days_right : Ss := (sAsg 10 (eCall 1 F_numbers_by (aCons (eVar 1) aNil)))
def T9__law_days_right : Ss := (sIf (bOr (bNot (tTru (eCall 2 F__law_is (aCons (eVar 10) (aCons (eVar 9) aNil))))) (tCmpE (opEq true) (eB bLen (aCons (eVar 10) aNil)) (eBin opSub (eCall 1 F__law_power (aCons (eBin opAdd (eVar 1) (eC (.int 1))) aNil)) (eC (.int 1))))) (sRet (eC (.bl false))) sNext)
def T10__law_days_right : Ss := (sAsg 11 (eCall 2 F__law_draw (aCons (eVar 0) (aCons (eB bMax (aCons (eC (.int 1)) (aCons (eBin opSub (eB bLen (aCons (eVar 10) aNil)) (eC (.int 1))) aNil))) aNil))))
def T11__law_days_right : Ss := (sRet (eOr (eBin opLt (eB bLen (aCons (eVar 10) aNil)) (eC (.int 2))) (eBin (opEq false) (eCall 1 F_born_on (aCons (eCall 2 F_middle_of (aCons (eBin opIx (eVar 10) (eVar 11)) (aCons (eBin opIx (eVar 10) (eBin opAdd (eVar 11) (eC (.int 1)))) aNil))) aNil)) (eBin opAdd (eVar 1) (eC (.int 1))))))
def S__law_days_right : Ss := (sSeq T1__law_days_right (sSeq T4__law_days_right (sSeq T5__law_days_right (sSeq T6__law_days_right (sSeq T7__law_days_right (sSeq T8__law_days_right (sSeq T9__law_days_right (sSeq T10__law_days_right T11__law_days_right))))))))
def F__law_days_right : Fn := fnOf 14 S__law_days_right
theorem sc__law_refused : FnScope ["hand", "bad", "odd", "day", "far", "words"] ["hand"] (defScope (top 43)) := ⟨rfl, rfl, rfl, by decide +kernel, rfl, by decide +kernel, by decide +kernel⟩
def T1__law_refused : Ss := (sAsg 1 (eLst (aCons (eC .non) (aCons (eC (.int 0)) (aCons (eTup (aCons (eC (.int 1)) (aCons (eC (.int 3)) aNil))) (aCons (eTup (aCons (eC (.int 2)) (aCons (eC (.int 4)) aNil))) (aCons (eTup (aCons (eC (.int 1)) (aCons (eC (.int 0)) aNil))) (aCons (eTup (aCons (eC (.int 1)) (aCons (eUn unNeg (eC (.int 2))) aNil))) (aCons (eLst (aCons (eC (.int 1)) (aCons (eC (.int 2)) aNil))) (aCons (eTup (aCons (eC (.int 1)) aNil)) (aCons (eC (.str "1")) (aCons (eTup (aCons (eC (.bl true)) (aCons (eC (.int 1)) aNil))) (aCons (eTup (aCons (eC (.int 1)) (aCons (eC (.bl true)) aNil))) (aCons (eTup (aCons (eC (.int 0)) (aCons (eC (.int 2)) aNil))) (aCons (eTup (aCons (eTup (aCons (eC (.int 1)) aNil)) (aCons (eC (.int 2)) aNil))) aNil)))))))))))))))
def T2__law_refused : Ss := (sAsg 1 (eCall 2 F__law_any (aCons (eVar 0) (aCons (eVar 1) aNil))))
def T3__law_refused : Ss := (sAsg 2 (eCall 2 F__law_any (aCons (eVar 0) (aCons (eLst (aCons (eC .non) (aCons (eC (.int 0)) (aCons (eC (.str "X")) (aCons (eC (.str "LRl")) (aCons (eTup (aCons (eC (.str "L")) aNil)) (aCons (eLst (aCons (eC (.str "L")) aNil)) (aCons (eBin opMulS2 (eC (.str "L")) (eC (.int 401))) (aCons (eC (.str "L R")) aNil))))))))) aNil))))
def T4__law_refused : Ss := (sAsg 3 (eCall 2 F__law_any (aCons (eVar 0) (aCons (eLst (aCons (eC (.int 11)) (aCons (eUn unNeg (eC (.int 1))) (aCons (eC .non) (aCons (eC (.bl true)) (aCons (eC (.str "3")) (aCons (eBin opPow (eC (.int 10)) (eC (.int 9))) aNil))))))) aNil))))
def T5__law_refused : Ss := (sAsg 4 (eCall 2 F__law_any (aCons (eVar 0) (aCons (eLst (aCons (eTup (aCons (eC (.int 401)) (aCons (eC (.int 1)) aNil))) (aCons (eTup (aCons (eUn unNeg (eC (.int 401))) (aCons (eC (.int 1)) aNil))) (aCons (eTup (aCons (eC (.int 1)) (aCons (eCall 1 F__law_power (aCons (eC (.int 401)) aNil)) aNil))) (aCons (eTup (aCons (eBin opPow (eC (.int 10)) (eC (.int 30))) (aCons (eC (.int 1)) aNil))) aNil))))) aNil))))
def T6__law_refused : Ss := (sSetN 5 (nF (fLst (aCons (eRaised tbl (eCall 1 F_signs (aCons (eVar 1) aNil))) aNil))))
def T7__law_refused : Ss := (sApp 5 (eRaised tbl (eCall 1 F_born_on (aCons (eVar 1) aNil))))
def T8__law_refused : Ss := (sApp 5 (eRaised tbl (eCall 2 F_product_of (aCons (eVar 1) (aCons (eTup (aCons (eC (.int 1)) (aCons (eC (.int 2)) aNil))) aNil)))))
def T9__law_refused : Ss := (sApp 5 (eRaised tbl (eCall 2 F_product_of (aCons (eTup (aCons (eC (.int 1)) (aCons (eC (.int 2)) aNil))) (aCons (eVar 1) aNil)))))
def T10__law_refused : Ss := (sApp 5 (eRaised tbl (eCall 2 F_middle_of (aCons (eVar 1) (aCons (eTup (aCons (eC (.int 1)) (aCons (eC (.int 2)) aNil))) aNil)))))
def T11__law_refused : Ss := (sApp 5 (eRaised tbl (eCall 2 F_middle_of (aCons (eTup (aCons (eC (.int 1)) (aCons (eC (.int 2)) aNil))) (aCons (eVar 1) aNil)))))
def T12__law_refused : Ss := (sApp 5 (eRaised tbl (eCall 1 F_is_whole (aCons (eVar 1) aNil))))
def T13__law_refused : Ss := (sApp 5 (eRaised tbl (eCall 1 F_number_by (aCons (eVar 2) aNil))))
def T14__law_refused : Ss := (sApp 5 (eRaised tbl (eCall 1 F_numbers_by (aCons (eVar 3) aNil))))
def T15__law_refused : Ss := (sApp 5 (eRaised tbl (eCall 1 F_signs (aCons (eVar 4) aNil))))
def T16__law_refused : Ss := (sApp 5 (eRaised tbl (eCall 1 F_born_on (aCons (eTup (aCons (eC (.int 1)) (aCons (eCall 1 F__law_power (aCons (eC (.int 401)) aNil)) aNil))) aNil))))
def T17__law_refused : Ss := (sRet (eBin (opEq false) (eVar 5) (eBin opMulS2 (eLst (aCons (eC (.bl true)) aNil)) (eC (.int 11)))))
def S__law_refused : Ss := (sSeq T1__law_refused (sSeq T2__law_refused (sSeq T3__law_refused (sSeq T4__law_refused (sSeq T5__law_refused (sSeq T6__law_refused (sSeq T7__law_refused (sSeq T8__law_refused (sSeq T9__law_refused (sSeq T10__law_refused (sSeq T11__law_refused (sSeq T12__law_refused (sSeq T13__law_refused (sSeq T14__law_refused (sSeq T15__law_refused (sSeq T16__law_refused T17__law_refused))))))))))))))))
def F__law_refused : Fn := fnOf 6 S__law_refused
def B1_law : Ss := (sSeq (sPar [3, 4] (aCons (eCall 2 F__law_word (aCons (eVar 1) (aCons (eVar 2) aNil))) (aCons (eCall 2 F__law_word (aCons (eVar 1) (aCons (eVar 2) aNil))) aNil))) (sSeq (sIf (bOr (bNot (tTru (eCall 1 F__law_word_right (aCons (eVar 3) aNil)))) (bOr (bNot (tTru (eCall 1 F__law_word_right (aCons (eVar 4) aNil)))) (bNot (tTru (eCall 2 F__law_two_right (aCons (eVar 3) (aCons (eVar 4) aNil))))))) (sRet (eC (.bl false))) sNext) (sIf (bNot (tTru (eCall 2 F__law_two_right (aCons (eVar 3) (aCons (eSlS (eVar 3) oNone (oSome (eCall 2 F__law_draw (aCons (eVar 1) (aCons (eBin opAdd (eB bLen (aCons (eVar 3) aNil)) (eC (.int 1))) aNil))))) aNil))))) (sRet (eC (.bl false))) sNext)))
def T2_law : Ss := (sFor (iSeq false (eTup (aCons (eC (.int 6)) (aCons (eC (.int 20)) (aCons (eC (.int 60)) aNil))))) (.one 2) B1_law)
def T3_law : Ss := (sPar [5, 6] (aCons (eCall 2 F__law_draw (aCons (eVar 1) (aCons (eC (.int 401)) aNil))) (aCons (eBin opAdd (eC (.int 1)) (eCall 2 F__law_draw (aCons (eVar 1) (aCons (eC (.int 400)) aNil)))) aNil)))
def T4_law : Ss := (sAsg 7 (eLst (aCons (eCall 1 F_signs (aCons (eTup (aCons (eVar 5) (aCons (eC (.int 1)) aNil))) aNil)) (aCons (eCall 1 F_signs (aCons (eTup (aCons (eBin opSub (eC (.int 0)) (eVar 5)) (aCons (eC (.int 1)) aNil))) aNil)) (aCons (eCall 1 F_number_by (aCons (eBin opMulS2 (eC (.str "L")) (eVar 5)) aNil)) aNil)))))
def T5_law : Ss := (sIf (bNot (tTru (eCall 2 F__law_is (aCons (eVar 7) (aCons (eLst (aCons (eBin opMulS2 (eC (.str "L")) (eVar 5)) (aCons (eBin opMulS2 (eC (.str "R")) (eVar 5)) (aCons (eTup (aCons (eVar 5) (aCons (eC (.int 1)) aNil))) aNil)))) aNil))))) (sRet (eC (.bl false))) sNext)
def T6_law : Ss := (sAsg 8 (eTup (aCons (eC (.int 1)) (aCons (eCall 1 F__law_power (aCons (eBin opSub (eVar 6) (eC (.int 1))) aNil)) aNil))))
def T7_law : Ss := (sIf (bNot (tTru (eCall 2 F__law_is (aCons (eLst (aCons (eCall 1 F_signs (aCons (eVar 8) aNil)) (aCons (eCall 1 F_born_on (aCons (eVar 8) aNil)) aNil))) (aCons (eLst (aCons (eBin opAdd (eC (.str "L")) (eBin opMulS2 (eC (.str "R")) (eBin opSub (eVar 6) (eC (.int 1))))) (aCons (eVar 6) aNil))) aNil))))) (sRet (eC (.bl false))) sNext)
def T8_law : Ss := (sAsg 9 (eBin opAdd (eBin opPow (eC (.int 10)) (eC (.int 6))) (eCall 2 F__law_draw (aCons (eVar 1) (aCons (eBin opPow (eC (.int 10)) (eC (.int 25))) aNil)))))
def T9_law : Ss := (sIf (bNot (tTru (eCall 2 F__law_is (aCons (eLst (aCons (eCall 1 F_born_on (aCons (eTup (aCons (eVar 9) (aCons (eC (.int 1)) aNil))) aNil)) (aCons (eCall 1 F_born_on (aCons (eTup (aCons (eBin opSub (eC (.int 0)) (eVar 9)) (aCons (eC (.int 1)) aNil))) aNil)) (aCons (eCall 1 F_born_on (aCons (eTup (aCons (eBin opAdd (eBin opMulS2 (eC (.int 2)) (eVar 9)) (eC (.int 1))) (aCons (eC (.int 2)) aNil))) aNil)) aNil)))) (aCons (eLst (aCons (eVar 9) (aCons (eVar 9) (aCons (eBin opAdd (eVar 9) (eC (.int 2))) aNil)))) aNil))))) (sRet (eC (.bl false))) sNext)
def T10_law : Ss := (sRet (eAnd (eCall 1 F__law_days_right (aCons (eVar 1) aNil)) (eCall 1 F__law_refused (aCons (eVar 1) aNil))))
def S_law1 : Sm Ev := (eCall 1 F__law_hand (aCons (eVar 0) aNil))
def S_law : Ss := (sSeq T2_law (sSeq T3_law (sSeq T4_law (sSeq T5_law (sSeq T6_law (sSeq T7_law (sSeq T8_law (sSeq T9_law T10_law))))))))
theorem sc_law : FnScope ["script", "hand", "most", "one", "other", "whole", "deep", "found", "small", "far"] ["script"] (defScope (top 44)) := ⟨rfl, rfl, rfl, by decide +kernel, rfl, by decide +kernel, by decide +kernel⟩
theorem sc__law_raised : FnScope ["call", "e"] ["call"] (defScope (top 42)) := ⟨rfl, rfl, rfl, by decide +kernel, rfl, by decide +kernel, by decide +kernel⟩
end K08

set_option Elab.async false
set_option linter.all false
set_option maxRecDepth 100000
set_option maxHeartbeats 4000000
/-! law 08: each def holds what its reading tells. -/
namespace K08
open PySem PySem.Spec PyProof.Rows L2 DL
theorem ok_is_integer {P : Program} {w : World} {K : PySem.W.Frag} {mg : Str → Option Value} {base : Heap} {T : List (Addr × Str)} {f : Addr} {fd : FuncData} (fx : Fx K mg) (F : FunD K "is_integer" "is_integer" (defArgs (top 1)) (defBody (top 1)) (defScope (top 1)) [] [] f fd) (hx : mg "is_integer" = some (.ref f))  : Dn P w K mg base T 1 "is_integer" 1 F_is_integer := by
  refine dn_ofD (k := 0) (N := ["thing"]) (ps := ["thing"]) (g := S_is_integer) F hx (F.bindsN (ps := ["thing"]) fun _ _ _ _ _ _ us hl => match us, hl with | [_], _ => rfl) sc_is_integer fun cdv A outer s H E hr => ?_
  exact (dss_one (ds_ret (de_and (de_B bi_isi (by rfl) fx.z_isinstance bo_isinstance (da_cons (de_var 0) (da_cons (de_ty (by rfl) fx.z_int bo_int) da_nil))) (de_one (de_not (de_B bi_isi (by rfl) fx.z_isinstance bo_isinstance (da_cons (de_var 0) (da_cons (de_ty (by rfl) fx.z_bool bo_bool) da_nil))))))))
theorem ok_is_within {P : Program} {w : World} {K : PySem.W.Frag} {mg : Str → Option Value} {base : Heap} {T : List (Addr × Str)} {f : Addr} {fd : FuncData} (fx : Fx K mg) (F : FunD K "is_within" "is_within" (defArgs (top 2)) (defBody (top 2)) (defScope (top 2)) [] [] f fd) (hx : mg "is_within" = some (.ref f)) (G_is_integer : Dn P w K mg base T 1 "is_integer" 1 F_is_integer) : Dn P w K mg base T 2 "is_within" 3 F_is_within := by
  refine dn_ofD (k := 1) (N := ["thing", "low", "high"]) (ps := ["thing", "low", "high"]) (g := S_is_within) F hx (F.bindsN (ps := ["thing", "low", "high"]) fun _ _ _ _ _ _ us hl => match us, hl with | [_, _, _], _ => rfl) sc_is_within fun cdv A outer s H E hr => ?_
  exact (dss_one (ds_ret (de_and (de_call G_is_integer (hr.mono (by omega)) (by rfl) (takes_of rfl rfl rfl rfl) (da_cons (de_var 0) da_nil)) (de_one (de_chain ci_le ci_le (de_var 1) (de_var 0) (de_var 2))))))
theorem ok_is_tuple_of {P : Program} {w : World} {K : PySem.W.Frag} {mg : Str → Option Value} {base : Heap} {T : List (Addr × Str)} {f : Addr} {fd : FuncData} (fx : Fx K mg) (F : FunD K "is_tuple_of" "is_tuple_of" (defArgs (top 3)) (defBody (top 3)) (defScope (top 3)) [] [] f fd) (hx : mg "is_tuple_of" = some (.ref f))  : Dn P w K mg base T 1 "is_tuple_of" 2 F_is_tuple_of := by
  refine dn_ofD (k := 0) (N := ["thing", "many"]) (ps := ["thing", "many"]) (g := S_is_tuple_of) F hx (F.bindsN (ps := ["thing", "many"]) fun _ _ _ _ _ _ us hl => match us, hl with | [_, _], _ => rfl) sc_is_tuple_of fun cdv A outer s H E hr => ?_
  exact (dss_one (ds_ret (de_and (de_B bi_isi (by rfl) fx.z_isinstance bo_isinstance (da_cons (de_var 0) (da_cons (de_ty (by rfl) fx.z_tuple bo_tuple) da_nil))) (de_one (de_cmp (ci_eq hr.units) (de_B bi_len (by rfl) fx.z_len bo_len (da_cons (de_var 0) da_nil)) (de_var 1))))))
theorem ok_common {P : Program} {w : World} {K : PySem.W.Frag} {mg : Str → Option Value} {base : Heap} {T : List (Addr × Str)} {f : Addr} {fd : FuncData} (fx : Fx K mg) (F : FunD K "common" "common" (defArgs (top 4)) (defBody (top 4)) (defScope (top 4)) [] [] f fd) (hx : mg "common" = some (.ref f))  : Dn P w K mg base T 1 "common" 2 F_common := by
  refine dn_ofD (k := 0) (N := ["one", "other"]) (ps := ["one", "other"]) (g := S_common) F hx (F.bindsN (ps := ["one", "other"]) fun _ _ _ _ _ _ us hl => match us, hl with | [_, _], _ => rfl) sc_common fun cdv A outer s H E hr => ?_
  exact (dss_cons (ds_par (i := 0) (j := 1) rfl sc_common.nd (da_cons (de_B bi_abs (by rfl) fx.z_abs bo_abs (da_cons (de_var 0) da_nil)) (da_cons (de_B bi_abs (by rfl) fx.z_abs bo_abs (da_cons (de_var 1) da_nil)) da_nil))) (dss_cons (ds_while (n := 10000000000000000000000000000000000000000000000000000000000000000000000000000000000000000000000000000000000000000000000000000000000000000000000000000000000000000000000000000000000000000000000000000000000000000000000000000000000000000000000000000000000000000000000000000000000000000000000000000000000000000000000000000000000000000000000000000000000000000000000000000000000000000000000000000000000000000) (passes_of rfl) (dt_cmp ci_gt (de_var 1) de_int) (dss_one (ds_par (i := 0) (j := 1) rfl sc_common.nd (da_cons (de_var 1) (da_cons (de_mod (de_var 0) (de_var 1)) da_nil))))) (dss_one (ds_ret (de_var 0)))))
theorem ok_frac {P : Program} {w : World} {K : PySem.W.Frag} {mg : Str → Option Value} {base : Heap} {T : List (Addr × Str)} {f : Addr} {fd : FuncData} (fx : Fx K mg) (F : FunD K "frac" "frac" (defArgs (top 5)) (defBody (top 5)) (defScope (top 5)) [] [] f fd) (hx : mg "frac" = some (.ref f)) (G_common : Dn P w K mg base T 1 "common" 2 F_common) : Dn P w K mg base T 2 "frac" 2 F_frac := by
  refine dn_ofD (k := 1) (N := ["top", "bottom", "divisor"]) (ps := ["top", "bottom"]) (g := S_frac) F hx (F.bindsN (ps := ["top", "bottom"]) fun _ _ _ _ _ _ us hl => match us, hl with | [_, _], _ => rfl) sc_frac fun cdv A outer s H E hr => ?_
  exact (dss_cons (ds_set (i := 2) sc_frac.nd (de_call G_common (hr.mono (by omega)) (by rfl) (takes_of rfl rfl rfl rfl) (da_cons (de_var 0) (da_cons (de_var 1) da_nil)))) (dss_cons (ds_if (dt_cmp (ci_lt hr.units) (de_var 1) de_int) (dss_one (ds_set (i := 2) sc_frac.nd (de_neg (de_var 2)))) dss_nil) (dss_one (ds_ret (de_tup (da_cons (de_div (de_var 0) (de_var 2)) (da_cons (de_div (de_var 1) (de_var 2)) da_nil)))))))
theorem ok_is_fraction {P : Program} {w : World} {K : PySem.W.Frag} {mg : Str → Option Value} {base : Heap} {T : List (Addr × Str)} {f : Addr} {fd : FuncData} (fx : Fx K mg) (F : FunD K "is_fraction" "is_fraction" (defArgs (top 6)) (defBody (top 6)) (defScope (top 6)) [] [] f fd) (hx : mg "is_fraction" = some (.ref f)) (G_is_integer : Dn P w K mg base T 1 "is_integer" 1 F_is_integer) (G_is_tuple_of : Dn P w K mg base T 1 "is_tuple_of" 2 F_is_tuple_of) (G_common : Dn P w K mg base T 1 "common" 2 F_common) : Dn P w K mg base T 2 "is_fraction" 1 F_is_fraction := by
  refine dn_ofD (k := 1) (N := ["thing"]) (ps := ["thing"]) (g := S_is_fraction) F hx (F.bindsN (ps := ["thing"]) fun _ _ _ _ _ _ us hl => match us, hl with | [_], _ => rfl) sc_is_fraction fun cdv A outer s H E hr => ?_
  exact (dss_cons (ds_if ((dw_or (dt_not (dt_val (de_call G_is_tuple_of (hr.mono (by omega)) (by rfl) (takes_of rfl rfl rfl rfl) (da_cons (de_var 0) (da_cons de_int da_nil))))) (dw_or (dt_not (dt_val (de_call G_is_integer (hr.mono (by omega)) (by rfl) (takes_of rfl rfl rfl rfl) (da_cons (de_ix (de_var 0) de_int) da_nil)))) (dw_or1 (dt_not (dt_val (de_call G_is_integer (hr.mono (by omega)) (by rfl) (takes_of rfl rfl rfl rfl) (da_cons (de_ix (de_var 0) de_int) da_nil)))))))).pt (dss_one (ds_ret de_bl)) dss_nil) (dss_one (ds_ret (de_and (de_cmp ci_ge (de_ix (de_var 0) de_int) de_int) (de_one (de_cmp (ci_eq hr.units) (de_call G_common (hr.mono (by omega)) (by rfl) (takes_of rfl rfl rfl rfl) (da_cons (de_ix (de_var 0) de_int) (da_cons (de_ix (de_var 0) de_int) da_nil))) de_int))))))
theorem ok_plus {P : Program} {w : World} {K : PySem.W.Frag} {mg : Str → Option Value} {base : Heap} {T : List (Addr × Str)} {f : Addr} {fd : FuncData} (fx : Fx K mg) (F : FunD K "plus" "plus" (defArgs (top 7)) (defBody (top 7)) (defScope (top 7)) [] [] f fd) (hx : mg "plus" = some (.ref f)) (G_frac : Dn P w K mg base T 2 "frac" 2 F_frac) : Dn P w K mg base T 3 "plus" 2 F_plus := by
  refine dn_ofD (k := 2) (N := ["one", "other"]) (ps := ["one", "other"]) (g := S_plus) F hx (F.bindsN (ps := ["one", "other"]) fun _ _ _ _ _ _ us hl => match us, hl with | [_, _], _ => rfl) sc_plus fun cdv A outer s H E hr => ?_
  exact (dss_one (ds_ret (de_call G_frac (hr.mono (by omega)) (by rfl) (takes_of rfl rfl rfl rfl) (da_cons (de_add (de_mulA (de_ix (de_var 0) de_int) (de_ix (de_var 1) de_int)) (de_mulA (de_ix (de_var 1) de_int) (de_ix (de_var 0) de_int))) (da_cons (de_mulA (de_ix (de_var 0) de_int) (de_ix (de_var 1) de_int)) da_nil)))))
theorem ok_half_of {P : Program} {w : World} {K : PySem.W.Frag} {mg : Str → Option Value} {base : Heap} {T : List (Addr × Str)} {f : Addr} {fd : FuncData} (fx : Fx K mg) (F : FunD K "half_of" "half_of" (defArgs (top 8)) (defBody (top 8)) (defScope (top 8)) [] [] f fd) (hx : mg "half_of" = some (.ref f)) (G_frac : Dn P w K mg base T 2 "frac" 2 F_frac) : Dn P w K mg base T 3 "half_of" 1 F_half_of := by
  refine dn_ofD (k := 2) (N := ["one"]) (ps := ["one"]) (g := S_half_of) F hx (F.bindsN (ps := ["one"]) fun _ _ _ _ _ _ us hl => match us, hl with | [_], _ => rfl) sc_half_of fun cdv A outer s H E hr => ?_
  exact (dss_one (ds_ret (de_call G_frac (hr.mono (by omega)) (by rfl) (takes_of rfl rfl rfl rfl) (da_cons (de_ix (de_var 0) de_int) (da_cons (de_mulA de_int (de_ix (de_var 0) de_int)) da_nil)))))
theorem ok_less {P : Program} {w : World} {K : PySem.W.Frag} {mg : Str → Option Value} {base : Heap} {T : List (Addr × Str)} {f : Addr} {fd : FuncData} (fx : Fx K mg) (F : FunD K "less" "less" (defArgs (top 9)) (defBody (top 9)) (defScope (top 9)) [] [] f fd) (hx : mg "less" = some (.ref f))  : Dn P w K mg base T 1 "less" 2 F_less := by
  refine dn_ofD (k := 0) (N := ["one", "other"]) (ps := ["one", "other"]) (g := S_less) F hx (F.bindsN (ps := ["one", "other"]) fun _ _ _ _ _ _ us hl => match us, hl with | [_, _], _ => rfl) sc_less fun cdv A outer s H E hr => ?_
  exact (dss_one (ds_ret (de_cmp (ci_lt hr.units) (de_mulA (de_ix (de_var 0) de_int) (de_ix (de_var 1) de_int)) (de_mulA (de_ix (de_var 1) de_int) (de_ix (de_var 0) de_int)))))
theorem ok_is_two_power {P : Program} {w : World} {K : PySem.W.Frag} {mg : Str → Option Value} {base : Heap} {T : List (Addr × Str)} {f : Addr} {fd : FuncData} (fx : Fx K mg) (F : FunD K "is_two_power" "is_two_power" (defArgs (top 10)) (defBody (top 10)) (defScope (top 10)) [] [] f fd) (hx : mg "is_two_power" = some (.ref f))  : Dn P w K mg base T 1 "is_two_power" 1 F_is_two_power := by
  refine dn_ofD (k := 0) (N := ["number"]) (ps := ["number"]) (g := S_is_two_power) F hx (F.bindsN (ps := ["number"]) fun _ _ _ _ _ _ us hl => match us, hl with | [_], _ => rfl) sc_is_two_power fun cdv A outer s H E hr => ?_
  exact (dss_one (ds_ret (de_cmp (ci_eq hr.units) (de_band (de_var 0) (de_sub (de_var 0) de_int)) de_int)))
theorem ok_is_half_number {P : Program} {w : World} {K : PySem.W.Frag} {mg : Str → Option Value} {base : Heap} {T : List (Addr × Str)} {f : Addr} {fd : FuncData} (fx : Fx K mg) (F : FunD K "is_half_number" "is_half_number" (defArgs (top 16)) (defBody (top 16)) (defScope (top 16)) [] [] f fd) (hx : mg "is_half_number" = some (.ref f)) (G_is_fraction : Dn P w K mg base T 2 "is_fraction" 1 F_is_fraction) (G_is_two_power : Dn P w K mg base T 1 "is_two_power" 1 F_is_two_power) : Dn P w K mg base T 3 "is_half_number" 1 F_is_half_number := by
  refine dn_ofD (k := 2) (N := ["thing"]) (ps := ["thing"]) (g := S_is_half_number) F hx (F.bindsN (ps := ["thing"]) fun _ _ _ _ _ _ us hl => match us, hl with | [_], _ => rfl) sc_is_half_number fun cdv A outer s H E hr => ?_
  exact (dss_one (ds_ret (de_and (de_call G_is_fraction (hr.mono (by omega)) (by rfl) (takes_of rfl rfl rfl rfl) (da_cons (de_var 0) da_nil)) (de_one (de_call G_is_two_power (hr.mono (by omega)) (by rfl) (takes_of rfl rfl rfl rfl) (da_cons (de_ix (de_var 0) de_int) da_nil))))))
theorem ok_signs_number {P : Program} {w : World} {K : PySem.W.Frag} {mg : Str → Option Value} {base : Heap} {T : List (Addr × Str)} {f : Addr} {fd : FuncData} (fx : Fx K mg) (F : FunD K "signs_number" "signs_number" (defArgs (top 17)) (defBody (top 17)) (defScope (top 17)) [] [] f fd) (hx : mg "signs_number" = some (.ref f))  : Dn P w K mg base T 1 "signs_number" 1 F_signs_number := by
  refine dn_ofD (k := 0) (N := ["number", "found", "rest", "bottom"]) (ps := ["number"]) (g := S_signs_number) F hx (F.bindsN (ps := ["number"]) fun _ _ _ _ _ _ us hl => match us, hl with | [_], _ => rfl) sc_signs_number fun cdv A outer s H E hr => ?_
  exact (dss_cons (ds_set (i := 1) sc_signs_number.nd (de_div (de_B bi_abs (by rfl) fx.z_abs bo_abs (da_cons (de_ix (de_var 0) de_int) da_nil)) (de_ix (de_var 0) de_int))) (dss_cons (ds_par (i := 2) (j := 3) rfl sc_signs_number.nd (da_cons (de_mod (de_B bi_abs (by rfl) fx.z_abs bo_abs (da_cons (de_ix (de_var 0) de_int) da_nil)) (de_ix (de_var 0) de_int)) (da_cons (de_ix (de_var 0) de_int) da_nil))) (dss_cons (ds_while (n := 1000) (passes_of rfl) (dt_cmp ci_gt (de_var 3) de_int) (dss_one (ds_par (i := 1) (j := 3) rfl sc_signs_number.nd (da_cons (de_add (de_var 1) de_int) (da_cons (de_div (de_var 3) de_int) da_nil))))) (dss_one (ds_ret (de_add (de_var 1) (de_BT bi_int (by rfl) fx.z_int bo_int (da_cons (de_cmp ci_gt (de_var 2) de_int) da_nil))))))))
theorem okr_between_of {P : Program} {w : World} {K : PySem.W.Frag} {mg : Str → Option Value} {base : Heap} {T : List (Addr × Str)} {f : Addr} {fd : FuncData} (fx : Fx K mg) (F : FunD K "between_of" "between_of" (defArgs (top 18)) (defBody (top 18)) (defScope (top 18)) [] [] f fd) (hx : mg "between_of" = some (.ref f)) (G_frac : Dn P w K mg base T 2 "frac" 2 F_frac) (G_less : Dn P w K mg base T 1 "less" 2 F_less) : ∀ n, Dn P w K mg base T (2 + n) "between_of" 2 (R_between_of n)
  | 0 => dn_zeroD (ps := ["low", "high"]) F hx (F.bindsN (ps := ["low", "high"]) fun _ _ _ _ _ _ us hl => match us, hl with | [_, _], _ => rfl)
  | n + 1 => by
    have GR := okr_between_of (P := P) (w := w) (base := base) (T := T) fx F hx G_frac G_less n
    refine dn_ofD (N := ["low", "high", "told", "whole", "bottom", "found", "top"]) (ps := ["low", "high"]) (g := S_between_of (R_between_of n)) F hx (F.bindsN (ps := ["low", "high"]) fun _ _ _ _ _ _ us hl => match us, hl with | [_, _], _ => rfl) sc_between_of fun cdv A outer s H E hr => ?_
    have hr : Room (2 + n) _ := hr
    exact (dss_cons (ds_if ((dw_and ((dw_or (dt_cmp ci_is (de_var 0) de_non) (dw_or1 (dt_val (de_call G_less (hr.mono (by omega)) (by rfl) (takes_of rfl rfl rfl rfl) (da_cons (de_var 0) (da_cons (de_tup (da_cons de_int (da_cons de_int da_nil))) da_nil))))))).pt (dw_and1 ((dw_or (dt_cmp ci_is (de_var 1) de_non) (dw_or1 (dt_val (de_call G_less (hr.mono (by omega)) (by rfl) (takes_of rfl rfl rfl rfl) (da_cons (de_tup (da_cons de_int (da_cons de_int da_nil))) (da_cons (de_var 1) da_nil))))))).pt))).pt (dss_one (ds_ret (de_tup (da_cons de_int (da_cons de_int da_nil))))) dss_nil) (dss_cons (ds_if ((dw_and (dt_cmp ci_isnot (de_var 1) de_non) (dw_and1 (dt_not (dt_val (de_call G_less (hr.mono (by omega)) (by rfl) (takes_of rfl rfl rfl rfl) (da_cons (de_tup (da_cons de_int (da_cons de_int da_nil))) (da_cons (de_var 1) da_nil)))))))).pt (dss_cons (ds_set (i := 2) sc_between_of.nd (de_call GR (hr.mono (by omega)) (by rfl) (takes_of rfl rfl rfl rfl) (da_cons (de_tup (da_cons (de_neg (de_ix (de_var 1) de_int)) (da_cons (de_ix (de_var 1) de_int) da_nil))) (da_cons (de_if (dt_cmp ci_is (de_var 0) de_non) de_non (de_tup (da_cons (de_neg (de_ix (de_var 0) de_int)) (da_cons (de_ix (de_var 0) de_int) da_nil)))) da_nil)))) (dss_one (ds_ret (de_tup (da_cons (de_neg (de_ix (de_var 2) de_int)) (da_cons (de_ix (de_var 2) de_int) da_nil)))))) dss_nil) (dss_cons (ds_set (i := 3) sc_between_of.nd (de_add (de_div (de_ix (de_var 0) de_int) (de_ix (de_var 0) de_int)) de_int)) (dss_cons (ds_if ((dw_or (dt_cmp ci_is (de_var 1) de_non) (dw_or1 (dt_val (de_call G_less (hr.mono (by omega)) (by rfl) (takes_of rfl rfl rfl rfl) (da_cons (de_tup (da_cons (de_var 3) (da_cons de_int da_nil))) (da_cons (de_var 1) da_nil))))))).pt (dss_one (ds_ret (de_tup (da_cons (de_var 3) (da_cons de_int da_nil))))) dss_nil) (dss_cons (ds_set (i := 4) sc_between_of.nd de_int) (dss_cons (ds_set (i := 5) sc_between_of.nd de_non) (dss_cons (ds_while (n := 1000) (passes_of rfl) (dt_cmp ci_is (de_var 5) de_non) (dss_cons (ds_set (i := 4) sc_between_of.nd (de_mulA (de_var 4) de_int)) (dss_cons (ds_set (i := 6) sc_between_of.nd (de_add (de_div (de_mulA (de_ix (de_var 0) de_int) (de_var 4)) (de_ix (de_var 0) de_int)) de_int)) (dss_one (ds_if (dt_val (de_call G_less (hr.mono (by omega)) (by rfl) (takes_of rfl rfl rfl rfl) (da_cons (de_tup (da_cons (de_var 6) (da_cons (de_var 4) da_nil))) (da_cons (de_var 1) da_nil)))) (dss_one (ds_set (i := 5) sc_between_of.nd (de_call G_frac (hr.mono (by omega)) (by rfl) (takes_of rfl rfl rfl rfl) (da_cons (de_var 6) (da_cons (de_var 4) da_nil))))) dss_nil))))) (dss_one (ds_ret (de_var 5))))))))))
theorem ok_between_of {P : Program} {w : World} {K : PySem.W.Frag} {mg : Str → Option Value} {base : Heap} {T : List (Addr × Str)} {f : Addr} {fd : FuncData} (fx : Fx K mg) (F : FunD K "between_of" "between_of" (defArgs (top 18)) (defBody (top 18)) (defScope (top 18)) [] [] f fd) (hx : mg "between_of" = some (.ref f)) (G_frac : Dn P w K mg base T 2 "frac" 2 F_frac) (G_less : Dn P w K mg base T 1 "less" 2 F_less) : Dn P w K mg base T 6 "between_of" 2 F_between_of := dn_mono (okr_between_of fx F hx G_frac G_less 3) (by omega)
theorem ok_signs_of {P : Program} {w : World} {K : PySem.W.Frag} {mg : Str → Option Value} {base : Heap} {T : List (Addr × Str)} {f : Addr} {fd : FuncData} (fx : Fx K mg) (F : FunD K "signs_of" "signs_of" (defArgs (top 19)) (defBody (top 19)) (defScope (top 19)) [] [] f fd) (hx : mg "signs_of" = some (.ref f)) (G_less : Dn P w K mg base T 1 "less" 2 F_less) (G_between_of : Dn P w K mg base T 6 "between_of" 2 F_between_of) : Dn P w K mg base T 7 "signs_of" 1 F_signs_of := by
  refine dn_ofD (k := 6) (N := ["number", "found", "low", "high", "here"]) (ps := ["number"]) (g := S_signs_of) F hx (F.bindsN (ps := ["number"]) fun _ _ _ _ _ _ us hl => match us, hl with | [_], _ => rfl) sc_signs_of fun cdv A outer s H E hr => ?_
  exact (dss_cons (ds_parG (is := [1, 2, 3, 4]) rfl (dns_cons (dn_F (df_lst da_nil)) (dns_cons (dn_E de_non) (dns_cons (dn_E de_non) (dns_cons (dn_E (de_tup (da_cons de_int (da_cons de_int da_nil)))) dns_nil)))) (pgs_cons (pg_name (i := 1) sc_signs_of.nd rfl (by first | exact Or.inl rfl | exact Or.inr rfl)) (pgs_cons (pg_name (i := 2) sc_signs_of.nd rfl (by first | exact Or.inl rfl | exact Or.inr rfl)) (pgs_cons (pg_name (i := 3) sc_signs_of.nd rfl (by first | exact Or.inl rfl | exact Or.inr rfl)) (pgs_cons (pg_name (i := 4) sc_signs_of.nd rfl (by first | exact Or.inl rfl | exact Or.inr rfl)) pgs_nil))))) (dss_cons (ds_while (n := 1000) (passes_of rfl) (dt_cmp (ci_ne hr.units) (de_var 4) (de_var 0)) (dss_cons (ds_if (dt_val (de_call G_less (hr.mono (by omega)) (by rfl) (takes_of rfl rfl rfl rfl) (da_cons (de_var 4) (da_cons (de_var 0) da_nil)))) (dss_cons (ds_append (j := 1) de_str) (dss_one (ds_set (i := 2) sc_signs_of.nd (de_var 4)))) (dss_cons (ds_append (j := 1) de_str) (dss_one (ds_set (i := 3) sc_signs_of.nd (de_var 4))))) (dss_one (ds_set (i := 4) sc_signs_of.nd (de_call G_between_of (hr.mono (by omega)) (by rfl) (takes_of rfl rfl rfl rfl) (da_cons (de_var 2) (da_cons (de_var 3) da_nil))))))) (dss_one (ds_ret (de_join de_str (de_var 1))))))
theorem ok_signs {P : Program} {w : World} {K : PySem.W.Frag} {mg : Str → Option Value} {base : Heap} {T : List (Addr × Str)} {f : Addr} {fd : FuncData} (fx : Fx K mg) (F : FunD K "signs" "signs" (defArgs (top 20)) (defBody (top 20)) (defScope (top 20)) [] [] f fd) (hx : mg "signs" = some (.ref f)) (G_is_half_number : Dn P w K mg base T 3 "is_half_number" 1 F_is_half_number) (G_signs_of : Dn P w K mg base T 7 "signs_of" 1 F_signs_of) : Dn P w K mg base T 8 "signs" 1 F_signs := by
  refine dn_ofD (k := 7) (N := ["number"]) (ps := ["number"]) (g := S_signs) F hx (F.bindsN (ps := ["number"]) fun _ _ _ _ _ _ us hl => match us, hl with | [_], _ => rfl) sc_signs fun cdv A outer s H E hr => ?_
  exact (dss_cons (ds_if ((dw_or (dt_not (dt_val (de_call G_is_half_number (hr.mono (by omega)) (by rfl) (takes_of rfl rfl rfl rfl) (da_cons (de_var 0) da_nil)))) (dw_or (dt_cmp ci_gt (de_div (de_B bi_abs (by rfl) fx.z_abs bo_abs (da_cons (de_ix (de_var 0) de_int) da_nil)) (de_ix (de_var 0) de_int)) (de_gint (by rfl) fx.m_MOST_SIGNS)) (dw_or1 (dt_cmp ci_gt (de_ix (de_var 0) de_int) (de_shl de_int (de_gint (by rfl) fx.m_MOST_SIGNS))))))).pt (dss_one (ds_raise rfl (takes_of rfl rfl rfl rfl) fx.xc_BadNumber (by rfl))) dss_nil) (dss_one (ds_ret (de_call G_signs_of (hr.mono (by omega)) (by rfl) (takes_of rfl rfl rfl rfl) (da_cons (de_var 0) da_nil)))))
theorem ok_number_by {P : Program} {w : World} {K : PySem.W.Frag} {mg : Str → Option Value} {base : Heap} {T : List (Addr × Str)} {f : Addr} {fd : FuncData} (fx : Fx K mg) (F : FunD K "number_by" "number_by" (defArgs (top 21)) (defBody (top 21)) (defScope (top 21)) [] [] f fd) (hx : mg "number_by" = some (.ref f)) (G_between_of : Dn P w K mg base T 6 "between_of" 2 F_between_of) : Dn P w K mg base T 7 "number_by" 1 F_number_by := by
  refine dn_ofD (k := 6) (N := ["word", "low", "high", "here", "sign"]) (ps := ["word"]) (g := S_number_by) F hx (F.bindsN (ps := ["word"]) fun _ _ _ _ _ _ us hl => match us, hl with | [_], _ => rfl) sc_number_by fun cdv A outer s H E hr => ?_
  exact (dss_cons (ds_if ((dw_or (dt_not (dt_val (de_B bi_isi (by rfl) fx.z_isinstance bo_isinstance (da_cons (de_var 0) (da_cons (de_ty (by rfl) fx.z_str bo_str) da_nil))))) (dw_or (dt_cmp ci_gt (de_B bi_len (by rfl) fx.z_len bo_len (da_cons (de_var 0) da_nil)) (de_gint (by rfl) fx.m_MOST_SIGNS)) (dw_or1 (dt_not (dt_val (de_B (bi_all rfl) (by rfl) fx.z_all bo_all (da_cons (de_F (df_lc (own := [("sign", 4)]) rfl sc_number_by.nd (di_str (de_var 0)) (blkOk_by (by show blkC ["word", "low", "high", "here", "sign"] (defScope (top 21)) _ _ = true; decide +kernel)) (fun _ _ _ _ _ => (pg_name (i := 4) sc_number_by.nd rfl (by first | exact Or.inl rfl | exact Or.inr rfl))) (fun _ _ _ _ _ => dts_nil) (fun _ _ _ _ _ => (de_cmp ci_inS (de_var 4) de_str rfl)))) da_nil)))))))).pt (dss_one (ds_raise rfl (takes_of rfl rfl rfl rfl) fx.xc_BadNumber (by rfl))) dss_nil) (dss_cons (ds_asg (de_tup (da_cons de_non (da_cons de_non (da_cons (de_tup (da_cons de_int (da_cons de_int da_nil))) da_nil)))) (show PG _ _ (tgG _ (.many [1, 2, 3])) from pg_tup rfl (pgs_cons (pg_name (i := 1) sc_number_by.nd rfl (by first | exact Or.inl rfl | exact Or.inr rfl)) (pgs_cons (pg_name (i := 2) sc_number_by.nd rfl (by first | exact Or.inl rfl | exact Or.inr rfl)) (pgs_cons (pg_name (i := 3) sc_number_by.nd rfl (by first | exact Or.inl rfl | exact Or.inr rfl)) pgs_nil))))) (dss_cons (ds_for (passes_of rfl) rfl (di_str (de_var 0)) (pg_name (i := 4) sc_number_by.nd rfl (by first | exact Or.inl rfl | exact Or.inr rfl)) (dss_cons (ds_if (dt_cmp (ci_eq hr.units) (de_var 4) de_str) (dss_one (ds_set (i := 1) sc_number_by.nd (de_var 3))) (dss_one (ds_set (i := 2) sc_number_by.nd (de_var 3)))) (dss_one (ds_set (i := 3) sc_number_by.nd (de_call G_between_of (hr.mono (by omega)) (by rfl) (takes_of rfl rfl rfl rfl) (da_cons (de_var 1) (da_cons (de_var 2) da_nil))))))) (dss_one (ds_ret (de_var 3))))))
theorem ok_product_of {P : Program} {w : World} {K : PySem.W.Frag} {mg : Str → Option Value} {base : Heap} {T : List (Addr × Str)} {f : Addr} {fd : FuncData} (fx : Fx K mg) (F : FunD K "product_of" "product_of" (defArgs (top 22)) (defBody (top 22)) (defScope (top 22)) [] [] f fd) (hx : mg "product_of" = some (.ref f)) (G_frac : Dn P w K mg base T 2 "frac" 2 F_frac) (G_is_half_number : Dn P w K mg base T 3 "is_half_number" 1 F_is_half_number) : Dn P w K mg base T 4 "product_of" 2 F_product_of := by
  refine dn_ofD (k := 3) (N := ["one", "other", "number"]) (ps := ["one", "other"]) (g := S_product_of) F hx (F.bindsN (ps := ["one", "other"]) fun _ _ _ _ _ _ us hl => match us, hl with | [_, _], _ => rfl) sc_product_of fun cdv A outer s H E hr => ?_
  exact (dss_cons (ds_for (passes_of rfl) rfl (di_seq (de_tup (da_cons (de_var 0) (da_cons (de_var 1) da_nil)))) (pg_name (i := 2) sc_product_of.nd rfl (by first | exact Or.inl rfl | exact Or.inr rfl)) (dss_one (ds_if (dt_not (dt_val (de_call G_is_half_number (hr.mono (by omega)) (by rfl) (takes_of rfl rfl rfl rfl) (da_cons (de_var 2) da_nil)))) (dss_one (ds_raise rfl (takes_of rfl rfl rfl rfl) fx.xc_BadNumber (by rfl))) dss_nil))) (dss_one (ds_ret (de_call G_frac (hr.mono (by omega)) (by rfl) (takes_of rfl rfl rfl rfl) (da_cons (de_mulA (de_ix (de_var 0) de_int) (de_ix (de_var 1) de_int)) (da_cons (de_mulA (de_ix (de_var 0) de_int) (de_ix (de_var 1) de_int)) da_nil))))))
theorem ok_born_on {P : Program} {w : World} {K : PySem.W.Frag} {mg : Str → Option Value} {base : Heap} {T : List (Addr × Str)} {f : Addr} {fd : FuncData} (fx : Fx K mg) (F : FunD K "born_on" "born_on" (defArgs (top 23)) (defBody (top 23)) (defScope (top 23)) [] [] f fd) (hx : mg "born_on" = some (.ref f)) (G_is_half_number : Dn P w K mg base T 3 "is_half_number" 1 F_is_half_number) (G_signs_number : Dn P w K mg base T 1 "signs_number" 1 F_signs_number) : Dn P w K mg base T 4 "born_on" 1 F_born_on := by
  refine dn_ofD (k := 3) (N := ["number"]) (ps := ["number"]) (g := S_born_on) F hx (F.bindsN (ps := ["number"]) fun _ _ _ _ _ _ us hl => match us, hl with | [_], _ => rfl) sc_born_on fun cdv A outer s H E hr => ?_
  exact (dss_cons (ds_if ((dw_or (dt_not (dt_val (de_call G_is_half_number (hr.mono (by omega)) (by rfl) (takes_of rfl rfl rfl rfl) (da_cons (de_var 0) da_nil)))) (dw_or1 (dt_cmp ci_gt (de_ix (de_var 0) de_int) (de_shl de_int (de_gint (by rfl) fx.m_MOST_SIGNS)))))).pt (dss_one (ds_raise rfl (takes_of rfl rfl rfl rfl) fx.xc_BadNumber (by rfl))) dss_nil) (dss_one (ds_ret (de_call G_signs_number (hr.mono (by omega)) (by rfl) (takes_of rfl rfl rfl rfl) (da_cons (de_var 0) da_nil)))))
theorem ok_numbers_by {P : Program} {w : World} {K : PySem.W.Frag} {mg : Str → Option Value} {base : Heap} {T : List (Addr × Str)} {f : Addr} {fd : FuncData} (fx : Fx K mg) (F : FunD K "numbers_by" "numbers_by" (defArgs (top 24)) (defBody (top 24)) (defScope (top 24)) [] [] f fd) (hx : mg "numbers_by" = some (.ref f)) (G_is_within : Dn P w K mg base T 2 "is_within" 3 F_is_within) (G_between_of : Dn P w K mg base T 6 "between_of" 2 F_between_of) : Dn P w K mg base T 7 "numbers_by" 1 F_numbers_by := by
  refine dn_ofD (k := 6) (N := ["day", "rows", "turn", "later", "at", "one"]) (ps := ["day"]) (g := S_numbers_by) F hx (F.bindsN (ps := ["day"]) fun _ _ _ _ _ _ us hl => match us, hl with | [_], _ => rfl) sc_numbers_by fun cdv A outer s H E hr => ?_
  exact (dss_cons (ds_if (dt_not (dt_val (de_call G_is_within (hr.mono (by omega)) (by rfl) (takes_of rfl rfl rfl rfl) (da_cons (de_var 0) (da_cons de_int (da_cons de_int da_nil)))))) (dss_one (ds_raise rfl (takes_of rfl rfl rfl rfl) fx.xc_BadNumber (by rfl))) dss_nil) (dss_cons (ds_set (i := 1) sc_numbers_by.nd (de_lst (da_cons (de_tup (da_cons de_int (da_cons de_int da_nil))) da_nil))) (dss_cons (ds_for (passes_of rfl) rfl (di_rng1 (by rfl) fx.z_range (da_cons (de_var 0) da_nil)) (pg_name (i := 2) sc_numbers_by.nd rfl (by first | exact Or.inl rfl | exact Or.inr rfl)) (dss_cons (ds_setN (i := 3) sc_numbers_by.nd (dn_F (df_lst (da_cons (de_call G_between_of (hr.mono (by omega)) (by rfl) (takes_of rfl rfl rfl rfl) (da_cons de_non (da_cons (de_ix (de_var 1) de_int) da_nil))) da_nil)))) (dss_cons (ds_for (passes_of rfl) rfl (di_enumA (by rfl) fx.z_enumerate (da_cons (de_var 1) da_nil)) (show PG _ _ (tgG _ (.many [4, 5])) from pg_tup rfl (pgs_cons (pg_name (i := 4) sc_numbers_by.nd rfl (by first | exact Or.inl rfl | exact Or.inr rfl)) (pgs_cons (pg_name (i := 5) sc_numbers_by.nd rfl (by first | exact Or.inl rfl | exact Or.inr rfl)) pgs_nil))) (dss_cons (ds_append (j := 3) (de_var 5)) (dss_one (ds_append (j := 3) (de_call G_between_of (hr.mono (by omega)) (by rfl) (takes_of rfl rfl rfl rfl) (da_cons (de_var 5) (da_cons (de_if (dt_cmp (ci_lt hr.units) (de_add (de_var 4) de_int) (de_B bi_len (by rfl) fx.z_len bo_len (da_cons (de_var 1) da_nil))) (de_ix (de_var 1) (de_add (de_var 4) de_int)) de_non) da_nil))))))) (dss_one (ds_frz (j := 3) (ds_set (i := 1) sc_numbers_by.nd (de_var 3))))))) (dss_one (ds_ret (de_BT bi_tup (by rfl) fx.z_tuple bo_tuple (da_cons (de_var 1) da_nil)))))))
theorem ok_middle_of {P : Program} {w : World} {K : PySem.W.Frag} {mg : Str → Option Value} {base : Heap} {T : List (Addr × Str)} {f : Addr} {fd : FuncData} (fx : Fx K mg) (F : FunD K "middle_of" "middle_of" (defArgs (top 25)) (defBody (top 25)) (defScope (top 25)) [] [] f fd) (hx : mg "middle_of" = some (.ref f)) (G_plus : Dn P w K mg base T 3 "plus" 2 F_plus) (G_half_of : Dn P w K mg base T 3 "half_of" 1 F_half_of) (G_is_half_number : Dn P w K mg base T 3 "is_half_number" 1 F_is_half_number) : Dn P w K mg base T 4 "middle_of" 2 F_middle_of := by
  refine dn_ofD (k := 3) (N := ["one", "other", "number"]) (ps := ["one", "other"]) (g := S_middle_of) F hx (F.bindsN (ps := ["one", "other"]) fun _ _ _ _ _ _ us hl => match us, hl with | [_, _], _ => rfl) sc_middle_of fun cdv A outer s H E hr => ?_
  exact (dss_cons (ds_for (passes_of rfl) rfl (di_seq (de_tup (da_cons (de_var 0) (da_cons (de_var 1) da_nil)))) (pg_name (i := 2) sc_middle_of.nd rfl (by first | exact Or.inl rfl | exact Or.inr rfl)) (dss_one (ds_if (dt_not (dt_val (de_call G_is_half_number (hr.mono (by omega)) (by rfl) (takes_of rfl rfl rfl rfl) (da_cons (de_var 2) da_nil)))) (dss_one (ds_raise rfl (takes_of rfl rfl rfl rfl) fx.xc_BadNumber (by rfl))) dss_nil))) (dss_one (ds_ret (de_call G_half_of (hr.mono (by omega)) (by rfl) (takes_of rfl rfl rfl rfl) (da_cons (de_call G_plus (hr.mono (by omega)) (by rfl) (takes_of rfl rfl rfl rfl) (da_cons (de_var 0) (da_cons (de_var 1) da_nil))) da_nil)))))
theorem ok_is_whole {P : Program} {w : World} {K : PySem.W.Frag} {mg : Str → Option Value} {base : Heap} {T : List (Addr × Str)} {f : Addr} {fd : FuncData} (fx : Fx K mg) (F : FunD K "is_whole" "is_whole" (defArgs (top 26)) (defBody (top 26)) (defScope (top 26)) [] [] f fd) (hx : mg "is_whole" = some (.ref f)) (G_is_integer : Dn P w K mg base T 1 "is_integer" 1 F_is_integer) (G_is_half_number : Dn P w K mg base T 3 "is_half_number" 1 F_is_half_number) : Dn P w K mg base T 4 "is_whole" 1 F_is_whole := by
  refine dn_ofD (k := 3) (N := ["number"]) (ps := ["number"]) (g := S_is_whole) F hx (F.bindsN (ps := ["number"]) fun _ _ _ _ _ _ us hl => match us, hl with | [_], _ => rfl) sc_is_whole fun cdv A outer s H E hr => ?_
  exact (dss_cons (ds_if (dt_not (dt_val (de_call G_is_half_number (hr.mono (by omega)) (by rfl) (takes_of rfl rfl rfl rfl) (da_cons (de_var 0) da_nil)))) (dss_one (ds_raise rfl (takes_of rfl rfl rfl rfl) fx.xc_BadNumber (by rfl))) dss_nil) (dss_one (ds_ret (de_and (de_call G_is_integer (hr.mono (by omega)) (by rfl) (takes_of rfl rfl rfl rfl) (da_cons (de_ix (de_var 0) de_int) da_nil)) (de_one (de_cmp (ci_eq hr.units) (de_ix (de_var 0) de_int) de_int))))))
theorem ok__law_hand {P : Program} {w : World} {K : PySem.W.Frag} {mg : Str → Option Value} {base : Heap} {T : List (Addr × Str)} {f : Addr} {fd : FuncData} (fx : Fx K mg) (F : FunD K "_law_hand" "_law_hand" (defArgs (top 28)) (defBody (top 28)) (defScope (top 28)) [] [] f fd) (hx : mg "_law_hand" = some (.ref f))  : Dn P w K mg base T 1 "_law_hand" 1 F__law_hand := by
  refine dn_ofD (k := 0) (N := ["script", "cells", "cell"]) (ps := ["script"]) (g := S__law_hand) F hx (F.bindsN (ps := ["script"]) fun _ _ _ _ _ _ us hl => match us, hl with | [_], _ => rfl) sc__law_hand fun cdv A outer s H E hr => ?_
  exact (dss_cons (ds_setLc (i := 1) (own := [("cell", 2)]) rfl sc__law_hand.nd (di_seq (de_sl (de_var 0) do_none (do_some de_int))) (blkOk_by (by show blkC ["script", "cells", "cell"] (defScope (top 28)) _ _ = true; decide +kernel)) (fun _ _ _ _ _ => (pg_name (i := 2) sc__law_hand.nd rfl (by first | exact Or.inl rfl | exact Or.inr rfl))) (fun _ _ _ _ _ => dts_nil) (fun _ _ _ _ _ => (de_B bi_abs (by rfl) fx.z_abs bo_abs (da_cons (de_BT bi_int (by rfl) fx.z_int bo_int (da_cons (de_var 2) da_nil)) da_nil))) hn_dat (sw_true rfl rfl rfl rfl)) (dss_one (ds_ret (de_lst (da_cons (de_var 1) (da_cons de_int (da_cons de_int (da_cons (de_add de_int (de_mulA de_int (de_B bi_len (by rfl) fx.z_len bo_len (da_cons (de_var 1) da_nil)))) (da_cons de_int da_nil)))))))))
theorem ok__law_draw {P : Program} {w : World} {K : PySem.W.Frag} {mg : Str → Option Value} {base : Heap} {T : List (Addr × Str)} {f : Addr} {fd : FuncData} (fx : Fx K mg) (F : FunD K "_law_draw" "_law_draw" (defArgs (top 29)) (defBody (top 29)) (defScope (top 29)) [] [] f fd) (hx : mg "_law_draw" = some (.ref f))  : Dn P w K mg base T 1 "_law_draw" 2 F__law_draw := by
  refine dn_ofD (k := 0) (N := ["hand", "many", "cell", "digit", "number"]) (ps := ["hand", "many"]) (g := S__law_draw) F hx (F.bindsN (ps := ["hand", "many"]) fun _ _ _ _ _ _ us hl => match us, hl with | [_, _], _ => rfl) sc__law_draw fun cdv A outer s H E hr => ?_
  exact (dss_cons (ds_if ((dw_and (dt_cmp (ci_eq hr.units) (de_ix (de_var 0) de_int) de_int) (dw_and1 (dt_cmp (ci_lt hr.units) (de_ix (de_var 0) de_int) (de_B bi_len (by rfl) fx.z_len bo_len (da_cons (de_ix (de_var 0) de_int) da_nil)))))).pt (dss_cons (ds_set (i := 2) sc__law_draw.nd (de_ix (de_ix (de_var 0) de_int) (de_ix (de_var 0) de_int))) (dss_cons (ds_put (j := 0) (de_add (de_ix (de_var 0) de_int) de_int) de_int) (dss_cons (ds_put (j := 0) (de_mod (de_BT bi_int (by rfl) fx.z_int bo_int (da_cons (de_add (de_add (de_mulA (de_ix (de_var 0) de_int) de_int) (de_mulA (de_var 2) de_int)) de_int) da_nil)) de_int) de_int) (dss_one (ds_if (dt_cmp ci_ge (de_var 2) (de_pow de_int de_int)) (dss_one (ds_put (j := 0) (de_var 2) de_int)) dss_nil))))) dss_nil) (dss_cons (ds_if (dt_cmp ci_gt (de_ix (de_var 0) de_int) de_int) (dss_cons (ds_set (i := 3) sc__law_draw.nd (de_mod (de_BT bi_int (by rfl) fx.z_int bo_int (da_cons (de_ix (de_var 0) de_int) da_nil)) (de_var 1))) (dss_cons (ds_put (j := 0) (de_div (de_ix (de_var 0) de_int) (de_var 1)) de_int) (dss_one (ds_ret (de_var 3))))) dss_nil) (dss_cons (ds_put (j := 0) (de_add (de_ix (de_var 0) de_int) de_int) de_int) (dss_cons (ds_set (i := 4) sc__law_draw.nd (de_mod (de_BT bi_int (by rfl) fx.z_int bo_int (da_cons (de_mulA (de_BT bi_int (by rfl) fx.z_int bo_int (da_cons (de_add (de_ix (de_var 0) de_int) (de_mulA de_int (de_ix (de_var 0) de_int))) da_nil)) de_int) da_nil)) de_int)) (dss_cons (ds_set (i := 4) sc__law_draw.nd (de_mod (de_BT bi_int (by rfl) fx.z_int bo_int (da_cons (de_mulA (de_var 4) (de_add (de_div (de_var 4) de_int) de_int)) da_nil)) de_int)) (dss_cons (ds_set (i := 4) sc__law_draw.nd (de_mod (de_BT bi_int (by rfl) fx.z_int bo_int (da_cons (de_mulA (de_var 4) (de_add (de_div (de_var 4) de_int) de_int)) da_nil)) de_int)) (dss_one (ds_ret (de_mod (de_BT bi_int (by rfl) fx.z_int bo_int (da_cons (de_div (de_var 4) de_int) da_nil)) (de_var 1))))))))))
theorem ok__law_any {P : Program} {w : World} {K : PySem.W.Frag} {mg : Str → Option Value} {base : Heap} {T : List (Addr × Str)} {f : Addr} {fd : FuncData} (fx : Fx K mg) (F : FunD K "_law_any" "_law_any" (defArgs (top 30)) (defBody (top 30)) (defScope (top 30)) [] [] f fd) (hx : mg "_law_any" = some (.ref f)) (G__law_draw : Dn P w K mg base T 1 "_law_draw" 2 F__law_draw) : Dn P w K mg base T 2 "_law_any" 2 F__law_any := by
  refine dn_ofD (k := 1) (N := ["hand", "some"]) (ps := ["hand", "some"]) (g := S__law_any) F hx (F.bindsN (ps := ["hand", "some"]) fun _ _ _ _ _ _ us hl => match us, hl with | [_, _], _ => rfl) sc__law_any fun cdv A outer s H E hr => ?_
  exact (dss_one (ds_ret (de_ix (de_var 1) (de_call G__law_draw (hr.mono (by omega)) (by rfl) (takes_of rfl rfl rfl rfl) (da_cons (de_var 0) (da_cons (de_B bi_len (by rfl) fx.z_len bo_len (da_cons (de_var 1) da_nil)) da_nil))))))
theorem okr__law_is {P : Program} {w : World} {K : PySem.W.Frag} {mg : Str → Option Value} {base : Heap} {T : List (Addr × Str)} {f : Addr} {fd : FuncData} (fx : Fx K mg) (F : FunD K "_law_is" "_law_is" (defArgs (top 31)) (defBody (top 31)) (defScope (top 31)) [] [] f fd) (hx : mg "_law_is" = some (.ref f))  : ∀ n, Dn P w K mg base T (0 + n) "_law_is" 2 (R__law_is n)
  | 0 => dn_zeroD (ps := ["said", "due"]) F hx (F.bindsN (ps := ["said", "due"]) fun _ _ _ _ _ _ us hl => match us, hl with | [_, _], _ => rfl)
  | n + 1 => by
    have GR := okr__law_is (P := P) (w := w) (base := base) (T := T) fx F hx  n
    refine dn_ofD (N := ["said", "due", "one", "other"]) (ps := ["said", "due"]) (g := S__law_is (R__law_is n)) F hx (F.bindsN (ps := ["said", "due"]) fun _ _ _ _ _ _ us hl => match us, hl with | [_, _], _ => rfl) sc__law_is fun cdv A outer s H E hr => ?_
    have hr : Room (0 + n) _ := hr
    exact (dss_cons (ds_if (dt_val (de_B bi_isi (by rfl) fx.z_isinstance bo_isinstance (da_cons (de_var 1) (da_cons (de_tup (da_cons (de_ty (by rfl) fx.z_tuple bo_tuple) (da_cons (de_ty (by rfl) fx.z_list bo_list) da_nil))) da_nil)))) (dss_cons (ds_if ((dw_or (dt_cmp (ci_ne hr.units) (de_B bi_isi (by rfl) fx.z_isinstance bo_isinstance (da_cons (de_var 0) (da_cons (de_ty (by rfl) fx.z_tuple bo_tuple) da_nil))) (de_B bi_isi (by rfl) fx.z_isinstance bo_isinstance (da_cons (de_var 1) (da_cons (de_ty (by rfl) fx.z_tuple bo_tuple) da_nil)))) (dw_or1 (dt_cmp (ci_ne hr.units) (de_B bi_isi (by rfl) fx.z_isinstance bo_isinstance (da_cons (de_var 0) (da_cons (de_ty (by rfl) fx.z_list bo_list) da_nil))) (de_B bi_isi (by rfl) fx.z_isinstance bo_isinstance (da_cons (de_var 1) (da_cons (de_ty (by rfl) fx.z_list bo_list) da_nil))))))).pt (dss_one (ds_ret de_bl)) dss_nil) (dss_one (ds_ret (de_and (de_cmp (ci_eq hr.units) (de_B bi_len (by rfl) fx.z_len bo_len (da_cons (de_var 0) da_nil)) (de_B bi_len (by rfl) fx.z_len bo_len (da_cons (de_var 1) da_nil))) (de_one (de_B (bi_all rfl) (by rfl) fx.z_all bo_all (da_cons (de_F (df_lc (own := [("one", 2), ("other", 3)]) rfl sc__law_is.nd (di_zip (by rfl) fx.z_zip (da_cons (de_var 0) (da_cons (de_var 1) da_nil))) (blkOk_by (by show blkC ["said", "due", "one", "other"] (defScope (top 31)) _ _ = true; decide +kernel)) (fun _ _ _ _ _ => (show PG _ _ (tgG _ (.many [2, 3])) from pg_tup rfl (pgs_cons (pg_name (i := 2) sc__law_is.nd rfl (by first | exact Or.inl rfl | exact Or.inr rfl)) (pgs_cons (pg_name (i := 3) sc__law_is.nd rfl (by first | exact Or.inl rfl | exact Or.inr rfl)) pgs_nil)))) (fun _ _ _ _ _ => dts_nil) (fun _ _ _ _ _ => (de_call GR (hr.mono (by omega)) (by rfl) takes0 (da_cons (de_var 2) (da_cons (de_var 3) da_nil)))))) da_nil))))))) dss_nil) (dss_cons (ds_if ((dw_or (dt_cmp ci_is (de_var 1) de_non) (dw_or1 (dt_cmp ci_is (de_var 0) de_non)))).pt (dss_one (ds_ret (de_and (de_cmp ci_is (de_var 1) de_non) (de_one (de_cmp ci_is (de_var 0) de_non))))) dss_nil) (dss_cons (ds_if ((dw_or (dt_cmp (ci_ne hr.units) (de_B bi_isi (by rfl) fx.z_isinstance bo_isinstance (da_cons (de_var 0) (da_cons (de_ty (by rfl) fx.z_bool bo_bool) da_nil))) (de_B bi_isi (by rfl) fx.z_isinstance bo_isinstance (da_cons (de_var 1) (da_cons (de_ty (by rfl) fx.z_bool bo_bool) da_nil)))) (dw_or1 (dt_cmp (ci_ne hr.units) (de_B bi_isi (by rfl) fx.z_isinstance bo_isinstance (da_cons (de_var 0) (da_cons (de_ty (by rfl) fx.z_int bo_int) da_nil))) (de_B bi_isi (by rfl) fx.z_isinstance bo_isinstance (da_cons (de_var 1) (da_cons (de_ty (by rfl) fx.z_int bo_int) da_nil))))))).pt (dss_one (ds_ret de_bl)) dss_nil) (dss_one (ds_ret (de_and (de_cmp (ci_eq hr.units) (de_B bi_isi (by rfl) fx.z_isinstance bo_isinstance (da_cons (de_var 0) (da_cons (de_ty (by rfl) fx.z_str bo_str) da_nil))) (de_B bi_isi (by rfl) fx.z_isinstance bo_isinstance (da_cons (de_var 1) (da_cons (de_ty (by rfl) fx.z_str bo_str) da_nil)))) (de_one (de_cmp (ci_eq hr.units) (de_var 0) (de_var 1)))))))))
theorem ok__law_is {P : Program} {w : World} {K : PySem.W.Frag} {mg : Str → Option Value} {base : Heap} {T : List (Addr × Str)} {f : Addr} {fd : FuncData} (fx : Fx K mg) (F : FunD K "_law_is" "_law_is" (defArgs (top 31)) (defBody (top 31)) (defScope (top 31)) [] [] f fd) (hx : mg "_law_is" = some (.ref f))  : Dn P w K mg base T 5 "_law_is" 2 F__law_is := dn_mono (okr__law_is fx F hx  4) (by omega)
theorem ok__law_frac {P : Program} {w : World} {K : PySem.W.Frag} {mg : Str → Option Value} {base : Heap} {T : List (Addr × Str)} {f : Addr} {fd : FuncData} (fx : Fx K mg) (F : FunD K "_law_frac" "_law_frac" (defArgs (top 32)) (defBody (top 32)) (defScope (top 32)) [] [] f fd) (hx : mg "_law_frac" = some (.ref f))  : Dn P w K mg base T 1 "_law_frac" 2 F__law_frac := by
  refine dn_ofD (k := 0) (N := ["n", "d", "a", "b"]) (ps := ["n", "d"]) (g := S__law_frac) F hx (F.bindsN (ps := ["n", "d"]) fun _ _ _ _ _ _ us hl => match us, hl with | [_, _], _ => rfl) sc__law_frac fun cdv A outer s H E hr => ?_
  exact (dss_cons (ds_par (i := 2) (j := 3) rfl sc__law_frac.nd (da_cons (de_B bi_abs (by rfl) fx.z_abs bo_abs (da_cons (de_var 0) da_nil)) (da_cons (de_var 1) da_nil))) (dss_cons (ds_while (n := 10000000000000000000000000000000000000000000000000000000000000000000000000000000000000000000000000000000000000000000000000000000000000000000000000000000000000000000000000000000000000000000000000000000000000000000000000000000000000000000000000000000000000000000000000000000000000000000000000000000000000000000000000000000000000000000000000000000000000000000000000000000000000000000000000000000000000000) (passes_of rfl) (dt_cmp ci_gt (de_var 3) de_int) (dss_one (ds_par (i := 2) (j := 3) rfl sc__law_frac.nd (da_cons (de_var 3) (da_cons (de_mod (de_BT bi_int (by rfl) fx.z_int bo_int (da_cons (de_var 2) da_nil)) (de_var 3)) da_nil))))) (dss_one (ds_ret (de_tup (da_cons (de_div (de_var 0) (de_var 2)) (da_cons (de_div (de_var 1) (de_var 2)) da_nil)))))))
theorem ok__law_below {P : Program} {w : World} {K : PySem.W.Frag} {mg : Str → Option Value} {base : Heap} {T : List (Addr × Str)} {f : Addr} {fd : FuncData} (fx : Fx K mg) (F : FunD K "_law_below" "_law_below" (defArgs (top 33)) (defBody (top 33)) (defScope (top 33)) [] [] f fd) (hx : mg "_law_below" = some (.ref f))  : Dn P w K mg base T 1 "_law_below" 2 F__law_below := by
  refine dn_ofD (k := 0) (N := ["one", "other"]) (ps := ["one", "other"]) (g := S__law_below) F hx (F.bindsN (ps := ["one", "other"]) fun _ _ _ _ _ _ us hl => match us, hl with | [_, _], _ => rfl) sc__law_below fun cdv A outer s H E hr => ?_
  exact (dss_one (ds_ret (de_cmp (ci_lt hr.units) (de_mulA (de_ix (de_var 0) de_int) (de_ix (de_var 1) de_int)) (de_mulA (de_ix (de_var 1) de_int) (de_ix (de_var 0) de_int)))))
theorem ok__law_moved {P : Program} {w : World} {K : PySem.W.Frag} {mg : Str → Option Value} {base : Heap} {T : List (Addr × Str)} {f : Addr} {fd : FuncData} (fx : Fx K mg) (F : FunD K "_law_moved" "_law_moved" (defArgs (top 34)) (defBody (top 34)) (defScope (top 34)) [] [] f fd) (hx : mg "_law_moved" = some (.ref f)) (G__law_frac : Dn P w K mg base T 1 "_law_frac" 2 F__law_frac) : Dn P w K mg base T 2 "_law_moved" 3 F__law_moved := by
  refine dn_ofD (k := 1) (N := ["here", "nearest", "is_above", "low", "high"]) (ps := ["here", "nearest", "is_above"]) (g := S__law_moved) F hx (F.bindsN (ps := ["here", "nearest", "is_above"]) fun _ _ _ _ _ _ us hl => match us, hl with | [_, _, _], _ => rfl) sc__law_moved fun cdv A outer s H E hr => ?_
  exact (dss_cons (ds_asg (de_if (dt_val (de_var 2)) (de_tup (da_cons (de_var 0) (da_cons (de_ix (de_var 1) de_int) da_nil))) (de_tup (da_cons (de_ix (de_var 1) de_int) (da_cons (de_var 0) da_nil)))) (show PG _ _ (tgG _ (.many [3, 4])) from pg_tup rfl (pgs_cons (pg_name (i := 3) sc__law_moved.nd rfl (by first | exact Or.inl rfl | exact Or.inr rfl)) (pgs_cons (pg_name (i := 4) sc__law_moved.nd rfl (by first | exact Or.inl rfl | exact Or.inr rfl)) pgs_nil)))) (dss_cons (ds_if ((dw_or (dt_cmp ci_is (de_var 3) de_non) (dw_or1 (dt_cmp ci_is (de_var 4) de_non)))).pt (dss_one (ds_ret (de_tup (da_cons (de_tup (da_cons (de_add (de_ix (de_var 0) de_int) (de_if (dt_val (de_var 2)) de_int (de_neg de_int))) (da_cons de_int da_nil))) (da_cons (de_tup (da_cons (de_var 3) (da_cons (de_var 4) da_nil))) da_nil))))) dss_nil) (dss_one (ds_ret (de_tup (da_cons (de_call G__law_frac (hr.mono (by omega)) (by rfl) (takes_of rfl rfl rfl rfl) (da_cons (de_add (de_mulA (de_ix (de_var 3) de_int) (de_ix (de_var 4) de_int)) (de_mulA (de_ix (de_var 4) de_int) (de_ix (de_var 3) de_int))) (da_cons (de_mulA (de_mulA de_int (de_ix (de_var 3) de_int)) (de_ix (de_var 4) de_int)) da_nil))) (da_cons (de_tup (da_cons (de_var 3) (da_cons (de_var 4) da_nil))) da_nil)))))))
theorem ok__law_number_by {P : Program} {w : World} {K : PySem.W.Frag} {mg : Str → Option Value} {base : Heap} {T : List (Addr × Str)} {f : Addr} {fd : FuncData} (fx : Fx K mg) (F : FunD K "_law_number_by" "_law_number_by" (defArgs (top 35)) (defBody (top 35)) (defScope (top 35)) [] [] f fd) (hx : mg "_law_number_by" = some (.ref f)) (G__law_moved : Dn P w K mg base T 2 "_law_moved" 3 F__law_moved) : Dn P w K mg base T 3 "_law_number_by" 1 F__law_number_by := by
  refine dn_ofD (k := 2) (N := ["word", "here", "nearest", "sign"]) (ps := ["word"]) (g := S__law_number_by) F hx (F.bindsN (ps := ["word"]) fun _ _ _ _ _ _ us hl => match us, hl with | [_], _ => rfl) sc__law_number_by fun cdv A outer s H E hr => ?_
  exact (dss_cons (ds_asg (de_tup (da_cons (de_tup (da_cons de_int (da_cons de_int da_nil))) (da_cons (de_tup (da_cons de_non (da_cons de_non da_nil))) da_nil))) (show PG _ _ (tgG _ (.many [1, 2])) from pg_tup rfl (pgs_cons (pg_name (i := 1) sc__law_number_by.nd rfl (by first | exact Or.inl rfl | exact Or.inr rfl)) (pgs_cons (pg_name (i := 2) sc__law_number_by.nd rfl (by first | exact Or.inl rfl | exact Or.inr rfl)) pgs_nil)))) (dss_cons (ds_for (passes_of rfl) rfl (di_str (de_var 0)) (pg_name (i := 3) sc__law_number_by.nd rfl (by first | exact Or.inl rfl | exact Or.inr rfl)) (dss_one (ds_asg (de_call G__law_moved (hr.mono (by omega)) (by rfl) (takes_of rfl rfl rfl rfl) (da_cons (de_var 1) (da_cons (de_var 2) (da_cons (de_cmp (ci_eq hr.units) (de_var 3) de_str) da_nil)))) (show PG _ _ (tgG _ (.many [1, 2])) from pg_tup rfl (pgs_cons (pg_name (i := 1) sc__law_number_by.nd rfl (by first | exact Or.inl rfl | exact Or.inr rfl)) (pgs_cons (pg_name (i := 2) sc__law_number_by.nd rfl (by first | exact Or.inl rfl | exact Or.inr rfl)) pgs_nil)))))) (dss_one (ds_ret (de_tup (da_cons (de_var 1) (da_cons (de_var 2) da_nil)))))))
theorem ok__law_power {P : Program} {w : World} {K : PySem.W.Frag} {mg : Str → Option Value} {base : Heap} {T : List (Addr × Str)} {f : Addr} {fd : FuncData} (fx : Fx K mg) (F : FunD K "_law_power" "_law_power" (defArgs (top 36)) (defBody (top 36)) (defScope (top 36)) [] [] f fd) (hx : mg "_law_power" = some (.ref f))  : Dn P w K mg base T 1 "_law_power" 1 F__law_power := by
  refine dn_ofD (k := 0) (N := ["often", "found", "turn"]) (ps := ["often"]) (g := S__law_power) F hx (F.bindsN (ps := ["often"]) fun _ _ _ _ _ _ us hl => match us, hl with | [_], _ => rfl) sc__law_power fun cdv A outer s H E hr => ?_
  exact (dss_cons (ds_set (i := 1) sc__law_power.nd de_int) (dss_cons (ds_for (passes_of rfl) rfl (di_rng1 (by rfl) fx.z_range (da_cons (de_var 0) da_nil)) (pg_name (i := 2) sc__law_power.nd rfl (by first | exact Or.inl rfl | exact Or.inr rfl)) (dss_one (ds_set (i := 1) sc__law_power.nd (de_mulA de_int (de_var 1))))) (dss_one (ds_ret (de_var 1)))))
theorem ok__law_word {P : Program} {w : World} {K : PySem.W.Frag} {mg : Str → Option Value} {base : Heap} {T : List (Addr × Str)} {f : Addr} {fd : FuncData} (fx : Fx K mg) (F : FunD K "_law_word" "_law_word" (defArgs (top 37)) (defBody (top 37)) (defScope (top 37)) [] [] f fd) (hx : mg "_law_word" = some (.ref f)) (G__law_draw : Dn P w K mg base T 1 "_law_draw" 2 F__law_draw) (G__law_any : Dn P w K mg base T 2 "_law_any" 2 F__law_any) : Dn P w K mg base T 3 "_law_word" 2 F__law_word := by
  refine dn_ofD (k := 2) (N := ["hand", "most", "kind", "size", "word", "turn"]) (ps := ["hand", "most"]) (g := S__law_word) F hx (F.bindsN (ps := ["hand", "most"]) fun _ _ _ _ _ _ us hl => match us, hl with | [_, _], _ => rfl) sc__law_word fun cdv A outer s H E hr => ?_
  exact (dss_cons (ds_par (i := 2) (j := 3) rfl sc__law_word.nd (da_cons (de_call G__law_draw (hr.mono (by omega)) (by rfl) (takes_of rfl rfl rfl rfl) (da_cons (de_var 0) (da_cons de_int da_nil))) (da_cons (de_call G__law_draw (hr.mono (by omega)) (by rfl) (takes_of rfl rfl rfl rfl) (da_cons (de_var 0) (da_cons (de_add (de_var 1) de_int) da_nil))) da_nil))) (dss_cons (ds_set (i := 4) sc__law_word.nd (de_join de_str (de_F (df_lc (own := [("turn", 5)]) rfl sc__law_word.nd (di_rng1 (by rfl) fx.z_range (da_cons (de_var 3) da_nil)) (blkOk_by (by show blkC ["hand", "most", "kind", "size", "word", "turn"] (defScope (top 37)) _ _ = true; decide +kernel)) (fun _ _ _ _ _ => (pg_name (i := 5) sc__law_word.nd rfl (by first | exact Or.inl rfl | exact Or.inr rfl))) (fun _ _ _ _ _ => dts_nil) (fun _ _ _ _ _ => (de_call G__law_any (hr.mono (by omega)) (by rfl) takes0 (da_cons (de_var 0) (da_cons de_str da_nil)))))))) (dss_cons (ds_if (dt_cmp (ci_eq hr.units) (de_var 2) de_int) (dss_one (ds_set (i := 4) sc__law_word.nd (de_add (de_slS (de_mulS2 (de_call G__law_any (hr.mono (by omega)) (by rfl) (takes_of rfl rfl rfl rfl) (da_cons (de_var 0) (da_cons de_str da_nil))) (de_var 1)) do_none (do_some (de_var 3))) (de_slS (de_var 4) do_none (do_some de_int))))) dss_nil) (dss_one (ds_ret (de_slS (de_var 4) do_none (do_some de_int)))))))
theorem ok__law_other {P : Program} {w : World} {K : PySem.W.Frag} {mg : Str → Option Value} {base : Heap} {T : List (Addr × Str)} {f : Addr} {fd : FuncData} (fx : Fx K mg) (F : FunD K "_law_other" "_law_other" (defArgs (top 38)) (defBody (top 38)) (defScope (top 38)) [] [] f fd) (hx : mg "_law_other" = some (.ref f))  : Dn P w K mg base T 1 "_law_other" 1 F__law_other := by
  refine dn_ofD (k := 0) (N := ["word", "sign"]) (ps := ["word"]) (g := S__law_other) F hx (F.bindsN (ps := ["word"]) fun _ _ _ _ _ _ us hl => match us, hl with | [_], _ => rfl) sc__law_other fun cdv A outer s H E hr => ?_
  exact (dss_one (ds_ret (de_join de_str (de_F (df_lc (own := [("sign", 1)]) rfl sc__law_other.nd (di_str (de_var 0)) (blkOk_by (by show blkC ["word", "sign"] (defScope (top 38)) _ _ = true; decide +kernel)) (fun _ _ _ _ _ => (pg_name (i := 1) sc__law_other.nd rfl (by first | exact Or.inl rfl | exact Or.inr rfl))) (fun _ _ _ _ _ => dts_nil) (fun _ _ _ _ _ => (de_if (dt_cmp (ci_eq hr.units) (de_var 1) de_str) de_str de_str)))))))
theorem ok__law_word_right {P : Program} {w : World} {K : PySem.W.Frag} {mg : Str → Option Value} {base : Heap} {T : List (Addr × Str)} {f : Addr} {fd : FuncData} (fx : Fx K mg) (F : FunD K "_law_word_right" "_law_word_right" (defArgs (top 39)) (defBody (top 39)) (defScope (top 39)) [] [] f fd) (hx : mg "_law_word_right" = some (.ref f)) (G_signs : Dn P w K mg base T 8 "signs" 1 F_signs) (G_number_by : Dn P w K mg base T 7 "number_by" 1 F_number_by) (G_born_on : Dn P w K mg base T 4 "born_on" 1 F_born_on) (G__law_is : Dn P w K mg base T 5 "_law_is" 2 F__law_is) (G__law_number_by : Dn P w K mg base T 3 "_law_number_by" 1 F__law_number_by) (G__law_other : Dn P w K mg base T 1 "_law_other" 1 F__law_other) : Dn P w K mg base T 9 "_law_word_right" 1 F__law_word_right := by
  refine dn_ofD (k := 8) (N := ["word", "number", "back"]) (ps := ["word"]) (g := S__law_word_right) F hx (F.bindsN (ps := ["word"]) fun _ _ _ _ _ _ us hl => match us, hl with | [_], _ => rfl) sc__law_word_right fun cdv A outer s H E hr => ?_
  exact (dss_cons (ds_set (i := 1) sc__law_word_right.nd (de_ix (de_call G__law_number_by (hr.mono (by omega)) (by rfl) (takes_of rfl rfl rfl rfl) (da_cons (de_var 0) da_nil)) de_int)) (dss_cons (ds_if (dt_not (dt_val (de_call G__law_is (hr.mono (by omega)) (by rfl) (takes_of rfl rfl rfl rfl) (da_cons (de_lst (da_cons (de_call G_number_by (hr.mono (by omega)) (by rfl) (takes_of rfl rfl rfl rfl) (da_cons (de_var 0) da_nil)) (da_cons (de_call G_signs (hr.mono (by omega)) (by rfl) (takes_of rfl rfl rfl rfl) (da_cons (de_var 1) da_nil)) (da_cons (de_call G_born_on (hr.mono (by omega)) (by rfl) (takes_of rfl rfl rfl rfl) (da_cons (de_var 1) da_nil)) da_nil)))) (da_cons (de_lst (da_cons (de_var 1) (da_cons (de_var 0) (da_cons (de_B bi_len (by rfl) fx.z_len bo_len (da_cons (de_var 0) da_nil)) da_nil)))) da_nil))))) (dss_one (ds_ret de_bl)) dss_nil) (dss_cons (ds_set (i := 2) sc__law_word_right.nd (de_tup (da_cons (de_sub de_int (de_ix (de_var 1) de_int)) (da_cons (de_ix (de_var 1) de_int) da_nil)))) (dss_one (ds_ret (de_call G__law_is (hr.mono (by omega)) (by rfl) (takes_of rfl rfl rfl rfl) (da_cons (de_lst (da_cons (de_call G_number_by (hr.mono (by omega)) (by rfl) (takes_of rfl rfl rfl rfl) (da_cons (de_call G__law_other (hr.mono (by omega)) (by rfl) (takes_of rfl rfl rfl rfl) (da_cons (de_var 0) da_nil)) da_nil)) (da_cons (de_call G_signs (hr.mono (by omega)) (by rfl) (takes_of rfl rfl rfl rfl) (da_cons (de_var 2) da_nil)) da_nil))) (da_cons (de_lst (da_cons (de_var 2) (da_cons (de_call G__law_other (hr.mono (by omega)) (by rfl) (takes_of rfl rfl rfl rfl) (da_cons (de_var 0) da_nil)) da_nil))) da_nil))))))))
theorem ok__law_two_right {P : Program} {w : World} {K : PySem.W.Frag} {mg : Str → Option Value} {base : Heap} {T : List (Addr × Str)} {f : Addr} {fd : FuncData} (fx : Fx K mg) (F : FunD K "_law_two_right" "_law_two_right" (defArgs (top 40)) (defBody (top 40)) (defScope (top 40)) [] [] f fd) (hx : mg "_law_two_right" = some (.ref f)) (G_number_by : Dn P w K mg base T 7 "number_by" 1 F_number_by) (G_product_of : Dn P w K mg base T 4 "product_of" 2 F_product_of) (G_middle_of : Dn P w K mg base T 4 "middle_of" 2 F_middle_of) (G_is_whole : Dn P w K mg base T 4 "is_whole" 1 F_is_whole) (G__law_is : Dn P w K mg base T 5 "_law_is" 2 F__law_is) (G__law_frac : Dn P w K mg base T 1 "_law_frac" 2 F__law_frac) (G__law_below : Dn P w K mg base T 1 "_law_below" 2 F__law_below) : Dn P w K mg base T 8 "_law_two_right" 2 F__law_two_right := by
  refine dn_ofD (k := 7) (N := ["one", "other", "first", "second", "key", "due", "at", "word"]) (ps := ["one", "other"]) (g := S__law_two_right) F hx (F.bindsN (ps := ["one", "other"]) fun _ _ _ _ _ _ us hl => match us, hl with | [_, _], _ => rfl) sc__law_two_right fun cdv A outer s H E hr => ?_
  exact (dss_cons (ds_par (i := 2) (j := 3) rfl sc__law_two_right.nd (da_cons (de_call G_number_by (hr.mono (by omega)) (by rfl) (takes_of rfl rfl rfl rfl) (da_cons (de_var 0) da_nil)) (da_cons (de_call G_number_by (hr.mono (by omega)) (by rfl) (takes_of rfl rfl rfl rfl) (da_cons (de_var 1) da_nil)) da_nil))) (dss_cons (ds_setLc (i := 4) (own := [("word", 7)]) rfl sc__law_two_right.nd (di_seq (de_tup (da_cons (de_var 0) (da_cons (de_var 1) da_nil)))) (blkOk_by (by show blkC ["one", "other", "first", "second", "key", "due", "at", "word"] (defScope (top 40)) _ _ = true; decide +kernel)) (fun _ _ _ _ _ => (pg_name (i := 7) sc__law_two_right.nd rfl (by first | exact Or.inl rfl | exact Or.inr rfl))) (fun _ _ _ _ _ => dts_nil) (fun _ _ _ _ _ => (de_F (df_lc (own := [("at", 6)]) rfl sc__law_two_right.nd (di_rng1 (by rfl) fx.z_range (da_cons de_int da_nil)) (blkOk_by (by rfl)) (fun _ _ _ _ _ => (pg_name (i := 6) sc__law_two_right.nd rfl (by first | exact Or.inl rfl | exact Or.inr rfl))) (fun _ _ _ _ _ => dts_nil) (fun _ _ _ _ _ => (de_dget (Nat.lt_of_le_of_lt (Nat.add_le_add_left (show 1 ≤ 64 by decide) _) hr.units) de_disp3 (de_slS (de_var 7) (do_some (de_var 6)) (do_some (de_add (de_var 6) de_int)))))))) hn_dat (sw_true rfl rfl rfl rfl)) (dss_cons (ds_if ((dw_or (dt_cmp (ci_ne hr.units) (de_cmp (ci_ltX hr.units) (de_ix (de_var 4) de_int) (de_ix (de_var 4) de_int)) (de_call G__law_below (hr.mono (by omega)) (by rfl) (takes_of rfl rfl rfl rfl) (da_cons (de_var 2) (da_cons (de_var 3) da_nil)))) (dw_or1 (dt_cmp (ci_ne hr.units) (de_cmp (ci_eq hr.units) (de_var 0) (de_var 1)) (de_cmp (ci_eq hr.units) (de_var 2) (de_var 3)))))).pt (dss_one (ds_ret de_bl)) dss_nil) (dss_cons (ds_setN (i := 5) sc__law_two_right.nd (dn_F (df_lst (da_cons (de_call G__law_frac (hr.mono (by omega)) (by rfl) (takes_of rfl rfl rfl rfl) (da_cons (de_mulA (de_ix (de_var 2) de_int) (de_ix (de_var 3) de_int)) (da_cons (de_mulA (de_ix (de_var 2) de_int) (de_ix (de_var 3) de_int)) da_nil))) da_nil)))) (dss_cons (ds_append (j := 5) (de_call G__law_frac (hr.mono (by omega)) (by rfl) (takes_of rfl rfl rfl rfl) (da_cons (de_add (de_mulA (de_ix (de_var 2) de_int) (de_ix (de_var 3) de_int)) (de_mulA (de_ix (de_var 3) de_int) (de_ix (de_var 2) de_int))) (da_cons (de_mulA (de_mulA de_int (de_ix (de_var 2) de_int)) (de_ix (de_var 3) de_int)) da_nil)))) (dss_cons (ds_if (dt_not (dt_val (de_call G__law_is (hr.mono (by omega)) (by rfl) (takes_of rfl rfl rfl rfl) (da_cons (de_lst (da_cons (de_call G_product_of (hr.mono (by omega)) (by rfl) (takes_of rfl rfl rfl rfl) (da_cons (de_var 2) (da_cons (de_var 3) da_nil))) (da_cons (de_call G_middle_of (hr.mono (by omega)) (by rfl) (takes_of rfl rfl rfl rfl) (da_cons (de_var 2) (da_cons (de_var 3) da_nil))) da_nil))) (da_cons (de_var 5) da_nil))))) (dss_one (ds_ret de_bl)) dss_nil) (dss_one (ds_ret (de_call G__law_is (hr.mono (by omega)) (by rfl) (takes_of rfl rfl rfl rfl) (da_cons (de_lst (da_cons (de_call G_is_whole (hr.mono (by omega)) (by rfl) (takes_of rfl rfl rfl rfl) (da_cons (de_var 2) da_nil)) (da_cons (de_call G_is_whole (hr.mono (by omega)) (by rfl) (takes_of rfl rfl rfl rfl) (da_cons (de_ix (de_var 5) de_int) da_nil)) da_nil))) (da_cons (de_lst (da_cons (de_cmp (ci_eq hr.units) (de_ix (de_var 2) de_int) de_int) (da_cons (de_cmp (ci_eq hr.units) (de_ix (de_ix (de_var 5) de_int) de_int) de_int) da_nil))) da_nil)))))))))))
theorem ok__law_days_right {P : Program} {w : World} {K : PySem.W.Frag} {mg : Str → Option Value} {base : Heap} {T : List (Addr × Str)} {f : Addr} {fd : FuncData} (fx : Fx K mg) (F : FunD K "_law_days_right" "_law_days_right" (defArgs (top 41)) (defBody (top 41)) (defScope (top 41)) [] [] f fd) (hx : mg "_law_days_right" = some (.ref f)) (G_born_on : Dn P w K mg base T 4 "born_on" 1 F_born_on) (G_numbers_by : Dn P w K mg base T 7 "numbers_by" 1 F_numbers_by) (G_middle_of : Dn P w K mg base T 4 "middle_of" 2 F_middle_of) (G__law_draw : Dn P w K mg base T 1 "_law_draw" 2 F__law_draw) (G__law_is : Dn P w K mg base T 5 "_law_is" 2 F__law_is) (G__law_frac : Dn P w K mg base T 1 "_law_frac" 2 F__law_frac) (G__law_number_by : Dn P w K mg base T 3 "_law_number_by" 1 F__law_number_by) (G__law_power : Dn P w K mg base T 1 "_law_power" 1 F__law_power) : Dn P w K mg base T 8 "_law_days_right" 1 F__law_days_right := by
  refine dn_ofD (k := 7) (N := ["hand", "day", "words", "row", "turn", "longer", "word", "some", "scale", "due", "told", "at", "top", "one"]) (ps := ["hand"]) (g := S__law_days_right) F hx (F.bindsN (ps := ["hand"]) fun _ _ _ _ _ _ us hl => match us, hl with | [_], _ => rfl) sc__law_days_right fun cdv A outer s H E hr => ?_
  exact (dss_cons (ds_par3 (i := 1) (j := 2) (l := 3) rfl sc__law_days_right.nd (da_cons (de_call G__law_draw (hr.mono (by omega)) (by rfl) (takes_of rfl rfl rfl rfl) (da_cons (de_var 0) (da_cons de_int da_nil))) (da_cons (de_lst (da_cons de_str da_nil)) (da_cons (de_lst (da_cons de_str da_nil)) da_nil)))) (dss_cons (ds_for (passes_of rfl) rfl (di_rng1 (by rfl) fx.z_range (da_cons (de_var 1) da_nil)) (pg_name (i := 4) sc__law_days_right.nd rfl (by first | exact Or.inl rfl | exact Or.inr rfl)) (dss_cons (ds_setN (i := 5) sc__law_days_right.nd (dn_F (df_lst da_nil))) (dss_cons (ds_for (passes_of rfl) rfl (di_seq (de_var 3)) (pg_name (i := 6) sc__law_days_right.nd rfl (by first | exact Or.inl rfl | exact Or.inr rfl)) (dss_one (ds_extend (j := 5) (de_lst (da_cons (de_add (de_var 6) de_str) (da_cons (de_add (de_var 6) de_str) da_nil)))))) (dss_cons (ds_frz (j := 5) (ds_set (i := 3) sc__law_days_right.nd (de_var 5))) (dss_one (ds_set (i := 2) sc__law_days_right.nd (de_add (de_var 2) (de_var 3)))))))) (dss_cons (ds_setLc (i := 7) (own := [("word", 6)]) rfl sc__law_days_right.nd (di_seq (de_var 2)) (blkOk_by (by show blkC ["hand", "day", "words", "row", "turn", "longer", "word", "some", "scale", "due", "told", "at", "top", "one"] (defScope (top 41)) _ _ = true; decide +kernel)) (fun _ _ _ _ _ => (pg_name (i := 6) sc__law_days_right.nd rfl (by first | exact Or.inl rfl | exact Or.inr rfl))) (fun _ _ _ _ _ => dts_nil) (fun _ _ _ _ _ => (de_ix (de_call G__law_number_by (hr.mono (by omega)) (by rfl) takes0 (da_cons (de_var 6) da_nil)) de_int)) hn_dat (sw_true rfl rfl rfl rfl)) (dss_cons (ds_set (i := 8) sc__law_days_right.nd (de_call G__law_power (hr.mono (by omega)) (by rfl) (takes_of rfl rfl rfl rfl) (da_cons de_int da_nil))) (dss_cons (ds_set (i := 9) sc__law_days_right.nd (de_BT bi_tup (by rfl) fx.z_tuple bo_tuple (da_cons (de_F (df_lc (own := [("top", 12)]) rfl sc__law_days_right.nd (di_seq (de_B bi_sorted (by rfl) fx.z_sorted bo_sorted (da_cons (de_F (df_lc (own := [("one", 13)]) rfl sc__law_days_right.nd (di_seq (de_var 7)) (blkOk_by (by show blkC ["hand", "day", "words", "row", "turn", "longer", "word", "some", "scale", "due", "told", "at", "top", "one"] (defScope (top 41)) _ _ = true; decide +kernel)) (fun _ _ _ _ _ => (pg_name (i := 13) sc__law_days_right.nd rfl (by first | exact Or.inl rfl | exact Or.inr rfl))) (fun _ _ _ _ _ => dts_nil) (fun _ _ _ _ _ => (de_mulA (de_ix (de_var 13) de_int) (de_div (de_var 8) (de_ix (de_var 13) de_int)))))) da_nil))) (blkOk_by (by show blkC ["hand", "day", "words", "row", "turn", "longer", "word", "some", "scale", "due", "told", "at", "top", "one"] (defScope (top 41)) _ _ = true; decide +kernel)) (fun _ _ _ _ _ => (pg_name (i := 12) sc__law_days_right.nd rfl (by first | exact Or.inl rfl | exact Or.inr rfl))) (fun _ _ _ _ _ => dts_nil) (fun _ _ _ _ _ => (de_call G__law_frac (hr.mono (by omega)) (by rfl) takes0 (da_cons (de_var 12) (da_cons (de_var 8) da_nil)))))) da_nil))) (dss_cons (ds_set (i := 10) sc__law_days_right.nd (de_call G_numbers_by (hr.mono (by omega)) (by rfl) (takes_of rfl rfl rfl rfl) (da_cons (de_var 1) da_nil))) (dss_cons (ds_if ((dw_or (dt_not (dt_val (de_call G__law_is (hr.mono (by omega)) (by rfl) (takes_of rfl rfl rfl rfl) (da_cons (de_var 10) (da_cons (de_var 9) da_nil))))) (dw_or1 (dt_cmp (ci_ne hr.units) (de_B bi_len (by rfl) fx.z_len bo_len (da_cons (de_var 10) da_nil)) (de_sub (de_call G__law_power (hr.mono (by omega)) (by rfl) (takes_of rfl rfl rfl rfl) (da_cons (de_add (de_var 1) de_int) da_nil)) de_int))))).pt (dss_one (ds_ret de_bl)) dss_nil) (dss_cons (ds_set (i := 11) sc__law_days_right.nd (de_call G__law_draw (hr.mono (by omega)) (by rfl) (takes_of rfl rfl rfl rfl) (da_cons (de_var 0) (da_cons (de_B (bi_max rfl) (by rfl) fx.z_max bo_max (da_cons de_int (da_cons (de_sub (de_B bi_len (by rfl) fx.z_len bo_len (da_cons (de_var 10) da_nil)) de_int) da_nil))) da_nil)))) (dss_one (ds_ret (de_or (de_cmp (ci_lt hr.units) (de_B bi_len (by rfl) fx.z_len bo_len (da_cons (de_var 10) da_nil)) de_int) (de_one (de_cmp (ci_eq hr.units) (de_call G_born_on (hr.mono (by omega)) (by rfl) (takes_of rfl rfl rfl rfl) (da_cons (de_call G_middle_of (hr.mono (by omega)) (by rfl) (takes_of rfl rfl rfl rfl) (da_cons (de_ix (de_var 10) (de_var 11)) (da_cons (de_ix (de_var 10) (de_add (de_var 11) de_int)) da_nil))) da_nil)) (de_add (de_var 1) de_int))))))))))))))
theorem ok__law_refused {P : Program} {w : World} {K : PySem.W.Frag} {mg : Str → Option Value} {base : Heap} {f c Pt : Addr} {fd : FuncData} (fx : Fx K mg) (rz : Rz K mg) (F : FunD K "_law_refused" "_law_refused" (defArgs (top 43)) (defBody (top 43)) (defScope (top 43)) [] [] f fd) (hx : mg "_law_refused" = some (.ref f)) (hc : fd.code = .ref c) (TB : LamX.TabB base mg c Pt) (G_signs : Dn P w K mg base [(Pt, lamq)] 8 "signs" 1 F_signs) (G_number_by : Dn P w K mg base [(Pt, lamq)] 7 "number_by" 1 F_number_by) (G_product_of : Dn P w K mg base [(Pt, lamq)] 4 "product_of" 2 F_product_of) (G_born_on : Dn P w K mg base [(Pt, lamq)] 4 "born_on" 1 F_born_on) (G_numbers_by : Dn P w K mg base [(Pt, lamq)] 7 "numbers_by" 1 F_numbers_by) (G_middle_of : Dn P w K mg base [(Pt, lamq)] 4 "middle_of" 2 F_middle_of) (G_is_whole : Dn P w K mg base [(Pt, lamq)] 4 "is_whole" 1 F_is_whole) (G__law_any : Dn P w K mg base [(Pt, lamq)] 2 "_law_any" 2 F__law_any) (G__law_power : Dn P w K mg base [(Pt, lamq)] 1 "_law_power" 1 F__law_power) : Dn P w K mg base [(Pt, lamq)] 15 "_law_refused" 1 F__law_refused := by
  obtain ⟨g, gd, CS, CB, Fr, r1, r2, r3, r4, r5⟩ := rz.ex
  refine dn_code (k := 14) (N := ["hand", "bad", "odd", "day", "far", "words"]) (ps := ["hand"]) (g := S__law_refused) F hc hx (F.bindsN (ps := ["hand"]) fun _ _ _ _ _ _ us hl => match us, hl with | [_], _ => rfl) sc__law_refused fun A outer s H E hr => ?_
  exact (dss_cons (ds_set (i := 1) sc__law_refused.nd (de_lst (da_cons de_non (da_cons de_int (da_cons (de_tup (da_cons de_int (da_cons de_int da_nil))) (da_cons (de_tup (da_cons de_int (da_cons de_int da_nil))) (da_cons (de_tup (da_cons de_int (da_cons de_int da_nil))) (da_cons (de_tup (da_cons de_int (da_cons (de_neg de_int) da_nil))) (da_cons (de_lst (da_cons de_int (da_cons de_int da_nil))) (da_cons (de_tup (da_cons de_int da_nil)) (da_cons de_str (da_cons (de_tup (da_cons de_bl (da_cons de_int da_nil))) (da_cons (de_tup (da_cons de_int (da_cons de_bl da_nil))) (da_cons (de_tup (da_cons de_int (da_cons de_int da_nil))) (da_cons (de_tup (da_cons (de_tup (da_cons de_int da_nil)) (da_cons de_int da_nil))) da_nil))))))))))))))) (dss_cons (ds_set (i := 1) sc__law_refused.nd (de_call G__law_any (hr.mono (by omega)) (by rfl) (takes_of rfl rfl rfl rfl) (da_cons (de_var 0) (da_cons (de_var 1) da_nil)))) (dss_cons (ds_set (i := 2) sc__law_refused.nd (de_call G__law_any (hr.mono (by omega)) (by rfl) (takes_of rfl rfl rfl rfl) (da_cons (de_var 0) (da_cons (de_lst (da_cons de_non (da_cons de_int (da_cons de_str (da_cons de_str (da_cons (de_tup (da_cons de_str da_nil)) (da_cons (de_lst (da_cons de_str da_nil)) (da_cons (de_mulS2 de_str de_int) (da_cons de_str da_nil))))))))) da_nil)))) (dss_cons (ds_set (i := 3) sc__law_refused.nd (de_call G__law_any (hr.mono (by omega)) (by rfl) (takes_of rfl rfl rfl rfl) (da_cons (de_var 0) (da_cons (de_lst (da_cons de_int (da_cons (de_neg de_int) (da_cons de_non (da_cons de_bl (da_cons de_str (da_cons (de_pow de_int de_int) da_nil))))))) da_nil)))) (dss_cons (ds_set (i := 4) sc__law_refused.nd (de_call G__law_any (hr.mono (by omega)) (by rfl) (takes_of rfl rfl rfl rfl) (da_cons (de_var 0) (da_cons (de_lst (da_cons (de_tup (da_cons de_int (da_cons de_int da_nil))) (da_cons (de_tup (da_cons (de_neg de_int) (da_cons de_int da_nil))) (da_cons (de_tup (da_cons de_int (da_cons (de_call G__law_power (hr.mono (by omega)) (by rfl) (takes_of rfl rfl rfl rfl) (da_cons de_int da_nil)) da_nil))) (da_cons (de_tup (da_cons (de_pow de_int de_int) (da_cons de_int da_nil))) da_nil))))) da_nil)))) (dss_cons (ds_setN (i := 5) sc__law_refused.nd (dn_F (df_lst (da_cons (de_raised (pe := "PlayError") (bn := "BadNumber") (tb := tbl) (k := 12) Fr r1 r2 rfl sc__law_raised rfl r3 rfl fx.z_isinstance rfl r4 rfl rfl r5 TB rfl rfl hr (by rfl) (fun A outer s H E f c' hr => (de_call G_signs (hr.mono (by omega)) (by rfl) (takes_of rfl rfl rfl rfl) (da_cons (de_var 1) da_nil))) (LamX.lamS_by (by show LamX.lamSB (defScope (top 43)) _ = true; decide +kernel))) da_nil)))) (dss_cons (ds_append (j := 5) (de_raised (pe := "PlayError") (bn := "BadNumber") (tb := tbl) (k := 12) Fr r1 r2 rfl sc__law_raised rfl r3 rfl fx.z_isinstance rfl r4 rfl rfl r5 TB rfl rfl hr (by rfl) (fun A outer s H E f c' hr => (de_call G_born_on (hr.mono (by omega)) (by rfl) (takes_of rfl rfl rfl rfl) (da_cons (de_var 1) da_nil))) (LamX.lamS_by (by show LamX.lamSB (defScope (top 43)) _ = true; decide +kernel)))) (dss_cons (ds_append (j := 5) (de_raised (pe := "PlayError") (bn := "BadNumber") (tb := tbl) (k := 12) Fr r1 r2 rfl sc__law_raised rfl r3 rfl fx.z_isinstance rfl r4 rfl rfl r5 TB rfl rfl hr (by rfl) (fun A outer s H E f c' hr => (de_call G_product_of (hr.mono (by omega)) (by rfl) (takes_of rfl rfl rfl rfl) (da_cons (de_var 1) (da_cons (de_tup (da_cons de_int (da_cons de_int da_nil))) da_nil)))) (LamX.lamS_by (by show LamX.lamSB (defScope (top 43)) _ = true; decide +kernel)))) (dss_cons (ds_append (j := 5) (de_raised (pe := "PlayError") (bn := "BadNumber") (tb := tbl) (k := 12) Fr r1 r2 rfl sc__law_raised rfl r3 rfl fx.z_isinstance rfl r4 rfl rfl r5 TB rfl rfl hr (by rfl) (fun A outer s H E f c' hr => (de_call G_product_of (hr.mono (by omega)) (by rfl) (takes_of rfl rfl rfl rfl) (da_cons (de_tup (da_cons de_int (da_cons de_int da_nil))) (da_cons (de_var 1) da_nil)))) (LamX.lamS_by (by show LamX.lamSB (defScope (top 43)) _ = true; decide +kernel)))) (dss_cons (ds_append (j := 5) (de_raised (pe := "PlayError") (bn := "BadNumber") (tb := tbl) (k := 12) Fr r1 r2 rfl sc__law_raised rfl r3 rfl fx.z_isinstance rfl r4 rfl rfl r5 TB rfl rfl hr (by rfl) (fun A outer s H E f c' hr => (de_call G_middle_of (hr.mono (by omega)) (by rfl) (takes_of rfl rfl rfl rfl) (da_cons (de_var 1) (da_cons (de_tup (da_cons de_int (da_cons de_int da_nil))) da_nil)))) (LamX.lamS_by (by show LamX.lamSB (defScope (top 43)) _ = true; decide +kernel)))) (dss_cons (ds_append (j := 5) (de_raised (pe := "PlayError") (bn := "BadNumber") (tb := tbl) (k := 12) Fr r1 r2 rfl sc__law_raised rfl r3 rfl fx.z_isinstance rfl r4 rfl rfl r5 TB rfl rfl hr (by rfl) (fun A outer s H E f c' hr => (de_call G_middle_of (hr.mono (by omega)) (by rfl) (takes_of rfl rfl rfl rfl) (da_cons (de_tup (da_cons de_int (da_cons de_int da_nil))) (da_cons (de_var 1) da_nil)))) (LamX.lamS_by (by show LamX.lamSB (defScope (top 43)) _ = true; decide +kernel)))) (dss_cons (ds_append (j := 5) (de_raised (pe := "PlayError") (bn := "BadNumber") (tb := tbl) (k := 12) Fr r1 r2 rfl sc__law_raised rfl r3 rfl fx.z_isinstance rfl r4 rfl rfl r5 TB rfl rfl hr (by rfl) (fun A outer s H E f c' hr => (de_call G_is_whole (hr.mono (by omega)) (by rfl) (takes_of rfl rfl rfl rfl) (da_cons (de_var 1) da_nil))) (LamX.lamS_by (by show LamX.lamSB (defScope (top 43)) _ = true; decide +kernel)))) (dss_cons (ds_append (j := 5) (de_raised (pe := "PlayError") (bn := "BadNumber") (tb := tbl) (k := 12) Fr r1 r2 rfl sc__law_raised rfl r3 rfl fx.z_isinstance rfl r4 rfl rfl r5 TB rfl rfl hr (by rfl) (fun A outer s H E f c' hr => (de_call G_number_by (hr.mono (by omega)) (by rfl) (takes_of rfl rfl rfl rfl) (da_cons (de_var 2) da_nil))) (LamX.lamS_by (by show LamX.lamSB (defScope (top 43)) _ = true; decide +kernel)))) (dss_cons (ds_append (j := 5) (de_raised (pe := "PlayError") (bn := "BadNumber") (tb := tbl) (k := 12) Fr r1 r2 rfl sc__law_raised rfl r3 rfl fx.z_isinstance rfl r4 rfl rfl r5 TB rfl rfl hr (by rfl) (fun A outer s H E f c' hr => (de_call G_numbers_by (hr.mono (by omega)) (by rfl) (takes_of rfl rfl rfl rfl) (da_cons (de_var 3) da_nil))) (LamX.lamS_by (by show LamX.lamSB (defScope (top 43)) _ = true; decide +kernel)))) (dss_cons (ds_append (j := 5) (de_raised (pe := "PlayError") (bn := "BadNumber") (tb := tbl) (k := 12) Fr r1 r2 rfl sc__law_raised rfl r3 rfl fx.z_isinstance rfl r4 rfl rfl r5 TB rfl rfl hr (by rfl) (fun A outer s H E f c' hr => (de_call G_signs (hr.mono (by omega)) (by rfl) (takes_of rfl rfl rfl rfl) (da_cons (de_var 4) da_nil))) (LamX.lamS_by (by show LamX.lamSB (defScope (top 43)) _ = true; decide +kernel)))) (dss_cons (ds_append (j := 5) (de_raised (pe := "PlayError") (bn := "BadNumber") (tb := tbl) (k := 12) Fr r1 r2 rfl sc__law_raised rfl r3 rfl fx.z_isinstance rfl r4 rfl rfl r5 TB rfl rfl hr (by rfl) (fun A outer s H E f c' hr => (de_call G_born_on (hr.mono (by omega)) (by rfl) (takes_of rfl rfl rfl rfl) (da_cons (de_tup (da_cons de_int (da_cons (de_call G__law_power (hr.mono (by omega)) (by rfl) (takes_of rfl rfl rfl rfl) (da_cons de_int da_nil)) da_nil))) da_nil))) (LamX.lamS_by (by show LamX.lamSB (defScope (top 43)) _ = true; decide +kernel)))) (dss_one (ds_ret (de_cmp (ci_eq hr.units) (de_var 5) (de_mulS2 (de_lst (da_cons de_bl da_nil)) de_int))))))))))))))))))))
end K08

set_option Elab.async false
set_option linter.all false
set_option maxRecDepth 100000
set_option maxHeartbeats 4000000
/-! law 08: the law's own def. -/
namespace K08
open PySem PySem.Spec PyProof.Rows L2 DL
theorem ok_law {P : Program} {w : World} {K : PySem.W.Frag} {mg : Str → Option Value} {base : Heap} {f Pt : Addr} {fd : FuncData} (fx : Fx K mg) (F : FunD K "law" "law" (defArgs (top 44)) (defBody (top 44)) (defScope (top 44)) [] [] f fd) (G_signs : Dn P w K mg base [(Pt, lamq)] 8 "signs" 1 F_signs) (G_number_by : Dn P w K mg base [(Pt, lamq)] 7 "number_by" 1 F_number_by) (G_born_on : Dn P w K mg base [(Pt, lamq)] 4 "born_on" 1 F_born_on) (G__law_hand : Dn P w K mg base [(Pt, lamq)] 1 "_law_hand" 1 F__law_hand) (G__law_draw : Dn P w K mg base [(Pt, lamq)] 1 "_law_draw" 2 F__law_draw) (G__law_is : Dn P w K mg base [(Pt, lamq)] 5 "_law_is" 2 F__law_is) (G__law_power : Dn P w K mg base [(Pt, lamq)] 1 "_law_power" 1 F__law_power) (G__law_word : Dn P w K mg base [(Pt, lamq)] 3 "_law_word" 2 F__law_word) (G__law_word_right : Dn P w K mg base [(Pt, lamq)] 9 "_law_word_right" 1 F__law_word_right) (G__law_two_right : Dn P w K mg base [(Pt, lamq)] 8 "_law_two_right" 2 F__law_two_right) (G__law_days_right : Dn P w K mg base [(Pt, lamq)] 8 "_law_days_right" 1 F__law_days_right) (G__law_refused : Dn P w K mg base [(Pt, lamq)] 15 "_law_refused" 1 F__law_refused)
    (plain : ∀ ns : List Int, ns.length ≤ 63 → (∀ z ∈ ns, Builtin.Int.intBits z ≤ 1048576) → ∃ (cells : List Int) (k : Int), (∀ d, (d = .sc ns ∨ d = .lst (ns.map D.int)) → S_law1 (some (.d d) :: List.replicate 9 none) [] = .ok (.d (.lst [.lst (cells.map D.int), .int 0, .int 0, .int k, .int 0])) []) ∧
      ∃ M', S_law (none :: some (.d (.ob 0)) :: List.replicate 8 none) [.lst [.ob 1, .int 0, .int 0, .int k, .int 0], .lst (cells.map D.int)] = .rt (.bl true) M') :
    FnOk P w K mg base (L2.CX P w) 16 f fd ["script"] (spLaw K Pt) := by
  refine F.ok (k := 15) (N := ["script", "hand", "most", "one", "other", "whole", "deep", "found", "small", "far"]) sc_law (fun vs H Q E h => ?_) fun cdv A outer s H vs Q E hr h => ?_
  · obtain ⟨a, ns, rfl, _⟩ := h
    rfl
  · obtain ⟨a, ns, rfl, hS, hl, hz, hP, hQ⟩ := h
    obtain ⟨cells, k, p1, p2⟩ := plain ns hl hz
    refine ⟨tSeq (tAsg (tE ⟨K, mg, [(Pt, lamq)], wE E⟩ S_law1) (gName 1)) (tS ⟨K, mg, [(Pt, lamq)], wE E⟩ S_law), ?_, law_run (C := ⟨K, mg, [(Pt, lamq)], wE E⟩) (n := 8) rfl hP hS p1 p2 hQ⟩
    exact (pss_cons (ps_set (i := 1) sc_law.nd rfl (by first | exact Or.inl rfl | exact Or.inr rfl) (de_call G__law_hand (hr.mono (by omega)) (by rfl) (takes_of rfl rfl rfl rfl) (da_cons (de_var 0) da_nil))) (dss_cons (ds_for (passes_of rfl) rfl (di_seq (de_tup (da_cons de_int (da_cons de_int (da_cons de_int da_nil))))) (pg_name (i := 2) sc_law.nd rfl (by first | exact Or.inl rfl | exact Or.inr rfl)) (dss_cons (ds_par (i := 3) (j := 4) rfl sc_law.nd (da_cons (de_call G__law_word (hr.mono (by omega)) (by rfl) (takes_of rfl rfl rfl rfl) (da_cons (de_var 1) (da_cons (de_var 2) da_nil))) (da_cons (de_call G__law_word (hr.mono (by omega)) (by rfl) (takes_of rfl rfl rfl rfl) (da_cons (de_var 1) (da_cons (de_var 2) da_nil))) da_nil))) (dss_cons (ds_if ((dw_or (dt_not (dt_val (de_call G__law_word_right (hr.mono (by omega)) (by rfl) (takes_of rfl rfl rfl rfl) (da_cons (de_var 3) da_nil)))) (dw_or (dt_not (dt_val (de_call G__law_word_right (hr.mono (by omega)) (by rfl) (takes_of rfl rfl rfl rfl) (da_cons (de_var 4) da_nil)))) (dw_or1 (dt_not (dt_val (de_call G__law_two_right (hr.mono (by omega)) (by rfl) (takes_of rfl rfl rfl rfl) (da_cons (de_var 3) (da_cons (de_var 4) da_nil))))))))).pt (dss_one (ds_ret de_bl)) dss_nil) (dss_one (ds_if (dt_not (dt_val (de_call G__law_two_right (hr.mono (by omega)) (by rfl) (takes_of rfl rfl rfl rfl) (da_cons (de_var 3) (da_cons (de_slS (de_var 3) do_none (do_some (de_call G__law_draw (hr.mono (by omega)) (by rfl) (takes_of rfl rfl rfl rfl) (da_cons (de_var 1) (da_cons (de_add (de_B bi_len (by rfl) fx.z_len bo_len (da_cons (de_var 3) da_nil)) de_int) da_nil))))) da_nil))))) (dss_one (ds_ret de_bl)) dss_nil))))) (dss_cons (ds_par (i := 5) (j := 6) rfl sc_law.nd (da_cons (de_call G__law_draw (hr.mono (by omega)) (by rfl) (takes_of rfl rfl rfl rfl) (da_cons (de_var 1) (da_cons de_int da_nil))) (da_cons (de_add de_int (de_call G__law_draw (hr.mono (by omega)) (by rfl) (takes_of rfl rfl rfl rfl) (da_cons (de_var 1) (da_cons de_int da_nil)))) da_nil))) (dss_cons (ds_set (i := 7) sc_law.nd (de_lst (da_cons (de_call G_signs (hr.mono (by omega)) (by rfl) (takes_of rfl rfl rfl rfl) (da_cons (de_tup (da_cons (de_var 5) (da_cons de_int da_nil))) da_nil)) (da_cons (de_call G_signs (hr.mono (by omega)) (by rfl) (takes_of rfl rfl rfl rfl) (da_cons (de_tup (da_cons (de_sub de_int (de_var 5)) (da_cons de_int da_nil))) da_nil)) (da_cons (de_call G_number_by (hr.mono (by omega)) (by rfl) (takes_of rfl rfl rfl rfl) (da_cons (de_mulS2 de_str (de_var 5)) da_nil)) da_nil))))) (dss_cons (ds_if (dt_not (dt_val (de_call G__law_is (hr.mono (by omega)) (by rfl) (takes_of rfl rfl rfl rfl) (da_cons (de_var 7) (da_cons (de_lst (da_cons (de_mulS2 de_str (de_var 5)) (da_cons (de_mulS2 de_str (de_var 5)) (da_cons (de_tup (da_cons (de_var 5) (da_cons de_int da_nil))) da_nil)))) da_nil))))) (dss_one (ds_ret de_bl)) dss_nil) (dss_cons (ds_set (i := 8) sc_law.nd (de_tup (da_cons de_int (da_cons (de_call G__law_power (hr.mono (by omega)) (by rfl) (takes_of rfl rfl rfl rfl) (da_cons (de_sub (de_var 6) de_int) da_nil)) da_nil)))) (dss_cons (ds_if (dt_not (dt_val (de_call G__law_is (hr.mono (by omega)) (by rfl) (takes_of rfl rfl rfl rfl) (da_cons (de_lst (da_cons (de_call G_signs (hr.mono (by omega)) (by rfl) (takes_of rfl rfl rfl rfl) (da_cons (de_var 8) da_nil)) (da_cons (de_call G_born_on (hr.mono (by omega)) (by rfl) (takes_of rfl rfl rfl rfl) (da_cons (de_var 8) da_nil)) da_nil))) (da_cons (de_lst (da_cons (de_add de_str (de_mulS2 de_str (de_sub (de_var 6) de_int))) (da_cons (de_var 6) da_nil))) da_nil))))) (dss_one (ds_ret de_bl)) dss_nil) (dss_cons (ds_set (i := 9) sc_law.nd (de_add (de_pow de_int de_int) (de_call G__law_draw (hr.mono (by omega)) (by rfl) (takes_of rfl rfl rfl rfl) (da_cons (de_var 1) (da_cons (de_pow de_int de_int) da_nil))))) (dss_cons (ds_if (dt_not (dt_val (de_call G__law_is (hr.mono (by omega)) (by rfl) (takes_of rfl rfl rfl rfl) (da_cons (de_lst (da_cons (de_call G_born_on (hr.mono (by omega)) (by rfl) (takes_of rfl rfl rfl rfl) (da_cons (de_tup (da_cons (de_var 9) (da_cons de_int da_nil))) da_nil)) (da_cons (de_call G_born_on (hr.mono (by omega)) (by rfl) (takes_of rfl rfl rfl rfl) (da_cons (de_tup (da_cons (de_sub de_int (de_var 9)) (da_cons de_int da_nil))) da_nil)) (da_cons (de_call G_born_on (hr.mono (by omega)) (by rfl) (takes_of rfl rfl rfl rfl) (da_cons (de_tup (da_cons (de_add (de_mulS2 de_int (de_var 9)) de_int) (da_cons de_int da_nil))) da_nil)) da_nil)))) (da_cons (de_lst (da_cons (de_var 9) (da_cons (de_var 9) (da_cons (de_add (de_var 9) de_int) da_nil)))) da_nil))))) (dss_one (ds_ret de_bl)) dss_nil) (dss_one (ds_ret (de_and (de_call G__law_days_right (hr.mono (by omega)) (by rfl) (takes_of rfl rfl rfl rfl) (da_cons (de_var 1) da_nil)) (de_one (de_call G__law_refused (hr.mono (by omega)) (by rfl) (takes_of rfl rfl rfl rfl) (da_cons (de_var 1) da_nil)))))))))))))))
end K08

set_option Elab.async false
set_option linter.all false
set_option maxRecDepth 100000
set_option maxHeartbeats 4000000
/-! law k08, plainly: fractions. -/
namespace K08
open PySem PySem.Spec PyProof.Rows L2 DL
open NB (Bn Dq)
@[reducible] def prI (a b : Int) : D := .tup [.int a, .int b]
def pr (q : Rat) : D := prI q.num (q.den : Int)
def po : Option Rat → D
  | none => .non
  | some q => pr q
theorem cmB {n m : Nat} {i j : Int} (h1 : Bn n i) (h2 : Bn m j) (h : n + m ≤ 134217728) : cMul i j := by
  have a := PyProof.Rows.intBits_le h1
  have b := PyProof.Rows.intBits_le h2
  unfold cMul; omega
theorem cdB {n : Nat} {i j : Int} (h0 : 0 < j) (h1 : Bn n j) (h : n ≤ 9000) : cDiv i j := by
  refine ⟨h0, ?_⟩
  have := (Nat.log2_lt (show j.natAbs ≠ 0 by omega)).mpr h1
  omega
theorem Bn.mono {n m : Nat} {i : Int} (h : Bn n i) (k : n ≤ m) : Bn m i := by
  have := Nat.pow_le_pow_right (n := 2) (by omega) k
  unfold Bn at *; omega
theorem Bn.mul {n m : Nat} {i j : Int} (h : Bn n i) (k : Bn m j) : Bn (n + m) (i * j) := by
  unfold Bn at *
  rw [Int.natAbs_mul, Nat.pow_add]
  exact Nat.mul_lt_mul'' h k
theorem Bn.add {n : Nat} {i j : Int} (h : Bn n i) (k : Bn n j) : Bn (n + 1) (i + j) := by
  unfold Bn at *
  rw [Nat.pow_succ]; omega
theorem Bn.neg {n : Nat} {i : Int} (h : Bn n i) : Bn n (-i) := by unfold Bn at *; omega
theorem bn_T {m n : Nat} (h : m < n) : Bn n ((2 ^ m : Nat) : Int) := by
  unfold Bn; rw [Int.natAbs_natCast]; exact Nat.pow_lt_pow_right (by omega) h
theorem bn_den {q : Rat} (h : Dq q) : Bn 401 (q.den : Int) := by
  obtain ⟨⟨m, h1, h2⟩, _⟩ := h
  rw [h2]; exact bn_T (by omega)
theorem less_ok {a b c d : Int} {M : Mem} (h1 : cMul a d) (h2 : cMul c b) : F_less [.d (prI a b), .d (prI c d)] M = .ok (.bl (decide (a * d < c * b))) M := by
  unfold F_less; rw [fnOf_eq]
  simp [fnEnd, S_less, T1_less, sRet, sE, eBin, eVar, look, eC, bnd, opIx, seqOf, at_0, at_1, opMulA, opMul, h1, h2, opLt, retD]
theorem below_ok {a b c d : Int} {M : Mem} (h1 : cMul a d) (h2 : cMul c b) : F__law_below [.d (prI a b), .d (prI c d)] M = .ok (.bl (decide (a * d < c * b))) M := by
  unfold F__law_below; rw [fnOf_eq]
  simp [fnEnd, S__law_below, T1__law_below, sRet, sE, eBin, eVar, look, eC, bnd, opIx, seqOf, at_0, at_1, opMulA, opMul, h1, h2, opLt, retD]
theorem cm2 {a b : Rat} (ha : Dq a) (hb : Dq b) : cMul a.num (b.den : Int) := cmB ha.2 (bn_den hb) (by omega)
theorem lessQ {a b : Rat} {M : Mem} (ha : Dq a) (hb : Dq b) : F_less [.d (pr a), .d (pr b)] M = .ok (.bl (decide (a < b))) M := by
  unfold pr
  rw [less_ok (cm2 ha hb) (cm2 hb ha)]
  simp only [Rat.lt_iff]
theorem belowQ {a b : Rat} {M : Mem} (ha : Dq a) (hb : Dq b) : F__law_below [.d (pr a), .d (pr b)] M = .ok (.bl (decide (a < b))) M := by
  unfold pr
  rw [below_ok (cm2 ha hb) (cm2 hb ha)]
  simp only [Rat.lt_iff]
theorem common_ok {a b : Int} {M : Mem} (h : b.natAbs < 10000000000000000000000000000000000000000000000000000000000000000000000000000000000000000000000000000000000000000000000000000000000000000000000000000000000000000000000000000000000000000000000000000000000000000000000000000000000000000000000000000000000000000000000000000000000000000000000000000000000000000000000000000000000000000000000000000000000000000000000000000000000000000000000000000000000000000) : F_common [.d (.int a), .d (.int b)] M = .ok (.int (Int.gcd a b : Int)) M := by
  unfold F_common; rw [fnOf_eq]
  have e1 : T1_common [some (.d (.int a)), some (.d (.int b))] M = .nx [some (.d (.int (a.natAbs : Int))), some (.d (.int (b.natAbs : Int)))] M := by
    have ea : (if a < 0 then -a else a) = (a.natAbs : Int) := by split <;> omega
    have eb : (if b < 0 then -b else b) = (b.natAbs : Int) := by split <;> omega
    simp [T1_common, sPar, sE, aCons, aNil, eB, eVar, look, bnd, bAbs, stors, stor, setEvs, ea, eb]
  obtain ⟨ρ', M', e2, x, e3, e4, e5⟩ := sWhile_inv (tc := tCmpE opGt (eVar 1) (eC (.int 0))) (f := B2_common)
    (fun m ρ M' => ∃ x y : Nat, ρ = [some (.d (.int x)), some (.d (.int y))] ∧ M' = M ∧ Nat.gcd x y = Int.gcd a b ∧ m = y) (fun ρ M' => ∃ x : Nat, ρ = [some (.d (.int x)), some (.d (.int 0))] ∧ M' = M ∧ x = Int.gcd a b)
    (fun m ρ M' ⟨x, y, h1, h2, h3, h4⟩ => by
      subst h1 h2 h4
      by_cases h0 : m = 0
      · subst h0
        refine .inl ⟨M', ?_, x, rfl, rfl, by simpa using h3⟩
        simp [tCmpE, asB, eBin, eVar, look, eC, bnd, opI2]
      · refine .inr ⟨M', [some (.d (.int m)), some (.d (.int ((x % m : Nat) : Int)))], M', x % m, ?_, ?_, Nat.mod_lt _ (by omega), m, x % m, rfl, rfl, ?_, rfl⟩
        · simp [tCmpE, asB, eBin, eVar, look, eC, bnd, opI2]; omega
        · have : 0 < m := by omega
          simp [B2_common, sPar, sE, aCons, aNil, eBin, eVar, look, bnd, opMod, this, stors, stor, setEvs]
        · rw [← h3, Nat.gcd_comm x m, Nat.gcd_rec m x, Nat.gcd_comm]) _ b.natAbs [some (.d (.int (a.natAbs : Int))), some (.d (.int (b.natAbs : Int)))] M h ⟨a.natAbs, b.natAbs, rfl, rfl, rfl, rfl⟩
  subst e3 e4 e5
  show fnEnd (S_common [some (.d (.int a)), some (.d (.int b))] M') = _
  rw [S_common, q_nx e1, q_nx (show T3_common _ _ = _ from e2)]
  rfl
theorem big_lt {n : Nat} {i : Int} (h : Bn n i) (k : n ≤ 1300) : i.natAbs < 10000000000000000000000000000000000000000000000000000000000000000000000000000000000000000000000000000000000000000000000000000000000000000000000000000000000000000000000000000000000000000000000000000000000000000000000000000000000000000000000000000000000000000000000000000000000000000000000000000000000000000000000000000000000000000000000000000000000000000000000000000000000000000000000000000000000000000 := by
  have h2 := Bn.mono h k
  unfold Bn at h2
  have : 2 ^ 1300 ≤ 10000000000000000000000000000000000000000000000000000000000000000000000000000000000000000000000000000000000000000000000000000000000000000000000000000000000000000000000000000000000000000000000000000000000000000000000000000000000000000000000000000000000000000000000000000000000000000000000000000000000000000000000000000000000000000000000000000000000000000000000000000000000000000000000000000000000000000 := by decide +kernel
  omega
theorem gcd_pos {a b : Int} (h : 0 < b) : 0 < (Int.gcd a b : Int) ∧ (Int.gcd a b : Int) ≤ b := by
  have h1 : Int.gcd a b ∣ b.natAbs := Int.gcd_dvd_natAbs_right a b
  have h2 := Nat.le_of_dvd (by omega) h1
  have h3 : Int.gcd a b ≠ 0 := by
    intro e
    rw [Int.gcd_eq_zero_iff] at e
    omega
  omega
theorem frac_ok {a b : Int} {n : Nat} {M : Mem} (h0 : 0 < b) (hb : Bn n b) (hn : n ≤ 1300) : F_frac [.d (.int a), .d (.int b)] M = .ok (pr ((a : Rat) / (b : Rat))) M := by
  obtain ⟨g1, g2⟩ := gcd_pos (a := a) h0
  have hg : Bn n (Int.gcd a b : Int) := by unfold Bn at *; omega
  have c1 : ∀ i, cDiv i (Int.gcd a b : Int) := fun i => cdB g1 hg (by omega)
  obtain ⟨d1, d2⟩ := NB.nd_div (a := a) h0
  rw [Int.gcd_comm] at d1 d2
  unfold F_frac; rw [fnOf_eq]
  have e1 : T1_frac [some (.d (.int a)), some (.d (.int b)), none] M = .nx [some (.d (.int a)), some (.d (.int b)), some (.d (.int (Int.gcd a b : Int)))] M := by
    simp [T1_frac, sAsg, sE, eCall, aCons, aNil, eVar, look, bnd, DL.passL, pass1, common_ok (big_lt hb hn), stor]
  have e2 : T2_frac [some (.d (.int a)), some (.d (.int b)), some (.d (.int (Int.gcd a b : Int)))] M = .nx [some (.d (.int a)), some (.d (.int b)), some (.d (.int (Int.gcd a b : Int)))] M := by
    have : ¬ b < 0 := by omega
    simp [T2_frac, sIf, sE, sNext, tCmpE, asB, eBin, eVar, look, eC, bnd, opLt, this]
  have e3 : T3_frac [some (.d (.int a)), some (.d (.int b)), some (.d (.int (Int.gcd a b : Int)))] M = .rt (pr ((a : Rat) / (b : Rat))) M := by
    simp [T3_frac, sRet, sE, eTup, aCons, aNil, eBin, eVar, look, bnd, opDiv, c1, datas, most, retD, pr, d1, d2]
  show fnEnd (S_frac [some (.d (.int a)), some (.d (.int b)), none] M) = _
  rw [S_frac, q_nx e1, q_nx e2, e3]
  rfl
end K08

set_option Elab.async false
set_option linter.all false
set_option maxRecDepth 100000
set_option maxHeartbeats 4000000
/-! law k08, plainly: what is a number of halves, how many signs. -/
namespace K08
open PySem PySem.Spec PyProof.Rows L2 DL
open NB (Bn Dq)
theorem is_integer_int (a : Int) (M : Mem) : F_is_integer [.d (.int a)] M = .ok (.bl true) M := by
  unfold F_is_integer; rw [fnOf_eq]
  have v0 : eVar 0 [some (.d (.int a))] M = .ok (.d (.int a)) M := rfl
  have t1 := isi1 (b := "int") v0 (a := "int") rfl (by decide)
  have t2 := isi1 (b := "bool") v0 (a := "int") rfl (by decide)
  rw [show isOf "int" "int" = true by decide] at t1
  rw [show isOf "int" "bool" = false by decide] at t2
  show fnEnd (S_is_integer [some (.d (.int a))] M) = _
  rw [S_is_integer, T1_is_integer, q_ret (x := bv true) (d := .bl true) (M' := M) (by rw [q_eand1 t1 rfl]; simp only [eNot, bnd, t2]; rfl) rfl]
  rfl
theorem is_tuple_of2 (a b : D) (M : Mem) : F_is_tuple_of [.d (.tup [a, b]), .d (.int 2)] M = .ok (.bl true) M := by
  unfold F_is_tuple_of; rw [fnOf_eq]
  have v0 : eVar 0 [some (.d (.tup [a, b])), some (.d (.int 2))] M = .ok (.d (.tup [a, b])) M := rfl
  have t1 := isi1 (b := "tuple") v0 (a := "tuple") rfl (by decide)
  rw [show isOf "tuple" "tuple" = true by decide] at t1
  show fnEnd (S_is_tuple_of [some (.d (.tup [a, b])), some (.d (.int 2))] M) = _
  rw [S_is_tuple_of, T1_is_tuple_of, q_ret (x := bv true) (d := .bl true) (M' := M) (by rw [q_eand1 t1 rfl]; rfl) rfl]
  rfl
theorem is_fraction_ok {a b : Int} {n : Nat} {M : Mem} (h0 : 0 < b) (hb : Bn n b) (hn : n ≤ 1300) : F_is_fraction [.d (prI a b)] M = .ok (.bl (decide (Int.gcd a b = 1))) M := by
  unfold F_is_fraction; rw [fnOf_eq]
  have c1 : eCall 2 F_is_tuple_of (aCons (eVar 0) (aCons (eC (.int 2)) aNil)) [some (.d (prI a b))] M = .ok (bv true) M := by
    simp [eCall, aCons, aNil, eVar, look, eC, bnd, DL.passL, pass1, is_tuple_of2]
  have i0 : eBin opIx (eVar 0) (eC (.int 0)) [some (.d (prI a b))] M = .ok (.d (.int a)) M := by
    simp [eBin, eVar, look, eC, bnd, opIx, seqOf, at_0]
  have i1 : eBin opIx (eVar 0) (eC (.int 1)) [some (.d (prI a b))] M = .ok (.d (.int b)) M := by
    simp [eBin, eVar, look, eC, bnd, opIx, seqOf, at_1]
  have c2 : eCall 1 F_is_integer (aCons (eBin opIx (eVar 0) (eC (.int 0))) aNil) [some (.d (prI a b))] M = .ok (bv true) M := by
    simp [eCall, aCons, aNil, i0, bnd, DL.passL, pass1, is_integer_int]
  have c3 : eCall 1 F_is_integer (aCons (eBin opIx (eVar 0) (eC (.int 1))) aNil) [some (.d (prI a b))] M = .ok (bv true) M := by
    simp [eCall, aCons, aNil, i1, bnd, DL.passL, pass1, is_integer_int]
  have e1 : T1_is_fraction [some (.d (prI a b))] M = .nx [some (.d (prI a b))] M := by
    refine q_skip ?_
    rw [q_or0 (q_not (truV c1)), q_or0 (q_not (truV c2)), q_not (truV c3)]
    rfl
  have e2 : T2_is_fraction [some (.d (prI a b))] M = .rt (.bl (decide (Int.gcd a b = 1))) M := by
    refine q_ret (x := bv (decide (Int.gcd a b = 1))) ?_ rfl
    have g1 : eBin opGe (eBin opIx (eVar 0) (eC (.int 1))) (eC (.int 1)) [some (.d (prI a b))] M = .ok (bv true) M := by
      rw [q_bin i1 rfl]
      simp [opI2]; omega
    rw [q_eand1 g1 rfl]
    have c4 : eCall 2 F_common (aCons (eBin opIx (eVar 0) (eC (.int 0))) (aCons (eBin opIx (eVar 0) (eC (.int 1))) aNil)) [some (.d (prI a b))] M = .ok (.d (.int (Int.gcd a b : Int))) M := by
      rw [q_call (n := 2) (q_cons2 i0 i1) rfl rfl (common_ok (big_lt hb hn))]
    rw [q_bin c4 rfl]
    simp [opEq, eqR]; omega
  show fnEnd (S_is_fraction [some (.d (prI a b))] M) = _
  rw [S_is_fraction, q_nx e1, e2]
  rfl
theorem band_T (m : Nat) : Builtin.bitAnd ((2 ^ m : Nat) : Int) (((2 ^ m : Nat) : Int) - 1) = 0 := by
  have h := Nat.two_pow_pos m
  unfold Builtin.bitAnd
  rw [decide_eq_true (show (0 : Int) ≤ ((2 ^ m : Nat) : Int) by omega), decide_eq_true (show (0 : Int) ≤ ((2 ^ m : Nat) : Int) - 1 by omega)]
  simp only
  rw [show (((2 ^ m : Nat) : Int) - 1).toNat = 2 ^ m - 1 by omega, Int.toNat_natCast, Nat.and_two_pow_sub_one_eq_mod, Nat.mod_self]
  rfl
theorem two_power_ok (m : Nat) (M : Mem) : F_is_two_power [.d (.int ((2 ^ m : Nat) : Int))] M = .ok (.bl true) M := by
  unfold F_is_two_power; rw [fnOf_eq]
  have h := band_T m
  generalize ((2 ^ m : Nat) : Int) = x at *
  simp [fnEnd, S_is_two_power, T1_is_two_power, sRet, sE, eBin, eVar, look, eC, bnd, opI2, h, opEq, eqR, retD]
theorem gcd_q (q : Rat) : Int.gcd q.num (q.den : Int) = 1 := by
  have := q.reduced
  unfold Nat.Coprime at this
  unfold Int.gcd
  rw [Int.natAbs_natCast]; exact this
theorem half_number_ok {q : Rat} (h : Dq q) (M : Mem) : F_is_half_number [.d (pr q)] M = .ok (.bl true) M := by
  have hb := bn_den h
  obtain ⟨⟨m, h1, h2⟩, h3⟩ := h
  unfold F_is_half_number; rw [fnOf_eq]
  have v0 : eVar 0 [some (.d (pr q))] M = .ok (.d (prI q.num (q.den : Int))) M := rfl
  have c1 := q_call (n := 1) (q_cons1 v0) rfl rfl (is_fraction_ok (a := q.num) (M := M) (NB.den_pos q) hb (by omega))
  have i1 : eBin opIx (eVar 0) (eC (.int 1)) [some (.d (pr q))] M = .ok (.d (.int ((2 ^ m : Nat) : Int))) M := by
    rw [q_bin v0 rfl, ← h2]
    simp [opIx, seqOf, at_1]
  have c2 := q_call (n := 1) (q_cons1 i1) rfl rfl (two_power_ok m M)
  show fnEnd (S_is_half_number [some (.d (pr q))] M) = _
  rw [gcd_q] at c1
  rw [S_is_half_number, T1_is_half_number, q_ret (x := bv true) (d := .bl true) (M' := M) (by rw [q_eand1 c1 rfl]; exact c2) rfl]
  rfl
theorem abs_if (a : Int) : (if a < 0 then -a else a) = (a.natAbs : Int) := by split <;> omega
/-- how many signs -/
theorem signs_number_ok {w : List Bool} (hd : Dq (NB.node w).x) (M : Mem) : F_signs_number [.d (pr (NB.node w).x)] M = .ok (.int (w.length : Int)) M := by
  have hb := bn_den hd
  obtain ⟨⟨m, h1, h2⟩, h3⟩ := hd
  have key := NB.sn_node w h2
  generalize (NB.node w).x = q at *
  have hp := NB.den_pos q
  have cd : ∀ i, cDiv i (q.den : Int) := fun i => cdB hp hb (by omega)
  unfold F_signs_number; rw [fnOf_eq]
  have e1 : T1_signs_number [some (.d (pr q)), none, none, none] M = .nx [some (.d (pr q)), some (.d (.int ((q.num.natAbs : Int) / (q.den : Int)))), none, none] M := by
    simp [T1_signs_number, sAsg, sE, eBin, eB, aCons, aNil, eVar, look, eC, bnd, pr, opIx, seqOf, at_0, at_1, bAbs, abs_if, opDiv, cd, stor]
  have e2 : T2_signs_number [some (.d (pr q)), some (.d (.int ((q.num.natAbs : Int) / (q.den : Int)))), none, none] M = .nx [some (.d (pr q)), some (.d (.int ((q.num.natAbs : Int) / (q.den : Int)))), some (.d (.int ((q.num.natAbs : Int) % (q.den : Int)))), some (.d (.int (q.den : Int)))] M := by
    have hp' : 0 < q.den := q.den_pos
    simp [T2_signs_number, sPar, sE, eBin, eB, aCons, aNil, eVar, look, eC, bnd, pr, opIx, seqOf, at_0, at_1, bAbs, abs_if, opMod, hp', stors, stor, setEvs]
  obtain ⟨ρ', M', e3, e4, e5⟩ := sWhile_inv (tc := tCmpE opGt (eVar 3) (eC (.int 1))) (f := B3_signs_number)
    (fun k ρ M' => k ≤ m ∧ ρ = [some (.d (pr q)), some (.d (.int ((q.num.natAbs : Int) / (q.den : Int) + (m - k : Nat)))), some (.d (.int ((q.num.natAbs : Int) % (q.den : Int)))), some (.d (.int ((2 ^ k : Nat) : Int)))] ∧ M' = M)
    (fun ρ M' => ρ = [some (.d (pr q)), some (.d (.int ((q.num.natAbs : Int) / (q.den : Int) + m))), some (.d (.int ((q.num.natAbs : Int) % (q.den : Int)))), some (.d (.int 1))] ∧ M' = M)
    (fun k ρ M' ⟨k0, k1, k2⟩ => by
      subst k1 k2
      cases k with
      | zero =>
        refine .inl ⟨M', ?_, ?_, rfl⟩
        · simp [tCmpE, asB, eBin, eVar, look, eC, bnd, opI2]
        · simp
      | succ k =>
        have hk : ((2 ^ (k + 1) : Nat) : Int) = 2 * ((2 ^ k : Nat) : Int) := by rw [Nat.pow_succ]; omega
        have hp2 := Nat.two_pow_pos k
        rw [hk]
        refine .inr ⟨M', [some (.d (pr q)), some (.d (.int ((q.num.natAbs : Int) / (q.den : Int) + (m - k : Nat)))), some (.d (.int ((q.num.natAbs : Int) % (q.den : Int)))), some (.d (.int ((2 ^ k : Nat) : Int)))], M', k, ?_, ?_, by omega, by omega, rfl, rfl⟩
        · generalize ((2 ^ k : Nat) : Int) = x at *
          have : 1 < 2 * x := by omega
          simp [tCmpE, asB, eBin, eVar, look, eC, bnd, opI2, this]
        · have e1 : (q.num.natAbs : Int) / (q.den : Int) + ((m - (k + 1) : Nat) : Int) + 1 = (q.num.natAbs : Int) / (q.den : Int) + ((m - k : Nat) : Int) := by omega
          have c2 : ∀ i, cDiv i 2 := fun i => ⟨by omega, by decide⟩
          have e3 : 2 * ((2 ^ k : Nat) : Int) / 2 = ((2 ^ k : Nat) : Int) := by omega
          generalize ((2 ^ k : Nat) : Int) = x at *
          generalize (q.num.natAbs : Int) / (q.den : Int) = y at *
          generalize ((m - (k + 1) : Nat) : Int) = z at *
          simp [B3_signs_number, sPar, sE, eBin, aCons, aNil, eVar, look, eC, bnd, opAdd, opDiv, c2, stors, stor, setEvs, e1, e3]) 1000 m [some (.d (pr q)), some (.d (.int ((q.num.natAbs : Int) / (q.den : Int)))), some (.d (.int ((q.num.natAbs : Int) % (q.den : Int)))), some (.d (.int (q.den : Int)))] M (by omega) ⟨by omega, by rw [h2]; simp, rfl⟩
  subst e4 e5
  have e6 : T5_signs_number [some (.d (pr q)), some (.d (.int ((q.num.natAbs : Int) / (q.den : Int) + m))), some (.d (.int ((q.num.natAbs : Int) % (q.den : Int)))), some (.d (.int 1))] M' = .rt (.int (w.length : Int)) M' := by
    rw [← h2] at key
    rw [← key]
    generalize (q.num.natAbs : Int) % (q.den : Int) = r
    by_cases hr : 0 < r
    · simp [T5_signs_number, sRet, sE, eBin, eB, aCons, aNil, eVar, look, eC, bnd, opI2, bInt, opAdd, retD, hr]
    · simp [T5_signs_number, sRet, sE, eBin, eB, aCons, aNil, eVar, look, eC, bnd, opI2, bInt, opAdd, retD, hr]
  show fnEnd (S_signs_number [some (.d (pr q)), none, none, none] M') = _
  rw [S_signs_number, q_nx e1, q_nx e2, q_nx (show T4_signs_number _ _ = _ from e3), e6]
  rfl
end K08

set_option Elab.async false
set_option linter.all false
set_option maxRecDepth 100000
set_option maxHeartbeats 4000000
/-! law k08, plainly: the simplest between. -/
namespace K08
open PySem PySem.Spec PyProof.Rows L2 DL
open NB (Bn Dq)
theorem Bn.ediv {n : Nat} {a d : Int} (h : Bn n a) (hd : 0 < d) : Bn n (a / d) := by
  unfold Bn at *
  by_cases h0 : 0 ≤ a
  · have h1 := Int.ediv_nonneg h0 (Int.le_of_lt hd)
    have h2 := Int.ediv_le_self d h0
    omega
  · have h1 : a ≤ a / d := Int.le_ediv_of_mul_le hd (by
      have : a * d ≤ a * 1 := Int.mul_le_mul_of_nonpos_left (by omega) (by omega)
      omega)
    have h2 : a / d < 0 := Int.ediv_neg_of_neg_of_pos (by omega) hd
    omega
theorem Bn.one {n : Nat} (h : 1 ≤ n) : Bn n 1 := Bn.mono (n := 1) (by unfold Bn; decide) h
theorem dq0 : Dq 0 := ⟨⟨0, by omega, rfl⟩, by unfold Bn; decide⟩
theorem e01 (ρ : DL.Env) (M : Mem) : eTup (aCons (eC (.int 0)) (aCons (eC (.int 1)) aNil)) ρ M = .ok (.d (pr 0)) M := rfl
theorem isN (o : Option Rat) (M : Mem) : opIs false (.d (po o)) (.d .non) M = .ok (bv o.isNone) M := by cases o <;> rfl
theorem isNt (o : Option Rat) (M : Mem) : opIs true (.d (po o)) (.d .non) M = .ok (bv o.isSome) M := by cases o <;> rfl
section
variable {ρ : DL.Env} {M : Mem} {lo hi : Option Rat} {i : Nat}
theorem v_po (h : At ρ i (.d (po lo))) : eVar i ρ M = .ok (.d (po lo)) M := h.v
theorem t_none (h : At ρ i (.d (po lo))) : tCmpE (opIs false) (eVar i) (eC .non) ρ M = .ok lo.isNone M := by
  refine q_cmp ?_
  rw [q_bin (v_po h) rfl, isN]
theorem t_some (h : At ρ i (.d (po lo))) : tCmpE (opIs true) (eVar i) (eC .non) ρ M = .ok lo.isSome M := by
  refine q_cmp ?_
  rw [q_bin (v_po h) rfl, isNt]
def loN (lo : Option Rat) : Bool := match lo with | none => true | some l => decide (l < 0)
def hiN (hi : Option Rat) : Bool := match hi with | none => true | some l => decide (0 < l)
theorem t_lo (h : At ρ 0 (.d (po lo))) (hl : ∀ q, lo = some q → Dq q) : bOr (tCmpE (opIs false) (eVar 0) (eC .non)) (tTru (eCall 2 F_less (aCons (eVar 0) (aCons (eTup (aCons (eC (.int 0)) (aCons (eC (.int 1)) aNil))) aNil)))) ρ M = .ok (loN lo) M := by
  cases lo with
  | none => rw [q_or1 (t_none h)]; rfl
  | some l =>
    rw [q_or0 (t_none h)]
    exact truV (q_call (n := 2) (q_cons2 (v_po h) (e01 ρ M)) rfl rfl (lessQ (hl l rfl) dq0))
theorem t_hi (h : At ρ 1 (.d (po hi))) (hl : ∀ q, hi = some q → Dq q) : bOr (tCmpE (opIs false) (eVar 1) (eC .non)) (tTru (eCall 2 F_less (aCons (eTup (aCons (eC (.int 0)) (aCons (eC (.int 1)) aNil))) (aCons (eVar 1) aNil)))) ρ M = .ok (hiN hi) M := by
  cases hi with
  | none => rw [q_or1 (t_none h)]; rfl
  | some l =>
    rw [q_or0 (t_none h)]
    exact truV (q_call (n := 2) (q_cons2 (e01 ρ M) (v_po h)) rfl rfl (lessQ dq0 (hl l rfl)))
theorem t_neg (h : At ρ 1 (.d (po hi))) (hl : ∀ q, hi = some q → Dq q) : bAnd (tCmpE (opIs true) (eVar 1) (eC .non)) (bNot (tTru (eCall 2 F_less (aCons (eTup (aCons (eC (.int 0)) (aCons (eC (.int 1)) aNil))) (aCons (eVar 1) aNil))))) ρ M = .ok (!hiN hi) M := by
  cases hi with
  | none => rw [q_and0 (t_some h)]; rfl
  | some l =>
    rw [q_and1 (t_some h)]
    exact q_not (truV (q_call (n := 2) (q_cons2 (e01 ρ M) (v_po h)) rfl rfl (lessQ dq0 (hl l rfl))))
end
theorem pr_neg (q : Rat) : prI (-q.num) (q.den : Int) = pr (-q) := by unfold pr; rw [Rat.neg_num, Rat.neg_den]
theorem po_ng (o : Option Rat) : po (NB.ng o) = match o with | none => .non | some q => pr (-q) := by cases o <;> rfl
def env7 (lo hi : Option Rat) : DL.Env := [some (.d (po lo)), some (.d (po hi)), none, none, none, none, none]
theorem bt_eq (Fr : Fn) (lo hi : Option Rat) (M : Mem) : fnOf 7 (S_between_of Fr) [.d (po lo), .d (po hi)] M = fnEnd (S_between_of Fr (env7 lo hi) M) := by rw [fnOf_eq]; rfl
theorem bt_mid (Fr : Fn) {lo hi : Option Rat} {M : Mem} (hl : ∀ q, lo = some q → Dq q) (hh : ∀ q, hi = some q → Dq q) (h : NB.In lo hi 0) : fnOf 7 (S_between_of Fr) [.d (po lo), .d (po hi)] M = .ok (pr 0) M := by
  rw [bt_eq, S_between_of]
  have a0 : At (env7 lo hi) 0 (.d (po lo)) := rfl
  have a1 : At (env7 lo hi) 1 (.d (po hi)) := rfl
  have k0 : loN lo = true := by
    cases lo with
    | none => rfl
    | some l => exact decide_eq_true (h.1 l rfl)
  have k1 : hiN hi = true := by
    cases hi with
    | none => rfl
    | some l => exact decide_eq_true (h.2 l rfl)
  have t0 := t_lo (M := M) a0 hl
  have t1 := t_hi (M := M) a1 hh
  rw [k0] at t0; rw [k1] at t1
  rw [q_rt (d := pr 0) (M' := M) (by rw [q_if1 (by rw [q_and1 t0]; exact t1)]; exact q_ret (e01 _ _) rfl)]
  rfl
theorem floorI (l : Rat) : ((l.num / (l.den : Int) : Int) : Rat) ≤ l ∧ l < ((l.num / (l.den : Int) + 1 : Int) : Rat) := by
  rw [← Rat.floor_def]
  exact ⟨Rat.floor_le l, Rat.lt_floor_add_one l⟩
def envW (l : Rat) (hi : Option Rat) : DL.Env := [some (.d (po (some l))), some (.d (po hi)), none, some (.d (.int (l.num / (l.den : Int) + 1))), none, none, none]
def btB : Ss := (sSeq (sAsg 4 (eBin opMulA (eVar 4) (eC (.int 2)))) (sSeq (sAsg 6 (eBin opAdd (eBin opDiv (eBin opMulA (eBin opIx (eVar 0) (eC (.int 0))) (eVar 4)) (eBin opIx (eVar 0) (eC (.int 1)))) (eC (.int 1)))) (sIf (tTru (eCall 2 F_less (aCons (eTup (aCons (eVar 6) (aCons (eVar 4) aNil))) (aCons (eVar 1) aNil)))) (sAsg 5 (eCall 2 F_frac (aCons (eVar 6) (aCons (eVar 4) aNil)))) sNext)))
def envL (l h : Rat) (w b : Int) (f : D) (x6 : Option Ev) : DL.Env := [some (.d (prI l.num (l.den : Int))), some (.d (prI h.num (h.den : Int))), none, some (.d (.int w)), some (.d (.int b)), some (.d f), x6]
theorem btB_ok {l h : Rat} {w t : Int} {j : Nat} {x6 : Option Ev} {M : Mem} (hl : Dq l) (hh : Dq h) (lt : l < h) (H : NB.Hv l h t j) :
    ∃ f x, btB (envL l h w (NB.T j) .non x6) M = .nx (envL l h w (NB.T (j + 1)) f x) M ∧ ((∃ y, f = pr y ∧ NB.Sm (some l) (some h) y) ∨ (f = .non ∧ ∃ t', NB.Hv l h t' (j + 1))) := by
  have hj := NB.hv_end H lt hl hh
  have hT : Bn 402 (NB.T (j + 1)) := bn_T (by omega)
  have hT0 : Bn 402 (NB.T j) := bn_T (by omega)
  have c1 : cMul (NB.T j) 2 := cmB hT0 (show Bn 2 2 by unfold Bn; decide) (by omega)
  have e2 : NB.T j * 2 = NB.T (j + 1) := by rw [NB.Ts]; omega
  have c2 : cMul l.num (NB.T (j + 1)) := cmB hl.2 hT (by omega)
  have hp := NB.den_pos l
  have c3 : ∀ i, cDiv i (l.den : Int) := fun i => cdB hp (bn_den hl) (by omega)
  have hx : Bn 822 (l.num * NB.T (j + 1)) := Bn.mul hl.2 hT
  have htop : Bn 823 (l.num * NB.T (j + 1) / (l.den : Int) + 1) := Bn.add (Bn.ediv hx hp) (Bn.one (by omega))
  obtain ⟨f1, f2⟩ := NB.floor_half (l := l) (j := j + 1)
  obtain ⟨s1, s2⟩ := NB.hv_step H lt f1 f2
  have less := less_ok (M := M) (cmB htop (bn_den hh) (by omega)) (cmB hh.2 hT (by omega))
  have k := NB.lt_half (a := l.num * NB.T (j + 1) / (l.den : Int) + 1) (j := j + 1) (h := h)
  have fr := frac_ok (a := l.num * NB.T (j + 1) / (l.den : Int) + 1) (M := M) (NB.T_pos (j + 1)) hT (by omega)
  rw [← NB.mul_p] at fr
  have ec : ((l.num * NB.T (j + 1) / (l.den : Int) + 1 : Int) : Rat) = ((l.num * NB.T (j + 1) / (l.den : Int) : Int) : Rat) + 1 := by simp
  rw [ec] at k fr
  generalize hf : l.num * NB.T (j + 1) / (l.den : Int) = f at *
  have r1 : sAsg 4 (eBin opMulA (eVar 4) (eC (.int 2))) (envL l h w (NB.T j) .non x6) M = .nx (envL l h w (NB.T (j + 1)) .non x6) M := by
    simp [envL, sAsg, sE, eBin, eVar, look, eC, bnd, opMulA, opMul, c1, stor, e2]
  have r2 : sAsg 6 (eBin opAdd (eBin opDiv (eBin opMulA (eBin opIx (eVar 0) (eC (.int 0))) (eVar 4)) (eBin opIx (eVar 0) (eC (.int 1)))) (eC (.int 1))) (envL l h w (NB.T (j + 1)) .non x6) M = .nx (envL l h w (NB.T (j + 1)) .non (some (.d (.int (f + 1))))) M := by
    simp [envL, sAsg, sE, eBin, eVar, look, eC, bnd, opIx, seqOf, at_0, at_1, opMulA, opMul, c2, opDiv, c3, hf, opAdd, stor]
  have cl : tTru (eCall 2 F_less (aCons (eTup (aCons (eVar 6) (aCons (eVar 4) aNil))) (aCons (eVar 1) aNil))) (envL l h w (NB.T (j + 1)) .non (some (.d (.int (f + 1))))) M = .ok (decide ((f + 1) * (h.den : Int) < h.num * NB.T (j + 1))) M :=
    truV (q_call (n := 2) (q_cons2 (x := .d (prI (f + 1) (NB.T (j + 1)))) (y := .d (prI h.num (h.den : Int))) (M'' := M) (M' := M) (by simp [eTup, aCons, aNil, envL, eVar, look, bnd, datas, most]) rfl) rfl rfl less)
  by_cases c : (f + 1) * (h.den : Int) < h.num * NB.T (j + 1)
  · rw [decide_eq_true c] at cl
    refine ⟨pr (((f : Rat) + 1) * NB.p (j + 1)), some (.d (.int (f + 1))), ?_, .inl ⟨_, rfl, s1 (k.mpr c)⟩⟩
    rw [btB, q_nx r1, q_nx r2, q_if1 cl, q_set (q_call (n := 2) (q_cons2 rfl rfl) rfl rfl fr) rfl (show 5 < 7 by decide)]
    rfl
  · rw [decide_eq_false c] at cl
    refine ⟨.non, some (.d (.int (f + 1))), ?_, .inr ⟨rfl, f, s2 (fun z => c (k.mp z))⟩⟩
    rw [btB, q_nx r1, q_nx r2, q_if0 cl]
    rfl
theorem btL_ok {l h : Rat} {w t : Int} {M : Mem} (hl : Dq l) (hh : Dq h) (lt : l < h) (H : NB.Hv l h t 0) :
    ∃ y b x, sWhile (tCmpE (opIs false) (eVar 5) (eC .non)) btB 1000 (envL l h w 1 .non none) M = .nx (envL l h w b (pr y) x) M ∧ NB.Sm (some l) (some h) y := by
  obtain ⟨ρ', M', e, y, b, x, e1, e2, e3⟩ := sWhile_inv (tc := tCmpE (opIs false) (eVar 5) (eC .non)) (f := btB)
    (fun m ρ M' => M' = M ∧ ∃ b f x6, ρ = envL l h w b f x6 ∧ ((∃ y, f = pr y ∧ NB.Sm (some l) (some h) y ∧ m = 0) ∨ (∃ t j, f = .non ∧ NB.Hv l h t j ∧ b = NB.T j ∧ j + m = 401)))
    (fun ρ M' => ∃ y b x, ρ = envL l h w b (pr y) x ∧ M' = M ∧ NB.Sm (some l) (some h) y)
    (fun m ρ M' ⟨h1, b, f, x6, h2, h3⟩ => by
      subst h1 h2
      rcases h3 with ⟨y, h3, h4, h5⟩ | ⟨t, j, h3, h4, h5, h6⟩
      · subst h3
        exact .inl ⟨M', rfl, y, b, x6, rfl, rfl, h4⟩
      · subst h3 h5
        have hj := NB.hv_end h4 lt hl hh
        obtain ⟨f', x', e, h7⟩ := btB_ok (w := w) (x6 := x6) (M := M') hl hh lt h4
        rcases h7 with ⟨y, h7, h8⟩ | ⟨h7, t', h8⟩
        · exact .inr ⟨M', _, M', 0, rfl, e, by omega, rfl, _, _, _, rfl, .inl ⟨y, h7, h8, rfl⟩⟩
        · have hj2 := NB.hv_end h8 lt hl hh
          exact .inr ⟨M', _, M', m - 1, rfl, e, by omega, rfl, _, _, _, rfl, .inr ⟨t', j + 1, h7, h8, rfl, by omega⟩⟩) 1000 401 (envL l h w 1 .non none) M (by omega) ⟨rfl, _, _, _, rfl, .inr ⟨t, 0, rfl, H, rfl, by omega⟩⟩
  subst e1 e2
  exact ⟨y, b, x, e, e3⟩
theorem bt_pos (Fr : Fn) {l : Rat} {hi : Option Rat} {M : Mem} (hl : Dq l) (hh : ∀ q, hi = some q → Dq q) (lt : ∀ h, hi = some h → l < h) (h0 : 0 ≤ l) : ∃ y, fnOf 7 (S_between_of Fr) [.d (po (some l)), .d (po hi)] M = .ok (pr y) M ∧ NB.Sm (some l) hi y := by
  rw [bt_eq, S_between_of]
  have a0 : At (env7 (some l) hi) 0 (.d (po (some l))) := rfl
  have a1 : At (env7 (some l) hi) 1 (.d (po hi)) := rfl
  have k0 : loN (some l) = false := decide_eq_false (by grind)
  have k1 : hiN hi = true := by
    cases hi with
    | none => rfl
    | some h => have := lt h rfl; exact decide_eq_true (by grind)
  have t0 := t_lo (M := M) a0 (fun q e => by cases e; exact hl)
  have t1 := t_neg (M := M) a1 hh
  rw [k0] at t0; rw [k1] at t1
  rw [q_nx (q_skip (q_and0 t0)), q_nx (q_skip t1)]
  have hp := NB.den_pos l
  have c3 : ∀ i, cDiv i (l.den : Int) := fun i => cdB hp (bn_den hl) (by omega)
  have s3 : sAsg 3 (eBin opAdd (eBin opDiv (eBin opIx (eVar 0) (eC (.int 0))) (eBin opIx (eVar 0) (eC (.int 1)))) (eC (.int 1))) (env7 (some l) hi) M = .nx (envW l hi) M := by
    simp [env7, envW, po, pr, sAsg, sE, eBin, eVar, look, eC, bnd, opIx, seqOf, at_0, at_1, opDiv, c3, opAdd, stor]
  rw [q_nx s3]
  obtain ⟨f1, f2⟩ := floorI l
  have hk : Bn 421 (l.num / (l.den : Int) + 1) := Bn.add (Bn.ediv hl.2 hp) (Bn.one (by omega))
  have hk0 : 0 ≤ l.num / (l.den : Int) := Int.ediv_nonneg (Rat.num_nonneg.mpr h0) (by omega)
  have b1 : At (envW l hi) 1 (.d (po hi)) := rfl
  have rt : ∀ ρ : DL.Env, At ρ 3 (.d (.int (l.num / (l.den : Int) + 1))) → sRet (eTup (aCons (eVar 3) (aCons (eC (.int 1)) aNil))) ρ M = .rt (pr ((l.num / (l.den : Int) + 1 : Int) : Rat)) M := fun ρ h3 => by
    refine q_ret (x := .d (pr ((l.num / (l.den : Int) + 1 : Int) : Rat))) ?_ rfl
    have := h3.v (M := M)
    simp only [eTup, aCons, aNil, this, bnd, eC]
    rfl
  cases hi with
  | none =>
    refine ⟨((l.num / (l.den : Int) + 1 : Int) : Rat), ?_, NB.sm_whole hk0 f1 f2 nofun⟩
    rw [q_rt (d := pr ((l.num / (l.den : Int) + 1 : Int) : Rat)) (M' := M) (by rw [q_if1 (by rw [q_or1 (t_none b1)])]; exact rt _ rfl)]
    rfl
  | some h =>
    have hh' := hh h rfl
    have less := less_ok (M := M) (cmB hk (bn_den hh') (by omega)) (cmB hh'.2 (Bn.one (n := 1) (by omega)) (by omega))
    have cl : tTru (eCall 2 F_less (aCons (eTup (aCons (eVar 3) (aCons (eC (.int 1)) aNil))) (aCons (eVar 1) aNil))) (envW l (some h)) M = .ok (decide ((l.num / (l.den : Int) + 1) * (h.den : Int) < h.num * 1)) M :=
      truV (q_call (n := 2) (q_cons2 (x := .d (prI (l.num / (l.den : Int) + 1) 1)) (y := .d (prI h.num (h.den : Int))) (M'' := M) (M' := M) (by simp [eTup, aCons, aNil, envW, eVar, look, eC, bnd, datas, most]) rfl) rfl rfl less)
    have k := NB.lt_half (a := l.num / (l.den : Int) + 1) (j := 0) (h := h)
    rw [NB.T0, show NB.p 0 = 1 from rfl, Rat.mul_one] at k
    by_cases c : (l.num / (l.den : Int) + 1) * (h.den : Int) < h.num * 1
    · rw [decide_eq_true c] at cl
      refine ⟨((l.num / (l.den : Int) + 1 : Int) : Rat), ?_, NB.sm_whole hk0 f1 f2 (fun h' e => by cases e; exact k.mpr c)⟩
      rw [q_rt (d := pr ((l.num / (l.den : Int) + 1 : Int) : Rat)) (M' := M) (by rw [q_if1 (by rw [q_or0 (t_none b1)]; exact cl)]; exact rt _ rfl)]
      rfl
    · rw [decide_eq_false c] at cl
      have nc : ¬ ((l.num / (l.den : Int) + 1 : Int) : Rat) < h := fun z => c (k.mp z)
      have H := NB.hv0 (l := l) (h := h) hk0 f1 f2 (by grind)
      obtain ⟨y, b, x, e, sm⟩ := btL_ok (w := l.num / (l.den : Int) + 1) (M := M) hl hh' (lt h rfl) H
      refine ⟨y, ?_, sm⟩
      rw [q_nx (q_skip (by rw [q_or0 (t_none b1)]; exact cl))]
      rw [q_nx (show sAsg 4 (eC (.int 1)) (envW l (some h)) M = .nx [some (.d (po (some l))), some (.d (po (some h))), none, some (.d (.int (l.num / (l.den : Int) + 1))), some (.d (.int 1)), none, none] M from rfl)]
      rw [q_nx (show sAsg 5 (eC .non) _ M = .nx (envL l h (l.num / (l.den : Int) + 1) 1 .non none) M from rfl)]
      unfold btB at e
      rw [q_nx e]
      rfl
theorem bt_neg (Fr : Fn) {lo : Option Rat} {h y : Rat} {M : Mem} (hl : ∀ q, lo = some q → Dq q) (hh : Dq h) (h0 : h ≤ 0) (lt : ∀ l, lo = some l → l < h) (hr : Fr [.d (po (some (-h))), .d (po (NB.ng lo))] M = .ok (pr y) M) : fnOf 7 (S_between_of Fr) [.d (po lo), .d (po (some h))] M = .ok (pr (-y)) M := by
  rw [bt_eq, S_between_of]
  have a0 : At (env7 lo (some h)) 0 (.d (po lo)) := rfl
  have a1 : At (env7 lo (some h)) 1 (.d (po (some h))) := rfl
  have k1 : hiN (some h) = false := decide_eq_false (by grind)
  have t0 := t_lo (M := M) a0 hl
  have t1 := t_hi (M := M) a1 (fun q e => by cases e; exact hh)
  have t2 := t_neg (M := M) a1 (fun q e => by cases e; exact hh)
  rw [k1] at t1 t2
  have tA : bAnd (bOr (tCmpE (opIs false) (eVar 0) (eC .non)) (tTru (eCall 2 F_less (aCons (eVar 0) (aCons (eTup (aCons (eC (.int 0)) (aCons (eC (.int 1)) aNil))) aNil))))) (bOr (tCmpE (opIs false) (eVar 1) (eC .non)) (tTru (eCall 2 F_less (aCons (eTup (aCons (eC (.int 0)) (aCons (eC (.int 1)) aNil))) (aCons (eVar 1) aNil))))) (env7 lo (some h)) M = .ok false M := by
    cases hq : loN lo with
    | true => rw [hq] at t0; rw [q_and1 t0]; exact t1
    | false => rw [hq] at t0; exact q_and0 t0
  rw [q_nx (q_skip tA)]
  have e1 : eTup (aCons (eUn unNeg (eBin opIx (eVar 1) (eC (.int 0)))) (aCons (eBin opIx (eVar 1) (eC (.int 1))) aNil)) (env7 lo (some h)) M = .ok (.d (po (some (-h)))) M := by
    simp [env7, po, pr, eTup, aCons, aNil, eUn, unNeg, eBin, eVar, look, eC, bnd, opIx, seqOf, at_0, at_1, datas, most]
  have e2 : eIf (tCmpE (opIs false) (eVar 0) (eC .non)) (eC .non) (eTup (aCons (eUn unNeg (eBin opIx (eVar 0) (eC (.int 0)))) (aCons (eBin opIx (eVar 0) (eC (.int 1))) aNil))) (env7 lo (some h)) M = .ok (.d (po (NB.ng lo))) M := by
    cases lo with
    | none => rfl
    | some l => simp [env7, po, pr, NB.ng, DL.isNon, eIf, tCmpE, asB, opIs, DL.isNon, eTup, aCons, aNil, eUn, unNeg, eBin, eVar, look, eC, bnd, opIx, seqOf, at_0, at_1, datas, most]
  have s2 := q_set (i := 2) (q_call (n := 2) (q_cons2 e1 e2) rfl rfl hr) rfl (show 2 < 7 by decide)
  have b2 : At ((env7 lo (some h)).set 2 (some (.d (pr y)))) 2 (.d (pr y)) := rfl
  have r : ∀ ρ : DL.Env, At ρ 2 (.d (pr y)) → sRet (eTup (aCons (eUn unNeg (eBin opIx (eVar 2) (eC (.int 0)))) (aCons (eBin opIx (eVar 2) (eC (.int 1))) aNil))) ρ M = .rt (pr (-y)) M := fun ρ hb => by
    refine q_ret (x := .d (pr (-y))) ?_ rfl
    have v2 := hb.v (M := M)
    simp [eTup, aCons, aNil, eUn, unNeg, eBin, v2, look, eC, bnd, pr, opIx, seqOf, at_0, at_1, datas, most]
  rw [q_rt (d := pr (-y)) (M' := M) (by rw [q_if1 t2, q_nx s2, r _ b2])]
  rfl
/-- the program's answer is the simplest between -/
theorem between_ok {lo hi : Option Rat} {M : Mem} (hl : ∀ q, lo = some q → Dq q) (hh : ∀ q, hi = some q → Dq q) (lt : ∀ a b, lo = some a → hi = some b → a < b) : ∃ y, F_between_of [.d (po lo), .d (po hi)] M = .ok (pr y) M ∧ NB.Sm lo hi y := by
  show ∃ y, fnOf 7 (S_between_of (R_between_of 2)) _ _ = _ ∧ _
  by_cases h : NB.In lo hi 0
  · exact ⟨0, bt_mid _ hl hh h, NB.sm_zero h⟩
  · by_cases k : ∃ b, hi = some b ∧ b ≤ 0
    · obtain ⟨b, rfl, hb⟩ := k
      obtain ⟨y, e, sm⟩ := bt_pos (R_between_of 1) (l := -b) (hi := NB.ng lo) (M := M) (hh b rfl).neg (fun q e => by
        cases lo with
        | none => cases e
        | some l => cases e; exact (hl l rfl).neg) (fun q e => by
        cases lo with
        | none => cases e
        | some l => cases e; have := lt l b rfl rfl; grind) (by grind)
      refine ⟨-y, bt_neg _ hl (hh b rfl) hb (fun l e => lt l b e rfl) e, ?_⟩
      have := sm.neg
      rw [NB.ng_ng] at this
      have e2 : NB.ng (some (-b)) = some b := by simp [NB.ng]
      rw [e2] at this
      exact this
    · cases lo with
      | none =>
        refine (h ⟨nofun, fun b e => ?_⟩).elim
        have : ¬ b ≤ 0 := fun z => k ⟨b, e, z⟩
        grind
      | some l =>
        refine bt_pos _ (hl l rfl) hh (fun b e => lt l b rfl e) ?_
        apply Classical.byContradiction
        intro c
        refine h ⟨fun q e => by cases e; grind, fun b e => ?_⟩
        have : ¬ b ≤ 0 := fun z => k ⟨b, e, z⟩
        grind
end K08

set_option Elab.async false
set_option linter.all false
set_option maxRecDepth 100000
set_option maxHeartbeats 4000000
/-! law k08, plainly: texts of signs; the program's signs. -/
namespace K08
open PySem PySem.Spec PyProof.Rows L2 DL
open NB (Bn Dq)
def sg : Bool → Nat
  | true => 76
  | false => 82
def ws (w : List Bool) : Str := ⟨(w.map sg).toArray⟩
theorem ws_L : ("L" : Str) = ws [true] := rfl
theorem ws_R : ("R" : Str) = ws [false] := rfl
theorem ws_0 : ("" : Str) = ws [] := rfl
theorem ws_LR : ("LR" : Str) = ws [true, false] := rfl
theorem ws_app (u v : List Bool) : ws u ++ ws v = ws (u ++ v) := by
  show Str.mk ((u.map sg).toArray ++ (v.map sg).toArray) = _
  simp [ws]
theorem ws_len (w : List Bool) : (ws w).length = w.length := by simp [ws, Str.length]
def lt (b : Bool) : D := .str (ws [b])
theorem toStrs_lt : ∀ w : List Bool, toStrs (w.map lt) = some (w.map fun b => ws [b])
  | [] => rfl
  | b :: w => by
    show (toStrs (w.map lt)).map _ = _
    rw [toStrs_lt w]; rfl
theorem join_ws : ∀ w : List Bool, Txt.join (ws []) (w.map fun b => ws [b]) = ws w := by
  intro w
  show Builtin.Str.glued _ _ = _
  rw [StrLaws.glued_eq_join]
  induction w with
  | nil => rfl
  | cons b w ih =>
    cases w with
    | nil => rfl
    | cons c w =>
      show ws [b] ++ ws [] ++ Str.join (ws []) ((c :: w).map fun b => ws [b]) = _
      rw [ih, ws_app, ws_app]; rfl
theorem sum_ones (w : List Bool) : ((w.map fun b => ws [b]).map (·.length)).sum = w.length := by
  induction w with
  | nil => rfl
  | cons b w ih =>
    simp only [List.map_cons, List.sum_cons, List.length_cons] at ih ⊢
    rw [ih, ws_len]; simp; omega
theorem joinO_ws {w : List Bool} {y : Ev} (hy : seqOf y = some (w.map lt)) (h : w.length ≤ 1000) : joinO (.d (.str (ws []))) y = some (ws w) := by
  unfold joinO
  simp only [hy, toStrs_lt]
  rw [if_pos (by rw [sum_ones, ws_len]; unfold most; simp; omega), join_ws]
theorem chars_ws (w : List Bool) : chars (ws w) = w.map lt := by
  unfold chars ws
  simp only [List.map_map]
  rfl
theorem cut_ws (u v : List Bool) : cutS (ws (u ++ v)) none (some (u.length : Int)) = ws u := by
  unfold cutS
  rw [HT.sIx_none, HT.sIx_nat, ws_len, List.length_append, Nat.min_eq_left (by omega), Nat.sub_zero, List.drop_zero]
  show Str.mk (List.take u.length ((u ++ v).map sg)).toArray = _
  rw [List.map_append, List.take_append_of_le_length (by simp), List.take_of_length_le (by simp)]
  rfl
theorem ws_inj {u v : List Bool} (h : ws u = ws v) : u = v := by
  have h1 : u.map sg = v.map sg := by
    have := congrArg (fun s : Str => s.cps.toList) h
    simpa [ws] using this
  exact List.map_inj_right (fun a b e => by cases a <;> cases b <;> first | rfl | cases e) |>.mp h1
theorem foldl_rep (b : Bool) : ∀ (n : Nat) (acc : Array Nat), (List.replicate n (ws [b]).cps).foldl (· ++ ·) acc = acc ++ ((List.replicate n b).map sg).toArray
  | 0, acc => by simp
  | n + 1, acc => by
    rw [List.replicate_succ, List.foldl_cons, foldl_rep b n, List.replicate_succ, List.map_cons]
    apply Array.ext'
    simp [ws]
theorem rep_ws (b : Bool) (n : Nat) : repS (ws [b]) (n : Int) = ws (List.replicate n b) := by
  unfold repS
  rw [Int.toNat_natCast, foldl_rep]
  simp [ws]
theorem eqR_ii (a b c d : Int) : eqR (.d (prI a b)) (.d (prI c d)) = some (decide (a = c ∧ b = d)) := by
  have s1 : SeqAt.shaped (Ev.d (prI a b)).py = true := by
    show (_ && decide (_ ≤ 64)) = true
    rfl
  have s2 : SeqAt.shaped (Ev.d (prI c d)).py = true := by
    show (_ && decide (_ ≤ 64)) = true
    rfl
  show (if SeqAt.shaped (Ev.d (prI a b)).py = true ∧ SeqAt.shaped (Ev.d (prI c d)).py = true then some (PyData.eqv (Ev.d (prI a b)).py (Ev.d (prI c d)).py) else none) = _
  rw [if_pos ⟨s1, s2⟩]
  show some ((a == c) && ((b == d) && true)) = _
  congr 1
  rw [Bool.eq_iff_iff]
  simp
theorem eqR_pr (a b : Rat) : eqR (.d (pr a)) (.d (pr b)) = some (decide (a = b)) := by
  unfold pr
  rw [eqR_ii]
  congr 1
  rw [decide_eq_decide]
  constructor
  · rintro ⟨h1, h2⟩
    exact Rat.ext h1 (by omega)
  · rintro rfl; exact ⟨rfl, rfl⟩
theorem neP {ρ : DL.Env} {M : Mem} {f g : Sm Ev} {a b : Rat} (h1 : f ρ M = .ok (.d (pr a)) M) (h2 : g ρ M = .ok (.d (pr b)) M) : tCmpE (opEq true) f g ρ M = .ok (!decide (a = b)) M := by
  refine q_cmp ?_
  rw [q_bin h1 h2]
  simp [opEq, eqR_pr]
theorem q_drop {ρ : DL.Env} {M M' : Mem} {f : Sm Ev} {x : Ev} (h : f ρ M = .ok x M') : sDrop f ρ M = .nx ρ M' := by simp only [sDrop, sE, h]
/-! signs -/
def envS (x : Rat) (u : List Bool) : DL.Env := [some (.d (pr x)), some (.ls .own (u.map lt)), some (.d (po (NB.node u).lo)), some (.d (po (NB.node u).hi)), some (.d (pr (NB.node u).x))]
theorem node_dq {u : List Bool} (h : u.length ≤ 400) : Dq (NB.node u).x ∧ (∀ q, (NB.node u).lo = some q → Dq q) ∧ (∀ q, (NB.node u).hi = some q → Dq q) := by
  have := (NB.node_sh u).bx
  exact ⟨(this _ (.inl rfl)).dq h, fun q e => (this q (.inr (.inl e))).dq h, fun q e => (this q (.inr (.inr e))).dq h⟩
theorem node_lt (u : List Bool) (a b : Rat) (h1 : (NB.node u).lo = some a) (h2 : (NB.node u).hi = some b) : a < b := by
  have := (NB.node_sh u).bd
  have k1 := this.1 a h1
  have k2 := this.2 b h2
  grind
theorem signs_step {u v : List Bool} {b : Bool} {M : Mem} (h : (u ++ b :: v).length ≤ 400) : B2_signs_of (envS (NB.node (u ++ b :: v)).x u) M = .nx (envS (NB.node (u ++ b :: v)).x (u ++ [b])) M := by
  have hlen : u.length + 1 ≤ 400 := by rw [List.length_append, List.length_cons] at h; omega
  have d1 := node_dq (u := u) (by omega)
  have d2 := node_dq (u := u ++ [b]) (by rw [List.length_append, List.length_singleton]; omega)
  have dz := node_dq h
  obtain ⟨y, e, sm⟩ := between_ok (M := M) d2.2.1 d2.2.2 (node_lt (u ++ [b]))
  have ey := sm.uniq (NB.sm_node (u ++ [b]))
  subst ey
  have elo : (NB.node (u ++ [b])).lo = if b then some (NB.node u).x else (NB.node u).lo := by rw [NB.node_snoc, NB.step_lo]
  have ehi : (NB.node (u ++ [b])).hi = if b then (NB.node u).hi else some (NB.node u).x := by rw [NB.node_snoc, NB.step_hi]
  have up := NB.up_lt u v
  have dn := NB.dn_lt u v
  generalize hz : (NB.node (u ++ b :: v)).x = z at *
  have v4 : eVar 4 (envS z u) M = .ok (.d (pr (NB.node u).x)) M := rfl
  have v0 : eVar 0 (envS z u) M = .ok (.d (pr z)) M := rfl
  have tl := truV (q_call (n := 2) (q_cons2 v4 v0) rfl rfl (lessQ (M := M) d1.1 dz.1))
  have hm : (u.map lt).length < most := by rw [List.length_map]; unfold most; omega
  have fin : ∀ ρ : DL.Env, At ρ 2 (.d (po (NB.node (u ++ [b])).lo)) → At ρ 3 (.d (po (NB.node (u ++ [b])).hi)) → 4 < ρ.length → sAsg 4 (eCall 2 F_between_of (aCons (eVar 2) (aCons (eVar 3) aNil))) ρ M = .nx (ρ.set 4 (some (.d (pr (NB.node (u ++ [b])).x)))) M := fun ρ h2 h3 hl =>
    q_set (q_call (n := 2) (q_cons2 (v_po h2) (v_po h3)) rfl rfl e) rfl hl
  cases b
  · have : ¬ (NB.node u).x < z := by rw [← hz]; grind
    rw [decide_eq_false this] at tl
    have s1 : (sSeq (sApp 1 (eC (.str "R"))) (sAsg 3 (eVar 4))) (envS z u) M = .nx [some (.d (pr z)), some (.ls .own (u.map lt ++ [lt false])), some (.d (po (NB.node u).lo)), some (.d (pr (NB.node u).x)), some (.d (pr (NB.node u).x))] M := by
      have w1 : sApp 1 (eC (.str "R")) (envS z u) M = .nx [some (.d (pr z)), some (.ls .own (u.map lt ++ [lt false])), some (.d (po (NB.node u).lo)), some (.d (po (NB.node u).hi)), some (.d (pr (NB.node u).x))] M := by
        show (if (u.map lt).length < most then _ else _) = _
        rw [if_pos hm]; rfl
      rw [q_nx w1]; rfl
    have hs := fin [some (.d (pr z)), some (.ls .own (u.map lt ++ [lt false])), some (.d (po (NB.node u).lo)), some (.d (pr (NB.node u).x)), some (.d (pr (NB.node u).x))] (by rw [elo]; rfl) (by rw [ehi]; rfl) (show 4 < 5 by decide)
    rw [B2_signs_of, q_nx ((q_if0 tl).trans s1), hs]
    show SR.nx [_, _, _, _, _] M = _
    unfold envS
    rw [List.map_append, elo, ehi]; rfl
  · have : (NB.node u).x < z := by rw [← hz]; grind
    rw [decide_eq_true this] at tl
    have s1 : (sSeq (sApp 1 (eC (.str "L"))) (sAsg 2 (eVar 4))) (envS z u) M = .nx [some (.d (pr z)), some (.ls .own (u.map lt ++ [lt true])), some (.d (pr (NB.node u).x)), some (.d (po (NB.node u).hi)), some (.d (pr (NB.node u).x))] M := by
      have w1 : sApp 1 (eC (.str "L")) (envS z u) M = .nx [some (.d (pr z)), some (.ls .own (u.map lt ++ [lt true])), some (.d (po (NB.node u).lo)), some (.d (po (NB.node u).hi)), some (.d (pr (NB.node u).x))] M := by
        show (if (u.map lt).length < most then _ else _) = _
        rw [if_pos hm]; rfl
      rw [q_nx w1]; rfl
    have hs := fin [some (.d (pr z)), some (.ls .own (u.map lt ++ [lt true])), some (.d (pr (NB.node u).x)), some (.d (po (NB.node u).hi)), some (.d (pr (NB.node u).x))] (by rw [elo]; rfl) (by rw [ehi]; rfl) (show 4 < 5 by decide)
    rw [B2_signs_of, q_nx ((q_if1 tl).trans s1), hs]
    show SR.nx [_, _, _, _, _] M = _
    unfold envS
    rw [List.map_append, elo, ehi]; rfl
theorem signs_of_ok {w : List Bool} {M : Mem} (h : w.length ≤ 400) : F_signs_of [.d (pr (NB.node w).x)] M = .ok (.str (ws w)) M := by
  unfold F_signs_of; rw [fnOf_eq]
  show fnEnd (S_signs_of [some (.d (pr (NB.node w).x)), none, none, none, none] M) = _
  have s1 : T1_signs_of [some (.d (pr (NB.node w).x)), none, none, none, none] M = .nx (envS (NB.node w).x []) M := rfl
  obtain ⟨ρ', M', e, e1, e2⟩ := sWhile_inv (tc := tCmpE (opEq true) (eVar 4) (eVar 0)) (f := B2_signs_of)
    (fun m ρ M' => M' = M ∧ ∃ u v, w = u ++ v ∧ ρ = envS (NB.node w).x u ∧ m = v.length)
    (fun ρ M' => ρ = envS (NB.node w).x w ∧ M' = M)
    (fun m ρ M' ⟨h1, u, v, h2, h3, h4⟩ => by
      subst h1 h3 h4
      have t : tCmpE (opEq true) (eVar 4) (eVar 0) (envS (NB.node w).x u) M' = .ok (!decide ((NB.node u).x = (NB.node w).x)) M' := neP rfl rfl
      cases v with
      | nil =>
        rw [List.append_nil] at h2
        subst h2
        rw [decide_eq_true rfl] at t
        exact .inl ⟨M', t, rfl, rfl⟩
      | cons b v =>
        subst h2
        have ne : (NB.node u).x ≠ (NB.node (u ++ b :: v)).x := fun z => by
          have := congrArg List.length (NB.node_inj z)
          rw [List.length_append, List.length_cons] at this; omega
        rw [decide_eq_false ne] at t
        exact .inr ⟨M', _, M', v.length, t, signs_step h, by simp, rfl, u ++ [b], v, by simp, rfl, rfl⟩) 1000 w.length (envS (NB.node w).x []) M (by omega) ⟨rfl, [], w, rfl, rfl, rfl⟩
  subst e1 e2
  have s4 : T4_signs_of (envS (NB.node w).x w) M' = .rt (.str (ws w)) M' := by
    have j := joinO_ws (w := w) (y := .ls .vw (w.map lt)) rfl (by omega)
    refine q_ret (x := .d (.str (ws w))) ?_ rfl
    have v1 : eVar 1 (envS (NB.node w).x w) M' = .ok (.ls .vw (w.map lt)) M' := rfl
    rw [ws_0]
    simp only [eJoin, eC, bnd, v1, j]
  rw [S_signs_of, q_nx s1, q_nx (show T3_signs_of _ _ = _ from e), s4]
  rfl
end K08

set_option Elab.async false
set_option linter.all false
set_option maxRecDepth 100000
set_option maxHeartbeats 4000000
/-! law k08, plainly: signs, days, middles; the law's own walk. -/
namespace K08
open PySem PySem.Spec PyProof.Rows L2 DL
open NB (Bn Dq)
section
variable {ρ : DL.Env} {M : Mem} {q : Rat} {i : Nat}
theorem ix0 {a b : Int} (h : At ρ i (.d (prI a b))) : eBin opIx (eVar i) (eC (.int 0)) ρ M = .ok (.d (.int a)) M := by
  rw [q_bin h.v rfl]; simp [look, opIx, seqOf, at_0]
theorem ix1 {a b : Int} (h : At ρ i (.d (prI a b))) : eBin opIx (eVar i) (eC (.int 1)) ρ M = .ok (.d (.int b)) M := by
  rw [q_bin h.v rfl]; simp [look, opIx, seqOf, at_1]
end
theorem shl400 {q : Rat} (h : Dq q) {ρ : DL.Env} {M : Mem} {f : Sm Ev} (hf : f ρ M = .ok (.d (.int (q.den : Int))) M) : tCmpE opGt f (eBin opShl (eC (.int 1)) (eC (.int 400))) ρ M = .ok false M := by
  have c : CShl 1 400 := by unfold CShl; decide +kernel
  have e : eBin opShl (eC (.int 1)) (eC (.int 400)) ρ M = .ok (.d (.int (1 * 2 ^ (400 : Int).toNat))) M := by
    show (if CShl 1 400 then R.ok (Ev.d (D.int (1 * 2 ^ (400 : Int).toNat))) M else R.stuck) = _
    rw [if_pos c]
  refine q_cmp ?_
  rw [q_bin hf e]
  show R.ok (bv (decide (_ < _))) M = _
  obtain ⟨⟨m, h1, h2⟩, _⟩ := h
  have h3 : 2 ^ m ≤ 2 ^ (400 : Int).toNat := Nat.pow_le_pow_right (by omega) (by have : (400 : Int).toNat = 400 := rfl; omega)
  have h4 : ((q.den : Nat) : Int) ≤ ((2 ^ (400 : Int).toNat : Nat) : Int) := by rw [h2]; exact Int.ofNat_le.mpr h3
  have h5 : ((2 ^ (400 : Int).toNat : Nat) : Int) = 1 * 2 ^ (400 : Int).toNat := by rw [Int.one_mul]; exact Int.natCast_pow 2 _
  rw [h5] at h4
  rw [decide_eq_false (Int.not_lt.mpr h4)]
theorem signs_ok {w : List Bool} {M : Mem} (h : w.length ≤ 400) : F_signs [.d (pr (NB.node w).x)] M = .ok (.str (ws w)) M := by
  have hd := (NB.node_bx w).dq h
  have hs := signs_of_ok (M := M) h
  obtain ⟨⟨m, h1, h2⟩, h3⟩ := hd
  have hb := bn_den ⟨⟨m, h1, h2⟩, h3⟩
  have key := NB.sn_node w h2
  have hq := NB.den_pos (NB.node w).x
  have hhalf := half_number_ok (q := (NB.node w).x) ⟨⟨m, h1, h2⟩, h3⟩ M
  unfold F_signs; rw [fnOf_eq]
  have a0 : At [some (.d (pr (NB.node w).x))] 0 (.d (prI (NB.node w).x.num ((NB.node w).x.den : Int))) := rfl
  have sh := shl400 (q := (NB.node w).x) ⟨⟨m, h1, h2⟩, h3⟩ (ix1 (M := M) a0)
  show fnEnd (S_signs [some (.d (pr (NB.node w).x))] M) = _
  generalize (NB.node w).x = q at *
  have t2 : tCmpE opGt (eBin opDiv (eB bAbs (aCons (eBin opIx (eVar 0) (eC (.int 0))) aNil)) (eBin opIx (eVar 0) (eC (.int 1)))) (eC (.int 400)) [some (.d (pr q))] M = .ok false M := by
    have e1 : eB bAbs (aCons (eBin opIx (eVar 0) (eC (.int 0))) aNil) [some (.d (pr q))] M = .ok (.d (.int (q.num.natAbs : Int))) M := by
      rw [q_B (q_cons1 (ix0 a0))]
      simp [bAbs, abs_if]
    have cd : cDiv (q.num.natAbs : Int) (q.den : Int) := cdB hq hb (by omega)
    have e2 : eBin opDiv (eB bAbs (aCons (eBin opIx (eVar 0) (eC (.int 0))) aNil)) (eBin opIx (eVar 0) (eC (.int 1))) [some (.d (pr q))] M = .ok (.d (.int ((q.num.natAbs : Int) / (q.den : Int)))) M := by
      rw [q_bin e1 (ix1 a0)]
      simp only [opDiv, if_pos cd]
    refine q_cmp ?_
    rw [q_bin e2 rfl]
    show R.ok (bv (decide ((400 : Int) < (q.num.natAbs : Int) / (q.den : Int)))) M = _
    rw [h2]
    rw [decide_eq_false]
    have : (0 : Int) ≤ (if 0 < (q.num.natAbs : Int) % ((2 ^ m : Nat) : Int) then 1 else 0) := by split <;> omega
    omega
  have s1 : T1_signs [some (.d (pr q))] M = .nx [some (.d (pr q))] M := by
    refine q_skip ?_
    rw [q_or0 (q_not (truV (q_call (n := 1) (q_cons1 (show eVar 0 _ M = .ok (.d (pr q)) M from rfl)) rfl rfl hhalf))), q_or0 t2]
    exact sh
  rw [S_signs, q_nx s1, T2_signs, q_ret (q_call (n := 1) (q_cons1 (show eVar 0 _ M = .ok (.d (pr q)) M from rfl)) rfl rfl hs) rfl]
  rfl
theorem born_ok {w : List Bool} {M : Mem} (hd : Dq (NB.node w).x) : F_born_on [.d (pr (NB.node w).x)] M = .ok (.int (w.length : Int)) M := by
  have hs := signs_number_ok hd M
  have hhalf := half_number_ok hd M
  unfold F_born_on; rw [fnOf_eq]
  have a0 : At [some (.d (pr (NB.node w).x))] 0 (.d (prI (NB.node w).x.num ((NB.node w).x.den : Int))) := rfl
  have sh := shl400 hd (ix1 (M := M) a0)
  show fnEnd (S_born_on [some (.d (pr (NB.node w).x))] M) = _
  generalize (NB.node w).x = q at *
  have s1 : T1_born_on [some (.d (pr q))] M = .nx [some (.d (pr q))] M := by
    refine q_skip ?_
    rw [q_or0 (q_not (truV (q_call (n := 1) (q_cons1 (show eVar 0 _ M = .ok (.d (pr q)) M from rfl)) rfl rfl hhalf)))]
    exact sh
  rw [S_born_on, q_nx s1, T2_born_on, q_ret (q_call (n := 1) (q_cons1 (show eVar 0 _ M = .ok (.d (pr q)) M from rfl)) rfl rfl hs) rfl]
  rfl
/-! middles -/
theorem add_q (a b : Rat) : ((a.num * (b.den : Int) + b.num * (a.den : Int) : Int) : Rat) / (((a.den : Int) * (b.den : Int) : Int) : Rat) = a + b := by
  rw [Rat.add_def', Rat.mkRat_eq_div]
  rfl
theorem half_q (q : Rat) : (q.num : Rat) / ((2 * (q.den : Int) : Int) : Rat) = q / 2 := by
  have h := NB.nd q
  have hd := NB.denr_pos q
  have e : (q.num : Rat) = (q / 2) * ((2 * (q.den : Int) : Int) : Rat) := by
    rw [Rat.intCast_mul]
    have : ((2 : Int) : Rat) = 2 := rfl
    rw [this]
    grind
  rw [e, Rat.mul_div_cancel]
  rw [Rat.intCast_mul]
  have : ((2 : Int) : Rat) = 2 := rfl
  rw [this]
  grind
theorem mid_q (a b : Rat) : ((a.num * (b.den : Int) + b.num * (a.den : Int) : Int) : Rat) / ((2 * (a.den : Int) * (b.den : Int) : Int) : Rat) = (a + b) / 2 := by
  have h := add_q a b
  have ha := NB.den_pos a
  have hb := NB.den_pos b
  have hd : (0 : Rat) < (((a.den : Int) * (b.den : Int) : Int) : Rat) := Rat.intCast_pos.mpr (Int.mul_pos ha hb)
  have e2 : ((2 * (a.den : Int) * (b.den : Int) : Int) : Rat) = 2 * (((a.den : Int) * (b.den : Int) : Int) : Rat) := by
    rw [Int.mul_assoc, Rat.intCast_mul 2]; rfl
  have e : ((a.num * (b.den : Int) + b.num * (a.den : Int) : Int) : Rat) = (a + b) * (((a.den : Int) * (b.den : Int) : Int) : Rat) := by
    rw [← h, Rat.div_mul_cancel (by grind)]
  generalize (((a.den : Int) * (b.den : Int) : Int) : Rat) = d at *
  rw [e2, e]
  have : (a + b) * d = (a + b) / 2 * (2 * d) := by grind
  rw [this, Rat.mul_div_cancel (by grind)]
theorem cmD {a b : Rat} (ha : Dq a) (hb : Dq b) : cMul (a.den : Int) (b.den : Int) := cmB (bn_den ha) (bn_den hb) (by omega)
theorem bnD {a b : Rat} (ha : Dq a) (hb : Dq b) : Bn 802 ((a.den : Int) * (b.den : Int)) := Bn.mul (bn_den ha) (bn_den hb)
theorem bnN {a b : Rat} (ha : Dq a) (hb : Dq b) : Bn 822 (a.num * (b.den : Int) + b.num * (a.den : Int)) := Bn.add (Bn.mul ha.2 (bn_den hb)) (Bn.mul hb.2 (bn_den ha))
theorem plus_ok {a b : Rat} {M : Mem} (ha : Dq a) (hb : Dq b) : F_plus [.d (pr a), .d (pr b)] M = .ok (pr (a + b)) M := by
  have fr := frac_ok (a := a.num * (b.den : Int) + b.num * (a.den : Int)) (b := (a.den : Int) * (b.den : Int)) (M := M) (Int.mul_pos (NB.den_pos a) (NB.den_pos b)) (bnD ha hb) (by omega)
  rw [add_q] at fr
  unfold F_plus; rw [fnOf_eq]
  have c1 := cm2 ha hb
  have c2 := cm2 hb ha
  have c3 := cmD ha hb
  have a0 : At [some (.d (pr a)), some (.d (pr b))] 0 (.d (prI a.num (a.den : Int))) := rfl
  have a1 : At [some (.d (pr a)), some (.d (pr b))] 1 (.d (prI b.num (b.den : Int))) := rfl
  show fnEnd (S_plus [some (.d (pr a)), some (.d (pr b))] M) = _
  have x1 : eBin opMulA (eBin opIx (eVar 0) (eC (.int 0))) (eBin opIx (eVar 1) (eC (.int 1))) [some (.d (pr a)), some (.d (pr b))] M = .ok (.d (.int (a.num * (b.den : Int)))) M := by
    rw [q_bin (ix0 a0) (ix1 a1)]; simp only [opMulA, opMul, if_pos c1]
  have x2 : eBin opMulA (eBin opIx (eVar 1) (eC (.int 0))) (eBin opIx (eVar 0) (eC (.int 1))) [some (.d (pr a)), some (.d (pr b))] M = .ok (.d (.int (b.num * (a.den : Int)))) M := by
    rw [q_bin (ix0 a1) (ix1 a0)]; simp only [opMulA, opMul, if_pos c2]
  have x3 : eBin opMulA (eBin opIx (eVar 0) (eC (.int 1))) (eBin opIx (eVar 1) (eC (.int 1))) [some (.d (pr a)), some (.d (pr b))] M = .ok (.d (.int ((a.den : Int) * (b.den : Int)))) M := by
    rw [q_bin (ix1 a0) (ix1 a1)]; simp only [opMulA, opMul, if_pos c3]
  have x4 := (q_bin (o := opAdd) x1 x2).trans (show _ = R.ok (.d (.int (a.num * (b.den : Int) + b.num * (a.den : Int)))) M from rfl)
  rw [S_plus, T1_plus, q_ret (q_call (n := 2) (q_cons2 x4 x3) rfl rfl fr) rfl]
  rfl
theorem half_ok {q : Rat} {M : Mem} (h : Bn 803 (q.den : Int)) : F_half_of [.d (pr q)] M = .ok (pr (q / 2)) M := by
  have hb : Bn 1300 (2 * (q.den : Int)) := Bn.mono (Bn.mul (n := 2) (m := 803) (by unfold Bn; decide) h) (by omega)
  have hp := NB.den_pos q
  have fr := frac_ok (a := q.num) (b := 2 * (q.den : Int)) (M := M) (by omega) hb (by omega)
  rw [half_q] at fr
  unfold F_half_of; rw [fnOf_eq]
  have c1 : cMul 2 (q.den : Int) := cmB (show Bn 2 2 by unfold Bn; decide) h (by omega)
  have a0 : At [some (.d (pr q))] 0 (.d (prI q.num (q.den : Int))) := rfl
  show fnEnd (S_half_of [some (.d (pr q))] M) = _
  have x1 : eBin opMulA (eC (.int 2)) (eBin opIx (eVar 0) (eC (.int 1))) [some (.d (pr q))] M = .ok (.d (.int (2 * (q.den : Int)))) M := by
    rw [q_bin rfl (ix1 a0)]; simp only [opMulA, opMul, if_pos c1]
  rw [S_half_of, T1_half_of, q_ret (q_call (n := 2) (q_cons2 (ix0 a0) x1) rfl rfl fr) rfl]
  rfl
theorem middle_ok {a b : Rat} {M : Mem} (ha : Dq a) (hb : Dq b) (hs : Bn 803 ((a + b).den : Int)) : F_middle_of [.d (pr a), .d (pr b)] M = .ok (pr ((a + b) / 2)) M := by
  unfold F_middle_of; rw [fnOf_eq]
  have s2 : T2_middle_of [some (.d (pr a)), some (.d (pr b)), none] M = .nx [some (.d (pr a)), some (.d (pr b)), some (.d (pr b))] M := by
    have it : iSeq false (eTup (aCons (eVar 0) (aCons (eVar 1) aNil))) [some (.d (pr a)), some (.d (pr b)), none] M = .ok [pr a, pr b] M := rfl
    have body : ∀ (q : Rat), Dq q → B1_middle_of [some (.d (pr a)), some (.d (pr b)), some (.d (pr q))] M = .nx [some (.d (pr a)), some (.d (pr b)), some (.d (pr q))] M := fun q hq => by
      refine q_skip ?_
      rw [q_not (truV (q_call (n := 1) (q_cons1 (show eVar 2 _ M = .ok (.d (pr q)) M from rfl)) rfl rfl (half_number_ok hq M)))]
      rfl
    refine q_for it ?_
    have t1 : tgE (.one 2) [some (.d (pr a)), some (.d (pr b)), none] (pr a) = some [some (.d (pr a)), some (.d (pr b)), some (.d (pr a))] := rfl
    have t2 : tgE (.one 2) [some (.d (pr a)), some (.d (pr b)), some (.d (pr a))] (pr b) = some [some (.d (pr a)), some (.d (pr b)), some (.d (pr b))] := rfl
    simp only [forL, t1, body a ha, t2, body b hb]
  have pl := plus_ok (M := M) ha hb
  have hf := half_ok (M := M) hs
  show fnEnd (S_middle_of [some (.d (pr a)), some (.d (pr b)), none] M) = _
  have v0 : eVar 0 [some (.d (pr a)), some (.d (pr b)), some (.d (pr b))] M = .ok (.d (pr a)) M := rfl
  have v1 : eVar 1 [some (.d (pr a)), some (.d (pr b)), some (.d (pr b))] M = .ok (.d (pr b)) M := rfl
  rw [S_middle_of, q_nx s2, T3_middle_of, q_ret (q_call (n := 1) (q_cons1 (q_call (n := 2) (q_cons2 v0 v1) rfl rfl pl)) rfl rfl hf) rfl]
  rfl
/-! the law's own -/
theorem law_frac_ok {a b : Int} {n : Nat} {M : Mem} (h0 : 0 < b) (hb : Bn n b) (hn : n ≤ 1300) : F__law_frac [.d (.int a), .d (.int b)] M = .ok (pr ((a : Rat) / (b : Rat))) M := by
  obtain ⟨g1, g2⟩ := gcd_pos (a := a) h0
  have hg : Bn n (Int.gcd a b : Int) := by unfold Bn at *; omega
  have c1 : ∀ i, cDiv i (Int.gcd a b : Int) := fun i => cdB g1 hg (by omega)
  obtain ⟨d1, d2⟩ := NB.nd_div (a := a) h0
  rw [Int.gcd_comm] at d1 d2
  unfold F__law_frac; rw [fnOf_eq]
  have e1 : T1__law_frac [some (.d (.int a)), some (.d (.int b)), none, none] M = .nx [some (.d (.int a)), some (.d (.int b)), some (.d (.int (a.natAbs : Int))), some (.d (.int (b.natAbs : Int)))] M := by
    have eb : (b.natAbs : Int) = b := by omega
    simp [T1__law_frac, sPar, sE, aCons, aNil, eB, eVar, look, bnd, bAbs, stors, stor, setEvs, abs_if, eb]
  obtain ⟨ρ', M', e2, x, y, e3, e4, e5⟩ := sWhile_inv (tc := tCmpE opGt (eVar 3) (eC (.int 0))) (f := B2__law_frac)
    (fun m ρ M' => ∃ x y : Nat, ρ = [some (.d (.int a)), some (.d (.int b)), some (.d (.int x)), some (.d (.int y))] ∧ M' = M ∧ Nat.gcd x y = Int.gcd a b ∧ m = y) (fun ρ M' => ∃ x y : Nat, ρ = [some (.d (.int a)), some (.d (.int b)), some (.d (.int x)), some (.d (.int y))] ∧ M' = M ∧ x = Int.gcd a b)
    (fun m ρ M' ⟨x, y, h1, h2, h3, h4⟩ => by
      subst h1 h2 h4
      by_cases h0 : m = 0
      · subst h0
        refine .inl ⟨M', ?_, x, 0, rfl, rfl, by simpa using h3⟩
        simp [tCmpE, asB, eBin, eVar, look, eC, bnd, opI2]
      · refine .inr ⟨M', [some (.d (.int a)), some (.d (.int b)), some (.d (.int m)), some (.d (.int ((x % m : Nat) : Int)))], M', x % m, ?_, ?_, Nat.mod_lt _ (by omega), m, x % m, rfl, rfl, ?_, rfl⟩
        · simp [tCmpE, asB, eBin, eVar, look, eC, bnd, opI2]; omega
        · have : 0 < m := by omega
          simp [B2__law_frac, sPar, sE, eB, aCons, aNil, eBin, eVar, look, bnd, bInt, opMod, this, stors, stor, setEvs]
        · rw [← h3, Nat.gcd_comm x m, Nat.gcd_rec m x, Nat.gcd_comm]) _ b.natAbs [some (.d (.int a)), some (.d (.int b)), some (.d (.int (a.natAbs : Int))), some (.d (.int (b.natAbs : Int)))] M (big_lt hb hn) ⟨a.natAbs, b.natAbs, rfl, rfl, rfl, rfl⟩
  subst e3 e4 e5
  have e6 : T4__law_frac [some (.d (.int a)), some (.d (.int b)), some (.d (.int (Int.gcd a b : Int))), some (.d (.int (y : Int)))] M' = .rt (pr ((a : Rat) / (b : Rat))) M' := by
    simp [T4__law_frac, sRet, sE, eTup, aCons, aNil, eBin, eVar, look, bnd, opDiv, c1, datas, most, retD, pr, d1, d2]
  show fnEnd (S__law_frac [some (.d (.int a)), some (.d (.int b)), none, none] M') = _
  rw [S__law_frac, q_nx e1, q_nx (show T3__law_frac _ _ = _ from e2), e6]
  rfl
end K08

set_option Elab.async false
set_option linter.all false
set_option maxRecDepth 100000
set_option maxHeartbeats 4000000
/-! law k08, plainly: the law's own walk. -/
namespace K08
open PySem PySem.Spec PyProof.Rows L2 DL
open NB (Bn Dq)
theorem den1 {q : Rat} (h : q.den = 1) : q = (q.num : Rat) := Rat.ext (by simp) (by simp [h])
theorem step_cases {s : NB.St} {n : Nat} (h : NB.Sh s n) (b : Bool) :
    (∃ l u, (NB.step b s).lo = some l ∧ (NB.step b s).hi = some u ∧ (NB.step b s).x = (l + u) / 2) ∨ (((NB.step b s).lo = none ∨ (NB.step b s).hi = none) ∧ s.x.den = 1 ∧ (NB.step b s).x = s.x + ((if b then 1 else -1 : Int) : Rat)) := by
  obtain ⟨x, lo, hi⟩ := s
  cases h with
  | mid h1 h2 h3 h4 =>
    simp only at h1 h2 h3; subst h1 h2 h3
    refine .inr ⟨?_, rfl, ?_⟩
    · cases b
      · exact .inl rfl
      · exact .inr rfl
    · cases b <;> simp [NB.step]
  | pos k h0 h1 h2 h3 h4 =>
    simp only at h1 h2 h3; subst h1 h2 h3
    cases b
    · exact .inl ⟨_, _, rfl, rfl, rfl⟩
    · refine .inr ⟨.inr rfl, ?_, by simp [NB.step]⟩
      have : (k : Rat) + 1 = ((k + 1 : Int) : Rat) := by simp
      rw [this]; rfl
  | neg k h0 h1 h2 h3 h4 =>
    simp only at h1 h2 h3; subst h1 h2 h3
    cases b
    · refine .inr ⟨.inl rfl, ?_, by simp [NB.step]⟩
      have : -((k : Rat) + 1) = ((-(k + 1) : Int) : Rat) := by simp
      rw [this]; rfl
    · exact .inl ⟨_, _, rfl, rfl, rfl⟩
  | fr t j k h1 h2 h3 h4 h0 h5 h6 =>
    simp only at h1 h2 h3; subst h1 h2 h3
    cases b
    · exact .inl ⟨_, _, rfl, rfl, rfl⟩
    · exact .inl ⟨_, _, rfl, rfl, rfl⟩
def sides (s : NB.St) : D := .tup [po s.lo, po s.hi]
def stD (s : NB.St) : D := .tup [pr s.x, sides s]
section
variable {ρ : DL.Env} {M : Mem} {i : Nat}
theorem ixT0 {a b : D} (h : At ρ i (.d (.tup [a, b]))) : eBin opIx (eVar i) (eC (.int 0)) ρ M = .ok (.d a) M := by
  rw [q_bin h.v rfl]; simp [look, opIx, seqOf, at_0]
theorem ixT1 {a b : D} (h : At ρ i (.d (.tup [a, b]))) : eBin opIx (eVar i) (eC (.int 1)) ρ M = .ok (.d b) M := by
  rw [q_bin h.v rfl]; simp [look, opIx, seqOf, at_1]
theorem tup2 {f g : Sm Ev} {a b : D} (h1 : f ρ M = .ok (.d a) M) (h2 : g ρ M = .ok (.d b) M) : eTup (aCons f (aCons g aNil)) ρ M = .ok (.d (.tup [a, b])) M := by
  simp [eTup, q_cons2 h1 h2, bnd, datas, most]
end
theorem moved_ok {u : List Bool} {b : Bool} {M : Mem} (h : u.length ≤ 399) : F__law_moved [.d (pr (NB.node u).x), .d (sides (NB.node u)), .d (.bl b)] M = .ok (stD (NB.node (u ++ [b]))) M := by
  have d2 := node_dq (u := u ++ [b]) (by rw [List.length_append, List.length_singleton]; omega)
  have hc := step_cases (NB.node_sh u) b
  rw [NB.node_snoc] at *
  have elo := NB.step_lo b (NB.node u)
  have ehi := NB.step_hi b (NB.node u)
  generalize NB.node u = s at *
  unfold F__law_moved; rw [fnOf_eq]
  show fnEnd (S__law_moved [some (.d (pr s.x)), some (.d (sides s)), some (.d (.bl b)), none, none] M) = _
  have s1 : T1__law_moved [some (.d (pr s.x)), some (.d (sides s)), some (.d (.bl b)), none, none] M = .nx [some (.d (pr s.x)), some (.d (sides s)), some (.d (.bl b)), some (.d (po (NB.step b s).lo)), some (.d (po (NB.step b s).hi))] M := by
    rw [elo, ehi]
    have v0 : eVar 0 [some (.d (pr s.x)), some (.d (sides s)), some (.d (.bl b)), none, none] M = .ok (.d (pr s.x)) M := rfl
    have a1 : At [some (.d (pr s.x)), some (.d (sides s)), some (.d (.bl b)), none, none] 1 (.d (.tup [po s.lo, po s.hi])) := rfl
    have t1 := tup2 v0 (ixT1 (M := M) a1)
    have t2 := tup2 (ixT0 (M := M) a1) v0
    cases b
    · have e : eIf (tTru (eVar 2)) (eTup (aCons (eVar 0) (aCons (eBin opIx (eVar 1) (eC (.int 1))) aNil))) (eTup (aCons (eBin opIx (eVar 1) (eC (.int 0))) (aCons (eVar 0) aNil))) [some (.d (pr s.x)), some (.d (sides s)), some (.d (.bl false)), none, none] M = .ok (.d (.tup [po s.lo, pr s.x])) M := t2
      simp only [T1__law_moved, sAsgT, e, sE]
      rfl
    · have e : eIf (tTru (eVar 2)) (eTup (aCons (eVar 0) (aCons (eBin opIx (eVar 1) (eC (.int 1))) aNil))) (eTup (aCons (eBin opIx (eVar 1) (eC (.int 0))) (aCons (eVar 0) aNil))) [some (.d (pr s.x)), some (.d (sides s)), some (.d (.bl true)), none, none] M = .ok (.d (.tup [pr s.x, po s.hi])) M := t1
      simp only [T1__law_moved, sAsgT, e, sE]
      rfl
  rw [S__law_moved, q_nx s1]
  generalize NB.step b s = s' at *
  have a0 : At [some (.d (pr s.x)), some (.d (sides s)), some (.d (.bl b)), some (.d (po s'.lo)), some (.d (po s'.hi))] 0 (.d (prI s.x.num (s.x.den : Int))) := rfl
  have a3 : At [some (.d (pr s.x)), some (.d (sides s)), some (.d (.bl b)), some (.d (po s'.lo)), some (.d (po s'.hi))] 3 (.d (po s'.lo)) := rfl
  have a4 : At [some (.d (pr s.x)), some (.d (sides s)), some (.d (.bl b)), some (.d (po s'.lo)), some (.d (po s'.hi))] 4 (.d (po s'.hi)) := rfl
  have v2 : eVar 2 [some (.d (pr s.x)), some (.d (sides s)), some (.d (.bl b)), some (.d (po s'.lo)), some (.d (po s'.hi))] M = .ok (.d (.bl b)) M := rfl
  generalize hρ : ([some (.d (pr s.x)), some (.d (sides s)), some (.d (.bl b)), some (.d (po s'.lo)), some (.d (po s'.hi))] : DL.Env) = ρ at *
  have tt := tup2 (v_po (M := M) a3) (v_po a4)
  have t3 := t_none (M := M) a3
  have t4 := t_none (M := M) a4
  rcases hc with ⟨l, r, e1, e2, e3⟩ | ⟨e1, e2, e3⟩
  · rw [e1] at t3; rw [e2] at t4
    have s2 : T2__law_moved ρ M = .nx ρ M := q_skip (by rw [q_or0 t3]; exact t4)
    have dl := d2.2.1 l e1
    have dr := d2.2.2 r e2
    have b3 : At ρ 3 (.d (prI l.num (l.den : Int))) := by rw [e1] at a3; exact a3
    have b4 : At ρ 4 (.d (prI r.num (r.den : Int))) := by rw [e2] at a4; exact a4
    have x1 : eBin opMulA (eBin opIx (eVar 3) (eC (.int 0))) (eBin opIx (eVar 4) (eC (.int 1))) ρ M = .ok (.d (.int (l.num * (r.den : Int)))) M := by
      rw [q_bin (ix0 b3) (ix1 b4)]; simp only [opMulA, opMul, if_pos (cm2 dl dr)]
    have x2 : eBin opMulA (eBin opIx (eVar 4) (eC (.int 0))) (eBin opIx (eVar 3) (eC (.int 1))) ρ M = .ok (.d (.int (r.num * (l.den : Int)))) M := by
      rw [q_bin (ix0 b4) (ix1 b3)]; simp only [opMulA, opMul, if_pos (cm2 dr dl)]
    have x4 := (q_bin (o := opAdd) x1 x2).trans (show _ = R.ok (.d (.int (l.num * (r.den : Int) + r.num * (l.den : Int)))) M from rfl)
    have c1 : cMul 2 (l.den : Int) := cmB (show Bn 2 2 by unfold Bn; decide) (bn_den dl) (by omega)
    have h2 : Bn 403 (2 * (l.den : Int)) := Bn.mul (n := 2) (m := 401) (by unfold Bn; decide) (bn_den dl)
    have c2 : cMul (2 * (l.den : Int)) (r.den : Int) := cmB h2 (bn_den dr) (by omega)
    have x5 : eBin opMulA (eC (.int 2)) (eBin opIx (eVar 3) (eC (.int 1))) ρ M = .ok (.d (.int (2 * (l.den : Int)))) M := by
      rw [q_bin rfl (ix1 b3)]; simp only [opMulA, opMul, if_pos c1]
    have x6 : eBin opMulA (eBin opMulA (eC (.int 2)) (eBin opIx (eVar 3) (eC (.int 1)))) (eBin opIx (eVar 4) (eC (.int 1))) ρ M = .ok (.d (.int (2 * (l.den : Int) * (r.den : Int)))) M := by
      rw [q_bin x5 (ix1 b4)]; simp only [opMulA, opMul, if_pos c2]
    have fr := law_frac_ok (a := l.num * (r.den : Int) + r.num * (l.den : Int)) (b := 2 * (l.den : Int) * (r.den : Int)) (M := M) (Int.mul_pos (by have := NB.den_pos l; omega) (NB.den_pos r)) (Bn.mul h2 (bn_den dr)) (by omega)
    rw [mid_q, ← e3] at fr
    have x7 := tup2 (q_call (n := 2) (q_cons2 x4 x6) rfl rfl fr) tt
    rw [q_nx s2, T3__law_moved, q_ret x7 rfl]
    rfl
  · have s2 : T2__law_moved ρ M = .rt (stD s') M := by
      have t : (bOr (tCmpE (opIs false) (eVar 3) (eC .non)) (tCmpE (opIs false) (eVar 4) (eC .non))) ρ M = .ok true M := by
        rcases e1 with e1 | e1
        · rw [e1] at t3; rw [q_or1 t3]
        · rw [e1] at t4
          cases hq : s'.lo.isNone
          · rw [hq] at t3; rw [q_or0 t3, t4]; rfl
          · rw [hq] at t3; rw [q_or1 t3]
      have ei : eIf (tTru (eVar 2)) (eC (.int 1)) (eUn unNeg (eC (.int 1))) ρ M = .ok (.d (.int (if b then 1 else -1))) M := by
        have := truV v2
        cases b
        · simp only [eIf, this, bnd]; rfl
        · simp only [eIf, this, bnd]; rfl
      have x1 := (q_bin (o := opAdd) (ix0 a0) ei).trans (show _ = R.ok (.d (.int (s.x.num + (if b then 1 else -1)))) M from rfl)
      have ep : prI (s.x.num + (if b then 1 else -1)) 1 = pr s'.x := by
        rw [e3, den1 e2, ← Rat.intCast_add]; rfl
      have x2 := tup2 (tup2 x1 (show eC (.int 1) ρ M = .ok (.d (.int 1)) M from rfl)) tt
      rw [show D.tup [D.int (s.x.num + (if b then 1 else -1)), D.int 1] = pr s'.x from ep] at x2
      rw [T2__law_moved, q_if1 t, q_ret x2 rfl]
      rfl
    rw [q_rt s2]
    rfl
theorem call_moved {ρ : DL.Env} {M : Mem} {u : List Bool} {b : Bool} {i j : Nat} {f : Sm Ev} (hu : u.length ≤ 399) (h1 : At ρ i (.d (pr (NB.node u).x))) (h2 : At ρ j (.d (sides (NB.node u)))) (h3 : f ρ M = .ok (.d (.bl b)) M) (hi : i < ρ.length) (hj : j < ρ.length) (hij : i ≠ j) :
    sAsgT (.many [i, j]) (eCall 3 F__law_moved (aCons (eVar i) (aCons (eVar j) (aCons f aNil)))) ρ M = .nx ((ρ.set i (some (.d (pr (NB.node (u ++ [b])).x)))).set j (some (.d (sides (NB.node (u ++ [b])))))) M := by
  have e := q_call (n := 3) (q_cons h1.v (q_cons2 h2.v h3)) rfl rfl (moved_ok (b := b) (M := M) hu)
  simp only [sAsgT, e, sE]
  simp [stD, tgE, hi, hj, setAllE]
/-! the number of a word -/
theorem number_by_ok {w : List Bool} {M : Mem} (h : w.length ≤ 400) : F__law_number_by [.d (.str (ws w))] M = .ok (stD (NB.node w)) M := by
  unfold F__law_number_by; rw [fnOf_eq]
  show fnEnd (S__law_number_by [some (.d (.str (ws w))), none, none, none] M) = _
  have s1 : T1__law_number_by [some (.d (.str (ws w))), none, none, none] M = .nx [some (.d (.str (ws w))), some (.d (pr (NB.node []).x)), some (.d (sides (NB.node []))), none] M := rfl
  obtain ⟨ρ', M', e, e1, o, e2⟩ := forL_inv (g := .one 3) (f := B2__law_number_by) (fun k ρ M' => M' = M ∧ ∃ o, ρ = [some (.d (.str (ws w))), some (.d (pr (NB.node (w.take k)).x)), some (.d (sides (NB.node (w.take k)))), o]) (w.map lt) 0 [some (.d (.str (ws w))), some (.d (pr (NB.node []).x)), some (.d (sides (NB.node []))), none] M
    (fun i d ρ M' hd ⟨h1, o, h2⟩ => by
      subst h1 h2
      rw [List.getElem?_map] at hd
      cases hb : w[i]? with
      | none => rw [hb] at hd; cases hd
      | some b =>
        rw [hb] at hd
        have ed : d = lt b := by cases hd; rfl
        subst ed
        have hi := (List.getElem?_eq_some_iff.mp hb).1
        have et : w.take (i + 1) = w.take i ++ [b] := by rw [List.take_add_one, hb]; rfl
        rw [Nat.zero_add]
        refine ⟨[some (.d (.str (ws w))), some (.d (pr (NB.node (w.take i)).x)), some (.d (sides (NB.node (w.take i)))), some (.d (lt b))], _, M', rfl, ?_, rfl, some (.d (lt b)), rfl⟩
        have eq : eBin (opEq false) (eVar 3) (eC (.str "L")) [some (.d (.str (ws w))), some (.d (pr (NB.node (w.take i)).x)), some (.d (sides (NB.node (w.take i)))), some (.d (lt b))] M' = .ok (.d (.bl b)) M' := by
          cases b <;> rfl
        rw [B2__law_number_by, call_moved (ρ := [some (.d (.str (ws w))), some (.d (pr (NB.node (w.take i)).x)), some (.d (sides (NB.node (w.take i)))), some (.d (lt b))]) (i := 1) (j := 2) (u := w.take i) (b := b) (by rw [List.length_take]; omega) rfl rfl eq (show 1 < 4 by decide) (show 2 < 4 by decide) (by decide), et]
        rfl) ⟨rfl, none, rfl⟩
  subst e1 e2
  rw [List.length_map, Nat.zero_add, List.take_length] at e
  have it : iStrS (eVar 0) [some (.d (.str (ws w))), some (.d (pr (NB.node []).x)), some (.d (sides (NB.node []))), none] M' = .ok (w.map lt) M' := by
    have v0 : eVar 0 [some (.d (.str (ws w))), some (.d (pr (NB.node []).x)), some (.d (sides (NB.node []))), none] M' = .ok (.d (.str (ws w))) M' := rfl
    simp only [iStrS, v0, bnd, chars_ws]
  rw [S__law_number_by, q_nx s1, q_nx (show T3__law_number_by _ _ = _ from q_for it e)]
  rfl
end K08

set_option Elab.async false
set_option linter.all false
set_option maxRecDepth 100000
set_option maxHeartbeats 4000000
/-! law k08, plainly: draws; pairs. -/
namespace K08
open PySem PySem.Spec PyProof.Rows L2 DL
open NB (Bn Dq Bx)
theorem Hd.mono {cells : List Int} {B C : Nat} {M : Mem} (h : Hd cells B M) (k : B ≤ C) : Hd cells C M := by
  obtain ⟨p, v, s, c, e, a1, a2, a3, a4, a5, a6⟩ := h.ex
  exact ⟨p, v, s, c, e, a1, a2, a3, a4, a5, by omega⟩
def Cl (cells : List Int) : Prop := ∀ z ∈ cells, 0 ≤ z ∧ Builtin.Int.intBits z ≤ 1048576
section
variable {cells : List Int} {B : Nat} {M : Mem}
theorem kdraw {many : Int} (hc : Cl cells) (h : Hd cells B M) (hB : B ≤ 1000000) (hm : 0 < many) (hm2 : many.natAbs.log2 < 9000) :
    ∃ r M', F__law_draw [.d (.ob 0), .d (.int many)] M = .ok (.int r) M' ∧ 0 ≤ r ∧ r < many ∧ Hd cells (B + 1) M' := draw_ok hc h hB hm hm2
theorem kany {l : List D} (hc : Cl cells) (h : Hd cells B M) (hB : B ≤ 1000000) (hl : 0 < l.length) (hl2 : l.length < 1000000) :
    ∃ d M', F__law_any [.d (.ob 0), .d (.lst l)] M = .ok d M' ∧ d ∈ l ∧ Hd cells (B + 1) M' := any_ok hc h hB hl hl2
theorem kanyLR (hc : Cl cells) (h : Hd cells B M) (hB : B ≤ 1000000) : ∃ b M', F__law_any [.d (.ob 0), .d (.str "LR")] M = .ok (lt b) M' ∧ Hd cells (B + 1) M' := by
  obtain ⟨r, M', e, r0, r1, h'⟩ := kdraw hc h hB (many := 2) (by omega) (by decide)
  have e2 : ∃ b, opIx (.d (.str "LR")) (.d (.int r)) M' = .ok (.d (lt b)) M' := by
    have : r = 0 ∨ r = 1 := by omega
    rcases this with rfl | rfl
    · exact ⟨true, rfl⟩
    · exact ⟨false, rfl⟩
  obtain ⟨b, e2⟩ := e2
  refine ⟨b, M', ?_, h'⟩
  unfold F__law_any; rw [fnOf_eq]
  have v0 : eVar 0 [some (.d (.ob 0)), some (.d (.str "LR"))] M = .ok (.d (.ob 0)) M := rfl
  have v1 : eVar 1 [some (.d (.ob 0)), some (.d (.str "LR"))] M = .ok (.d (.str "LR")) M := rfl
  have v1' : eB bLen (aCons (eVar 1) aNil) [some (.d (.ob 0)), some (.d (.str "LR"))] M = .ok (.d (.int 2)) M := rfl
  show fnEnd (S__law_any [some (.d (.ob 0)), some (.d (.str "LR"))] M) = _
  rw [S__law_any, T1__law_any, q_ret ((q_bin v1 (q_call (n := 2) (q_cons2 v0 v1') rfl rfl e)).trans e2) rfl]
  rfl
end
theorem all_true (m : List D) (M : Mem) : bAll [.d (.lst (m.map fun _ => D.bl true))] M = .ok (bv true) M := by
  have tb : ∀ m : List D, toBls (m.map fun _ => D.bl true) = some (m.map fun _ => true) := by
    intro m
    induction m with
    | nil => rfl
    | cons x m ih => simp [toBls, ih]
  simp [bAll, blsOf, lstOf, tb]
theorem is_eq (n : Nat) : R__law_is n = R_is n := by
  induction n with
  | zero => rfl
  | succ n ih => show fnOf 4 (S__law_is (R__law_is n)) = fnOf 4 (S_is (R_is n)); rw [ih]; rfl
theorem is_pr (n : Nat) (q : Rat) (M : Mem) : R__law_is (n + 2) [.d (pr q), .d (pr q)] M = .ok (.bl true) M := by
  have h := is_tup (n + 1) [.int q.num, .int (q.den : Int)] [.int q.num, .int (q.den : Int)] M rfl (by show 2 ≤ most; unfold most; omega) (fun p hp => by
    rcases List.mem_cons.mp hp with rfl | hp
    · rw [is_int, decide_eq_true rfl]
    · rcases List.mem_cons.mp hp with rfl | hp
      · rw [is_int, decide_eq_true rfl]
      · cases hp)
  have e : ∀ n, R__law_is n = R_is n := by
    intro n
    induction n with
    | zero => rfl
    | succ n ih => show fnOf 4 (S__law_is (R__law_is n)) = fnOf 4 (S_is (R_is n)); rw [ih]; rfl
  rw [e]; exact h
theorem zip_same {α : Type} : ∀ {l : List α} {p : α × α}, p ∈ l.zip l → p.1 = p.2 ∧ p.1 ∈ l
  | [], _, h => by cases h
  | a :: l, p, h => by
    rcases List.mem_cons.mp h with rfl | h
    · exact ⟨rfl, List.mem_cons_self⟩
    · obtain ⟨h1, h2⟩ := zip_same h
      exact ⟨h1, List.mem_cons_of_mem _ h2⟩
theorem q_setNF {ρ : DL.Env} {M M' : Mem} {i : Nat} {f : Sm (List D)} {l : List D} (h : f ρ M = .ok l M') (hi : i < ρ.length) : sSetN i (nF f) ρ M = .nx (ρ.set i (some (.ls .own l))) M' := by
  simp only [sSetN, nF, h, bnd, sE, if_pos hi]
theorem q_appO {ρ : DL.Env} {M : Mem} {i : Nat} {f : Sm Ev} {l : List D} {d : D} (h : f ρ M = .ok (.d d) M) (hi : At ρ i (.ls .own l)) (hl : l.length < most) : sApp i f ρ M = .nx (ρ.set i (some (.ls .own (l ++ [d])))) M := by
  have w : wrt ρ M i = true := by unfold wrt; unfold At at hi; rw [hi]
  unfold At at hi
  simp only [sApp, w, if_true, h, sE, appO, hi, if_pos hl]
theorem q_dropX {ρ : DL.Env} {M M' : Mem} {f : Sm Ev} {c : Str} (h : f ρ M = .exc c none M') : sDrop f ρ M = .exc c none ρ M' := by simp only [sDrop, sE, h]
theorem q_callX {ρ : DL.Env} {M M' M'' : Mem} {F : Fn} {n : Nat} {es : Sm (List Ev)} {xs ys : List Ev} {c : Str} (h : es ρ M = .ok xs M') (hp : DL.passL xs = some ys) (hn : ys.length = n) (hF : F ys M' = .exc c none M'') : eCall n F es ρ M = .exc c none M'' := by simp only [eCall, bnd, h, hp, if_pos hn, hF]
end K08

set_option Elab.async false
set_option linter.all false
set_option maxRecDepth 100000
set_option maxHeartbeats 4000000
/-! law k08, plainly: numbers by words, products, comparisons. -/
namespace K08
open PySem PySem.Spec PyProof.Rows L2 DL
open NB (Bn Dq Bx)
/-! what is told is what is due -/
def Sf (n : Nat) (d : D) : Prop := ∀ M, R_is n [.d d, .d d] M = .ok (.bl true) M
theorem Sf.int (n : Nat) (a : Int) : Sf (n + 1) (.int a) := fun M => by rw [is_int, decide_eq_true rfl]
theorem Sf.str (n : Nat) (a : Str) : Sf (n + 1) (.str a) := fun M => by
  show fnOf 4 (S_is (R_is n)) _ _ = _
  rw [fnOf_eq]
  have v0 : eVar 0 [some (.d (.str a)), some (.d (.str a)), none, none] M = .ok (.d (.str a)) M := rfl
  have v1 : eVar 1 [some (.d (.str a)), some (.d (.str a)), none, none] M = .ok (.d (.str a)) M := rfl
  have t1 := truV (isi2 (b := "tuple") (c := "list") v1 (a := "str") rfl (by decide) (by decide))
  have t2 : (bOr (tCmpE (opIs false) (eVar 1) (eC .non)) (tCmpE (opIs false) (eVar 0) (eC .non))) [some (.d (.str a)), some (.d (.str a)), none, none] M = .ok false M := rfl
  have t3 := neB (isi1 (b := "bool") v0 (a := "str") rfl (by decide)) (isi1 (b := "bool") v1 (a := "str") rfl (by decide))
  have t4 := neB (isi1 (b := "int") v0 (a := "str") rfl (by decide)) (isi1 (b := "int") v1 (a := "str") rfl (by decide))
  have t5 := eqB (isi1 (b := "str") v0 (a := "str") rfl (by decide)) (isi1 (b := "str") v1 (a := "str") rfl (by decide))
  rw [show (isOf "str" "tuple" || isOf "str" "list") = false by decide] at t1
  rw [show (!decide (isOf "str" "bool" = isOf "str" "bool")) = false by decide] at t3
  rw [show (!decide (isOf "str" "int" = isOf "str" "int")) = false by decide] at t4
  rw [show decide (isOf "str" "str" = isOf "str" "str") = true by decide] at t5
  show fnEnd (S_is (R_is n) [some (.d (.str a)), some (.d (.str a)), none, none] M) = _
  have t6 : eBin (opEq false) (eVar 0) (eVar 1) [some (.d (.str a)), some (.d (.str a)), none, none] M = .ok (bv true) M := by rw [q_bin v0 v1]; simp [opEq, eqR]
  rw [S_is, q_nx (q_skip t1), q_nx (q_skip t2), q_nx (q_skip (by rw [q_or0 t3]; exact t4)), q_ret (x := bv true) (by rw [q_eand1 t5 rfl]; exact t6) rfl]
  rfl
theorem Sf.bl (n : Nat) (a : Bool) : Sf (n + 1) (.bl a) := fun M => by
  show fnOf 4 (S_is (R_is n)) _ _ = _
  rw [fnOf_eq]
  have v0 : eVar 0 [some (.d (.bl a)), some (.d (.bl a)), none, none] M = .ok (.d (.bl a)) M := rfl
  have v1 : eVar 1 [some (.d (.bl a)), some (.d (.bl a)), none, none] M = .ok (.d (.bl a)) M := rfl
  have t1 := truV (isi2 (b := "tuple") (c := "list") v1 (a := "bool") rfl (by decide) (by decide))
  have t2 : (bOr (tCmpE (opIs false) (eVar 1) (eC .non)) (tCmpE (opIs false) (eVar 0) (eC .non))) [some (.d (.bl a)), some (.d (.bl a)), none, none] M = .ok false M := rfl
  have t3 := neB (isi1 (b := "bool") v0 (a := "bool") rfl (by decide)) (isi1 (b := "bool") v1 (a := "bool") rfl (by decide))
  have t4 := neB (isi1 (b := "int") v0 (a := "bool") rfl (by decide)) (isi1 (b := "int") v1 (a := "bool") rfl (by decide))
  have t5 := eqB (isi1 (b := "str") v0 (a := "bool") rfl (by decide)) (isi1 (b := "str") v1 (a := "bool") rfl (by decide))
  rw [show (isOf "bool" "tuple" || isOf "bool" "list") = false by decide] at t1
  rw [show (!decide (isOf "bool" "bool" = isOf "bool" "bool")) = false by decide] at t3
  rw [show (!decide (isOf "bool" "int" = isOf "bool" "int")) = false by decide] at t4
  rw [show decide (isOf "bool" "str" = isOf "bool" "str") = true by decide] at t5
  show fnEnd (S_is (R_is n) [some (.d (.bl a)), some (.d (.bl a)), none, none] M) = _
  have t6 : eBin (opEq false) (eVar 0) (eVar 1) [some (.d (.bl a)), some (.d (.bl a)), none, none] M = .ok (bv true) M := by rw [q_bin v0 v1]; simp [look, opEq, eqR_bl]
  rw [S_is, q_nx (q_skip t1), q_nx (q_skip t2), q_nx (q_skip (by rw [q_or0 t3]; exact t4)), q_ret (x := bv true) (by rw [q_eand1 t5 rfl]; exact t6) rfl]
  rfl
theorem Sf.pr (n : Nat) (q : Rat) : Sf (n + 2) (pr q) := fun M => by rw [← is_eq]; exact is_pr n q M
theorem Sf.tup {n : Nat} {l : List D} (hl : l.length ≤ most) (h : ∀ d ∈ l, Sf n d) : Sf (n + 1) (.tup l) := fun M => is_tup n l l M rfl hl fun p hp => by
  obtain ⟨h1, h2⟩ := zip_same hp
  rw [← h1]; exact h _ h2 M
theorem Sf.lst {n : Nat} {l : List D} (hl : l.length ≤ most) (h : ∀ d ∈ l, Sf n d) : Sf (n + 1) (.lst l) := fun M => is_lst n l l M rfl hl fun p hp => by
  obtain ⟨h1, h2⟩ := zip_same hp
  rw [← h1]; exact h _ h2 M
theorem sf_is {d : D} (h : Sf 4 d) (M : Mem) : F__law_is [.d d, .d d] M = .ok (.bl true) M := by
  show R__law_is 4 _ _ = _
  rw [is_eq]; exact h M
theorem is_mx {n : Nat} {l : List D} (M : Mem) (hm : l.length ≤ most) (h : ∀ d ∈ l, Sf n d) : R_is (n + 1) [.d (.lst l), .ls .pv l] M = .ok (.bl true) M := by
  have hz2 : ∀ p ∈ l.zip l, R_is n [.d p.1, .d p.2] M = .ok (.bl true) M := fun p hp => by
    obtain ⟨h1, h2⟩ := zip_same hp
    rw [← h1]; exact h _ h2 M
  have lc : fLc (iO (zip2 true) (aCons (eVar 0) (aCons (eVar 1) aNil))) (.many [2, 3]) [2, 3] tYesE (eCall 2 (R_is n) (aCons (eVar 2) (aCons (eVar 3) aNil))) [some (.d (.lst l)), some (.ls .pv l), none, none] M = .ok ((zipL l l).map fun _ => .bl true) M := by
    have e1 : iO (zip2 true) (aCons (eVar 0) (aCons (eVar 1) aNil)) [some (.d (.lst l)), some (.ls .pv l), none, none] M = .ok (zipL l l) M := by
      simp [iO, aCons, aNil, eVar, look, bnd, zip2, itemsOf, optR]
    have hz : (zipL l l).length ≤ most := by rw [zipL_len]; omega
    simp only [fLc, e1, bnd, if_pos hz]
    refine lcL_map _ _ fun x hx => ?_
    unfold zipL at hx
    obtain ⟨p, hp, rfl⟩ := List.mem_map.mp hx
    refine ⟨[some (.d (.lst l)), some (.ls .pv l), some (.d p.1), some (.d p.2)], by simp [tgE, wipeE, setAllE], ?_⟩
    simp [eCall, aCons, aNil, eVar, look, bnd, DL.passL, pass1, hz2 p hp]
  show fnOf 4 (S_is (R_is n)) _ _ = _
  rw [fnOf_eq]
  have v0 : eVar 0 [some (.d (.lst l)), some (.ls .pv l), none, none] M = .ok (.d (.lst l)) M := rfl
  have v1 : eVar 1 [some (.d (.lst l)), some (.ls .pv l), none, none] M = .ok (.ls .pv l) M := rfl
  have t1 := truV (isi2 (b := "tuple") (c := "list") v1 (a := "list") rfl (by decide) (by decide))
  have t3 := neB (isi1 (b := "tuple") v0 (a := "list") rfl (by decide)) (isi1 (b := "tuple") v1 (a := "list") rfl (by decide))
  have t4 := neB (isi1 (b := "list") v0 (a := "list") rfl (by decide)) (isi1 (b := "list") v1 (a := "list") rfl (by decide))
  rw [show (isOf "list" "tuple" || isOf "list" "list") = true by decide] at t1
  rw [show (!decide (isOf "list" "tuple" = isOf "list" "tuple")) = false by decide] at t3
  rw [show (!decide (isOf "list" "list" = isOf "list" "list")) = false by decide] at t4
  have t5 : eBin (opEq false) (eB bLen (aCons (eVar 0) aNil)) (eB bLen (aCons (eVar 1) aNil)) [some (.d (.lst l)), some (.ls .pv l), none, none] M = .ok (bv true) M := by
    simp [eBin, eB, aCons, aNil, v0, v1, bnd, bLen, seqOf, opEq, eqR]
  show fnEnd (S_is (R_is n) [some (.d (.lst l)), some (.ls .pv l), none, none] M) = _
  have t6 : eB bAll (aCons (eF (fLc (iO (zip2 true) (aCons (eVar 0) (aCons (eVar 1) aNil))) (.many [2, 3]) [2, 3] tYesE (eCall 2 (R_is n) (aCons (eVar 2) (aCons (eVar 3) aNil))))) aNil) [some (.d (.lst l)), some (.ls .pv l), none, none] M = .ok (bv true) M := by
    have e1 : eF (fLc (iO (zip2 true) (aCons (eVar 0) (aCons (eVar 1) aNil))) (.many [2, 3]) [2, 3] tYesE (eCall 2 (R_is n) (aCons (eVar 2) (aCons (eVar 3) aNil)))) [some (.d (.lst l)), some (.ls .pv l), none, none] M = .ok (.d (.lst ((zipL l l).map fun _ => .bl true))) M := by
      simp only [eF, lc, bnd]
    rw [q_B (q_cons e1 rfl)]
    exact all_true _ M
  rw [S_is, q_rt (d := .bl true) (M' := M) (by rw [q_if1 t1, q_nx (q_skip (by rw [q_or0 t3]; exact t4)), q_ret (x := bv true) (by rw [q_eand1 t5 rfl]; exact t6) rfl])]
  rfl
theorem sf_mx {l : List D} (M : Mem) (hm : l.length ≤ most) (h : ∀ d ∈ l, Sf 3 d) : F__law_is [.d (.lst l), .ls .pv l] M = .ok (.bl true) M := by
  show R__law_is 4 _ _ = _
  rw [is_eq]; exact is_mx M hm h
/-! the number of a word, by the program -/
theorem cutN (w : List Bool) (k : Nat) : cutS (ws w) none (some (k : Int)) = ws (w.take k) := by
  unfold cutS
  rw [HT.sIx_none, HT.sIx_nat, ws_len, Nat.sub_zero, List.drop_zero]
  show Str.mk (List.take (min k w.length) (w.map sg)).toArray = _
  rw [← List.map_take]
  have : w.take (min k w.length) = w.take k := by
    by_cases h : k ≤ w.length
    · rw [Nat.min_eq_left h]
    · rw [Nat.min_eq_right (by omega), List.take_of_length_le (Nat.le_refl _), List.take_of_length_le (by omega)]
  rw [this]; rfl
theorem cut1 (w : List Bool) (i : Nat) : cutS (ws w) (some (i : Int)) (some ((i : Int) + 1)) = match w[i]? with | some b => ws [b] | none => ws [] := by
  unfold cutS
  rw [show (i : Int) + 1 = ((i + 1 : Nat) : Int) by omega, HT.sIx_nat, HT.sIx_nat, ws_len]
  show Str.mk (List.take _ (List.drop _ (w.map sg))).toArray = _
  by_cases h : i < w.length
  · rw [Nat.min_eq_left (by omega), Nat.min_eq_left (by omega), List.getElem?_eq_getElem h, ← List.map_drop, ← List.map_take, show i + 1 - i = 1 by omega, List.drop_eq_getElem_cons h]
    rfl
  · rw [Nat.min_eq_right (by omega), Nat.min_eq_right (by omega), List.getElem?_eq_none (by omega), Nat.sub_self, List.take_zero]
    rfl
def envN (w u : List Bool) (o : Option Ev) : DL.Env := [some (.d (.str (ws w))), some (.d (po (NB.node u).lo)), some (.d (po (NB.node u).hi)), some (.d (pr (NB.node u).x)), o]
theorem prog_number {w : List Bool} {M : Mem} (h : w.length ≤ 400) : F_number_by [.d (.str (ws w))] M = .ok (pr (NB.node w).x) M := by
  unfold F_number_by; rw [fnOf_eq]
  show fnEnd (S_number_by [some (.d (.str (ws w))), none, none, none, none] M) = _
  have lenw : eB bLen (aCons (eVar 0) aNil) [some (.d (.str (ws w))), none, none, none, none] M = .ok (.d (.int (w.length : Int))) M := by
    rw [q_B (q_cons1 (show eVar 0 _ M = .ok (.d (.str (ws w))) M from rfl))]
    show (if (ws w).length ≤ most then R.ok (iv (ws w).length) M else .stuck) = _
    rw [ws_len, if_pos (by unfold most; omega)]
  have lc : fLc (iStrS (eVar 0)) (.one 4) [4] tYesE (eBin opInS (eVar 4) (eC (.str "LR"))) [some (.d (.str (ws w))), none, none, none, none] M = .ok ((w.map lt).map fun _ => D.bl true) M := by
    have it : iStrS (eVar 0) [some (.d (.str (ws w))), none, none, none, none] M = .ok (w.map lt) M := by
      have v0 : eVar 0 [some (.d (.str (ws w))), none, none, none, none] M = .ok (.d (.str (ws w))) M := rfl
      simp only [iStrS, v0, bnd, chars_ws]
    simp only [fLc, it, bnd]
    rw [if_pos (by rw [List.length_map]; unfold most; omega)]
    refine lcL_map _ _ fun d hd => ?_
    obtain ⟨b, _, rfl⟩ := List.mem_map.mp hd
    refine ⟨[some (.d (.str (ws w))), none, none, none, some (.d (lt b))], rfl, ?_⟩
    cases b <;> rfl
  have s1 : T1_number_by [some (.d (.str (ws w))), none, none, none, none] M = .nx [some (.d (.str (ws w))), none, none, none, none] M := by
    refine q_skip ?_
    have t1 := truV (isi1 (b := "str") (show eVar 0 [some (.d (.str (ws w))), none, none, none, none] M = .ok (.d (.str (ws w))) M from rfl) (a := "str") rfl (by decide))
    rw [show isOf "str" "str" = true by decide] at t1
    have t2 : tCmpE opGt (eB bLen (aCons (eVar 0) aNil)) (eC (.int 400)) [some (.d (.str (ws w))), none, none, none, none] M = .ok false M := by
      refine q_cmp ?_
      rw [q_bin lenw rfl]
      show R.ok (bv (decide ((400 : Int) < (w.length : Int)))) M = _
      rw [decide_eq_false (by omega)]
    have ef : eF (fLc (iStrS (eVar 0)) (.one 4) [4] tYesE (eBin opInS (eVar 4) (eC (.str "LR")))) [some (.d (.str (ws w))), none, none, none, none] M = .ok (.d (.lst ((w.map lt).map fun _ => D.bl true))) M := by
      simp only [eF, lc, bnd]
    have t3 : tTru (eB bAll (aCons (eF (fLc (iStrS (eVar 0)) (.one 4) [4] tYesE (eBin opInS (eVar 4) (eC (.str "LR"))))) aNil)) [some (.d (.str (ws w))), none, none, none, none] M = .ok true M := truV (by rw [q_B (q_cons1 ef)]; exact all_true _ M)
    rw [q_or0 (q_not t1), q_or0 t2, q_not t3]
    rfl
  have s2 : T2_number_by [some (.d (.str (ws w))), none, none, none, none] M = .nx (envN w [] none) M := rfl
  obtain ⟨ρ', M', e, e1, o, e2⟩ := forL_inv (g := .one 4) (f := B3_number_by) (fun k ρ M' => M' = M ∧ ∃ o, ρ = envN w (w.take k) o) (w.map lt) 0 (envN w [] none) M
    (fun i d ρ M' hd ⟨h1, o, h2⟩ => by
      subst h1 h2
      rw [List.getElem?_map] at hd
      cases hb : w[i]? with
      | none => rw [hb] at hd; cases hd
      | some b =>
        rw [hb] at hd
        have ed : d = lt b := by cases hd; rfl
        subst ed
        have hi := (List.getElem?_eq_some_iff.mp hb).1
        have et : w.take (i + 1) = w.take i ++ [b] := by rw [List.take_add_one, hb]; rfl
        rw [Nat.zero_add]
        refine ⟨envN w (w.take i) (some (.d (lt b))), _, M', rfl, ?_, rfl, some (.d (lt b)), rfl⟩
        have d2 := node_dq (u := w.take i ++ [b]) (by rw [← et, List.length_take]; omega)
        obtain ⟨y, ey, sm⟩ := between_ok (M := M') d2.2.1 d2.2.2 (node_lt (w.take i ++ [b]))
        have := sm.uniq (NB.sm_node (w.take i ++ [b]))
        subst this
        rw [et]
        generalize w.take i = u at *
        have elo : (NB.node (u ++ [b])).lo = if b then some (NB.node u).x else (NB.node u).lo := by rw [NB.node_snoc, NB.step_lo]
        have ehi : (NB.node (u ++ [b])).hi = if b then (NB.node u).hi else some (NB.node u).x := by rw [NB.node_snoc, NB.step_hi]
        have fin : ∀ ρ : DL.Env, At ρ 1 (.d (po (NB.node (u ++ [b])).lo)) → At ρ 2 (.d (po (NB.node (u ++ [b])).hi)) → 3 < ρ.length → sAsg 3 (eCall 2 F_between_of (aCons (eVar 1) (aCons (eVar 2) aNil))) ρ M' = .nx (ρ.set 3 (some (.d (pr (NB.node (u ++ [b])).x)))) M' := fun ρ h2 h3 hl =>
          q_set (q_call (n := 2) (q_cons2 (v_po h2) (v_po h3)) rfl rfl ey) rfl hl
        cases b
        · have s : (sIf (tCmpE (opEq false) (eVar 4) (eC (.str "L"))) (sAsg 1 (eVar 3)) (sAsg 2 (eVar 3))) (envN w u (some (.d (lt false)))) M' = .nx [some (.d (.str (ws w))), some (.d (po (NB.node u).lo)), some (.d (pr (NB.node u).x)), some (.d (pr (NB.node u).x)), some (.d (lt false))] M' := rfl
          have f := fin [some (.d (.str (ws w))), some (.d (po (NB.node u).lo)), some (.d (pr (NB.node u).x)), some (.d (pr (NB.node u).x)), some (.d (lt false))] (by rw [elo]; rfl) (by rw [ehi]; rfl) (show 3 < 5 by decide)
          rw [B3_number_by, q_nx s, f]
          unfold envN
          rw [elo, ehi]; rfl
        · have s : (sIf (tCmpE (opEq false) (eVar 4) (eC (.str "L"))) (sAsg 1 (eVar 3)) (sAsg 2 (eVar 3))) (envN w u (some (.d (lt true)))) M' = .nx [some (.d (.str (ws w))), some (.d (pr (NB.node u).x)), some (.d (po (NB.node u).hi)), some (.d (pr (NB.node u).x)), some (.d (lt true))] M' := rfl
          have f := fin [some (.d (.str (ws w))), some (.d (pr (NB.node u).x)), some (.d (po (NB.node u).hi)), some (.d (pr (NB.node u).x)), some (.d (lt true))] (by rw [elo]; rfl) (by rw [ehi]; rfl) (show 3 < 5 by decide)
          rw [B3_number_by, q_nx s, f]
          unfold envN
          rw [elo, ehi]; rfl) ⟨rfl, none, rfl⟩
  subst e1 e2
  rw [List.length_map, Nat.zero_add, List.take_length] at e
  have it : iStrS (eVar 0) (envN w [] none) M' = .ok (w.map lt) M' := by
    have v0 : eVar 0 (envN w [] none) M' = .ok (.d (.str (ws w))) M' := rfl
    simp only [iStrS, v0, bnd, chars_ws]
  rw [S_number_by, q_nx s1, q_nx s2, q_nx (show T4_number_by _ _ = _ from q_for it e)]
  rfl
theorem mul_q (a b : Rat) : ((a.num * b.num : Int) : Rat) / (((a.den : Int) * (b.den : Int) : Int) : Rat) = a * b := by
  rw [Rat.mul_def', Rat.mkRat_eq_div]
  rfl
theorem half_loop {a b : Rat} {M : Mem} (ha : Dq a) (hb : Dq b) : sFor (iSeq false (eTup (aCons (eVar 0) (aCons (eVar 1) aNil)))) (.one 2) B1_product_of [some (.d (pr a)), some (.d (pr b)), none] M = .nx [some (.d (pr a)), some (.d (pr b)), some (.d (pr b))] M := by
  have it : iSeq false (eTup (aCons (eVar 0) (aCons (eVar 1) aNil))) [some (.d (pr a)), some (.d (pr b)), none] M = .ok [pr a, pr b] M := rfl
  have body : ∀ (q : Rat), Dq q → B1_product_of [some (.d (pr a)), some (.d (pr b)), some (.d (pr q))] M = .nx [some (.d (pr a)), some (.d (pr b)), some (.d (pr q))] M := fun q hq => by
    refine q_skip ?_
    rw [q_not (truV (q_call (n := 1) (q_cons1 (show eVar 2 _ M = .ok (.d (pr q)) M from rfl)) rfl rfl (half_number_ok hq M)))]
    rfl
  refine q_for it ?_
  have t1 : tgE (.one 2) [some (.d (pr a)), some (.d (pr b)), none] (pr a) = some [some (.d (pr a)), some (.d (pr b)), some (.d (pr a))] := rfl
  have t2 : tgE (.one 2) [some (.d (pr a)), some (.d (pr b)), some (.d (pr a))] (pr b) = some [some (.d (pr a)), some (.d (pr b)), some (.d (pr b))] := rfl
  simp only [forL, t1, body a ha, t2, body b hb]
theorem product_ok {a b : Rat} {M : Mem} (ha : Dq a) (hb : Dq b) : F_product_of [.d (pr a), .d (pr b)] M = .ok (pr (a * b)) M := by
  have fr := frac_ok (a := a.num * b.num) (b := (a.den : Int) * (b.den : Int)) (M := M) (Int.mul_pos (NB.den_pos a) (NB.den_pos b)) (bnD ha hb) (by omega)
  rw [mul_q] at fr
  unfold F_product_of; rw [fnOf_eq]
  have c1 : cMul a.num b.num := cmB ha.2 hb.2 (by omega)
  have c3 := cmD ha hb
  have a0 : At [some (.d (pr a)), some (.d (pr b)), some (.d (pr b))] 0 (.d (prI a.num (a.den : Int))) := rfl
  have a1 : At [some (.d (pr a)), some (.d (pr b)), some (.d (pr b))] 1 (.d (prI b.num (b.den : Int))) := rfl
  show fnEnd (S_product_of [some (.d (pr a)), some (.d (pr b)), none] M) = _
  have x1 : eBin opMulA (eBin opIx (eVar 0) (eC (.int 0))) (eBin opIx (eVar 1) (eC (.int 0))) [some (.d (pr a)), some (.d (pr b)), some (.d (pr b))] M = .ok (.d (.int (a.num * b.num))) M := by
    rw [q_bin (ix0 a0) (ix0 a1)]; simp only [opMulA, opMul, if_pos c1]
  have x3 : eBin opMulA (eBin opIx (eVar 0) (eC (.int 1))) (eBin opIx (eVar 1) (eC (.int 1))) [some (.d (pr a)), some (.d (pr b)), some (.d (pr b))] M = .ok (.d (.int ((a.den : Int) * (b.den : Int)))) M := by
    rw [q_bin (ix1 a0) (ix1 a1)]; simp only [opMulA, opMul, if_pos c3]
  rw [S_product_of, q_nx (show T2_product_of _ _ = _ from half_loop ha hb), T3_product_of, q_ret (q_call (n := 2) (q_cons2 x1 x3) rfl rfl fr) rfl]
  rfl
theorem whole_ok {q : Rat} {M : Mem} (h : Dq q) : F_is_whole [.d (pr q)] M = .ok (.bl (decide (q.den = 1))) M := by
  unfold F_is_whole; rw [fnOf_eq]
  have v0 : eVar 0 [some (.d (pr q))] M = .ok (.d (pr q)) M := rfl
  have a0 : At [some (.d (pr q))] 0 (.d (prI q.num (q.den : Int))) := rfl
  have s1 : T1_is_whole [some (.d (pr q))] M = .nx [some (.d (pr q))] M := by
    refine q_skip ?_
    rw [q_not (truV (q_call (n := 1) (q_cons1 v0) rfl rfl (half_number_ok h M)))]
    rfl
  have c := q_call (n := 1) (q_cons1 (ix0 (M := M) a0)) rfl rfl (is_integer_int q.num M)
  have x : eBin (opEq false) (eBin opIx (eVar 0) (eC (.int 1))) (eC (.int 1)) [some (.d (pr q))] M = .ok (bv (decide (q.den = 1))) M := by
    rw [q_bin (ix1 a0) rfl]
    simp [opEq, eqR]; omega
  show fnEnd (S_is_whole [some (.d (pr q))] M) = _
  rw [S_is_whole, q_nx s1, T2_is_whole, q_ret (x := bv (decide (q.den = 1))) (by rw [q_eand1 c rfl]; exact x) rfl]
  rfl
theorem power_ok (n : Nat) (M : Mem) (h : n ≤ 401) : F__law_power [.d (.int (n : Int))] M = .ok (.int (NB.T n)) M := by
  unfold F__law_power; rw [fnOf_eq]
  show fnEnd (S__law_power [some (.d (.int (n : Int))), none, none] M) = _
  have s1 : T1__law_power [some (.d (.int (n : Int))), none, none] M = .nx [some (.d (.int (n : Int))), some (.d (.int 1)), none] M := rfl
  obtain ⟨ρ', M', e, e1, o, e2⟩ := forL_inv (g := .one 2) (f := B2__law_power) (fun k ρ M' => M' = M ∧ ∃ o, ρ = [some (.d (.int (n : Int))), some (.d (.int (NB.T k))), o]) (rangeL 0 n 1) 0 [some (.d (.int (n : Int))), some (.d (.int 1)), none] M
    (fun i d ρ M' hd ⟨h1, o, h2⟩ => by
      subst h1 h2
      obtain ⟨hi, rfl⟩ := rangeL_get hd
      rw [Nat.zero_add]
      have hT : Bn 402 (NB.T i) := bn_T (by omega)
      have c : cMul 2 (NB.T i) := cmB (show Bn 2 2 by unfold Bn; decide) hT (by omega)
      refine ⟨[some (.d (.int (n : Int))), some (.d (.int (NB.T i))), some (.d (.int (0 + (i : Int) * 1)))], [some (.d (.int (n : Int))), some (.d (.int (NB.T (i + 1)))), some (.d (.int (0 + (i : Int) * 1)))], M', rfl, ?_, rfl, _, rfl⟩
      have x : eBin opMulA (eC (.int 2)) (eVar 1) [some (.d (.int (n : Int))), some (.d (.int (NB.T i))), some (.d (.int (0 + (i : Int) * 1)))] M' = .ok (.d (.int (NB.T (i + 1)))) M' := by
        rw [q_bin rfl (show eVar 1 _ M' = .ok (.d (.int (NB.T i))) M' from rfl), NB.Ts]
        simp only [opMulA, opMul, if_pos c]
      exact q_set x rfl (show 1 < 3 by decide)) ⟨rfl, none, rfl⟩
  subst e1 e2
  rw [rangeL_len, Nat.zero_add] at e
  rw [S__law_power, q_nx s1, q_nx (show T3__law_power _ _ = _ from q_for (q_rng1 (by omega) rfl) e)]
  rfl
theorem other_ok {w : List Bool} {M : Mem} (h : w.length ≤ 400) : F__law_other [.d (.str (ws w))] M = .ok (.str (ws (w.map (! ·)))) M := by
  unfold F__law_other; rw [fnOf_eq]
  show fnEnd (S__law_other [some (.d (.str (ws w))), none] M) = _
  have lc : fLc (iStrS (eVar 0)) (.one 1) [1] tYesE (eIf (tCmpE (opEq false) (eVar 1) (eC (.str "R"))) (eC (.str "L")) (eC (.str "R"))) [some (.d (.str (ws w))), none] M = .ok ((w.map (! ·)).map lt) M := by
    have it : iStrS (eVar 0) [some (.d (.str (ws w))), none] M = .ok (w.map lt) M := by
      have v0 : eVar 0 [some (.d (.str (ws w))), none] M = .ok (.d (.str (ws w))) M := rfl
      simp only [iStrS, v0, bnd, chars_ws]
    simp only [fLc, it, bnd]
    rw [if_pos (by rw [List.length_map]; unfold most; omega)]
    obtain ⟨l, M', e, h1, h2⟩ := lcL_inv (g := .one 1) (vs := [1]) (t := tYesE) (f := eIf (tCmpE (opEq false) (eVar 1) (eC (.str "R"))) (eC (.str "L")) (eC (.str "R"))) (ρ := [some (.d (.str (ws w))), none]) (fun i acc M' => acc = ((w.take i).map (! ·)).map lt ∧ M' = M) (w.map lt) 0 [] M (fun i d acc M1 hd hi => by
      obtain ⟨e1, e2⟩ := hi
      subst e2
      rw [List.getElem?_map] at hd
      cases hb : w[i]? with
      | none => rw [hb] at hd; cases hd
      | some b =>
        rw [hb] at hd
        have ed : d = lt b := by cases hd; rfl
        subst ed
        refine ⟨[some (.d (.str (ws w))), some (.d (lt b))], true, M1, rfl, rfl, .inl ⟨rfl, lt (!b), M1, by cases b <;> rfl, ?_, rfl⟩⟩
        rw [e1, Nat.zero_add, List.take_add_one, hb, List.map_append, List.map_append]
        rfl) ⟨rfl, rfl⟩
    rw [e, h1, h2, List.length_map, Nat.zero_add, List.take_length]
  have j := joinO_ws (w := w.map (! ·)) (y := .d (.lst ((w.map (! ·)).map lt))) rfl (by rw [List.length_map]; omega)
  have ej : eJoin (eC (.str "")) (eF (fLc (iStrS (eVar 0)) (.one 1) [1] tYesE (eIf (tCmpE (opEq false) (eVar 1) (eC (.str "R"))) (eC (.str "L")) (eC (.str "R"))))) [some (.d (.str (ws w))), none] M = .ok (.d (.str (ws (w.map (! ·))))) M := by
    rw [ws_0]
    have ef : eF (fLc (iStrS (eVar 0)) (.one 1) [1] tYesE (eIf (tCmpE (opEq false) (eVar 1) (eC (.str "R"))) (eC (.str "L")) (eC (.str "R")))) [some (.d (.str (ws w))), none] M = .ok (.d (.lst ((w.map (! ·)).map lt))) M := by
      simp only [eF, lc, bnd]
    have ec : eC (.str (ws [])) [some (.d (.str (ws w))), none] M = .ok (.d (.str (ws []))) M := rfl
    simp only [eJoin, ec, bnd, ef, j]
  rw [S__law_other, T1__law_other, q_ret ej rfl]
  rfl
end K08

set_option Elab.async false
set_option linter.all false
set_option maxRecDepth 100000
set_option maxHeartbeats 4000000
/-! law k08, plainly: drawn words; a word is right; two are. -/
namespace K08
open PySem PySem.Spec PyProof.Rows L2 DL
open NB (Bn Dq Bx)
section
variable {cells : List Int} {B : Nat} {M : Mem}
theorem kword {most : Nat} (hc : Cl cells) (h : Hd cells B M) (hm : most ≤ 60) (hm0 : 1 ≤ most) (hB : B + 200 ≤ 1000000) :
    ∃ w M', F__law_word [.d (.ob 0), .d (.int most)] M = .ok (.str (ws w)) M' ∧ w.length ≤ 66 ∧ Hd cells (B + 200) M' := by
  obtain ⟨kind, M1, e1, k0, k1, h1⟩ := kdraw hc h (by omega) (many := 3) (by omega) (by decide)
  obtain ⟨r, M2, e2, r0, r1, h2⟩ := kdraw hc h1 (by omega) (many := (most : Int) + 1) (by omega) (log2_small (by omega))
  obtain ⟨n, rfl⟩ : ∃ n : Nat, r = (n : Int) := ⟨r.toNat, by omega⟩
  have s1 : T1__law_word [some (.d (.ob 0)), some (.d (.int most)), none, none, none, none] M = .nx [some (.d (.ob 0)), some (.d (.int most)), some (.d (.int kind)), some (.d (.int n)), none, none] M2 := by
    have x1 := q_call (n := 2) (q_cons2 (show eVar 0 [some (.d (.ob 0)), some (.d (.int most)), none, none, none, none] M = .ok (.d (.ob 0)) M from rfl) (show eC (.int 3) _ M = .ok (.d (.int 3)) M from rfl)) rfl rfl e1
    have x2 := q_call (n := 2) (q_cons2 (show eVar 0 [some (.d (.ob 0)), some (.d (.int most)), none, none, none, none] M1 = .ok (.d (.ob 0)) M1 from rfl) (show eBin opAdd (eVar 1) (eC (.int 1)) [some (.d (.ob 0)), some (.d (.int most)), none, none, none, none] M1 = .ok (.d (.int ((most : Int) + 1))) M1 from rfl)) rfl rfl e2
    simp only [T1__law_word, sPar, q_cons2 x1 x2, sE]; rfl
  obtain ⟨l, M3, e3, u, a1, a2, h3⟩ := lcL_inv (g := .one 5) (vs := [5]) (t := tYesE) (f := eCall 2 F__law_any (aCons (eVar 0) (aCons (eC (.str "LR")) aNil))) (ρ := [some (.d (.ob 0)), some (.d (.int most)), some (.d (.int kind)), some (.d (.int n)), none, none])
    (fun i acc M' => ∃ w, acc = w.map lt ∧ w.length = i ∧ Hd cells (B + 1 + 1 + i) M') (rangeL 0 n 1) 0 [] M2 (fun i d acc M' hd ⟨w, a1, a2, a3⟩ => by
      obtain ⟨hi, rfl⟩ := rangeL_get hd
      obtain ⟨b, M3, e3, h3⟩ := kanyLR hc a3 (by omega)
      refine ⟨[some (.d (.ob 0)), some (.d (.int most)), some (.d (.int kind)), some (.d (.int n)), none, some (.d (.int (0 + (i : Int) * 1)))], true, M', rfl, rfl, .inl ⟨rfl, lt b, M3, ?_, w ++ [b], by rw [a1, List.map_append]; rfl, by rw [List.length_append, a2]; rfl, ?_⟩⟩
      · exact q_call (n := 2) (q_cons2 (show eVar 0 _ M' = .ok (.d (.ob 0)) M' from rfl) rfl) rfl rfl e3
      · rw [show B + 1 + 1 + (0 + i + 1) = B + 1 + 1 + (0 + i) + 1 by omega]; exact h3) ⟨[], rfl, rfl, h2⟩
  rw [rangeL_len, Nat.zero_add] at a2 h3
  subst a1
  have s2 : T2__law_word [some (.d (.ob 0)), some (.d (.int most)), some (.d (.int kind)), some (.d (.int n)), none, none] M2 = .nx [some (.d (.ob 0)), some (.d (.int most)), some (.d (.int kind)), some (.d (.int n)), some (.d (.str (ws u))), none] M3 := by
    have it : iO rng1 (aCons (eVar 3) aNil) [some (.d (.ob 0)), some (.d (.int most)), some (.d (.int kind)), some (.d (.int n)), none, none] M2 = .ok (rangeL 0 n 1) M2 := q_rng1 (by omega) rfl
    have lc : fLc (iO rng1 (aCons (eVar 3) aNil)) (.one 5) [5] tYesE (eCall 2 F__law_any (aCons (eVar 0) (aCons (eC (.str "LR")) aNil))) [some (.d (.ob 0)), some (.d (.int most)), some (.d (.int kind)), some (.d (.int n)), none, none] M2 = .ok (u.map lt) M3 := by
      simp only [fLc, it, bnd, rangeL_len]
      rw [if_pos (by unfold DL.most; omega), e3]
    have ef : eF (fLc (iO rng1 (aCons (eVar 3) aNil)) (.one 5) [5] tYesE (eCall 2 F__law_any (aCons (eVar 0) (aCons (eC (.str "LR")) aNil)))) [some (.d (.ob 0)), some (.d (.int most)), some (.d (.int kind)), some (.d (.int n)), none, none] M2 = .ok (.d (.lst (u.map lt))) M3 := by
      simp only [eF, lc, bnd]
    have j := joinO_ws (w := u) (y := .d (.lst (u.map lt))) rfl (by omega)
    have ej : eJoin (eC (.str "")) (eF (fLc (iO rng1 (aCons (eVar 3) aNil)) (.one 5) [5] tYesE (eCall 2 F__law_any (aCons (eVar 0) (aCons (eC (.str "LR")) aNil))))) [some (.d (.ob 0)), some (.d (.int most)), some (.d (.int kind)), some (.d (.int n)), none, none] M2 = .ok (.d (.str (ws u))) M3 := by
      have ec : eC (.str "") [some (.d (.ob 0)), some (.d (.int most)), some (.d (.int kind)), some (.d (.int n)), none, none] M2 = .ok (.d (.str (ws []))) M2 := rfl
      simp only [eJoin, ec, bnd, ef, j]
    exact q_set ej rfl (show 4 < 6 by decide)
  obtain ⟨w, M4, hw, h4, s3⟩ : ∃ w M4, w.length ≤ 66 ∧ Hd cells (B + 200) M4 ∧ T3__law_word [some (.d (.ob 0)), some (.d (.int most)), some (.d (.int kind)), some (.d (.int n)), some (.d (.str (ws u))), none] M3 = .nx [some (.d (.ob 0)), some (.d (.int most)), some (.d (.int kind)), some (.d (.int n)), some (.d (.str (ws w))), none] M4 := by
    have t : tCmpE (opEq false) (eVar 2) (eC (.int 0)) [some (.d (.ob 0)), some (.d (.int most)), some (.d (.int kind)), some (.d (.int n)), some (.d (.str (ws u))), none] M3 = .ok (decide (kind = 0)) M3 := by
      refine q_cmp ?_
      rw [q_bin (show eVar 2 _ M3 = .ok (.d (.int kind)) M3 from rfl) rfl]
      simp [opEq, eqR]
    by_cases hk : kind = 0
    · rw [decide_eq_true hk] at t
      obtain ⟨b, M4, e4, h4⟩ := kanyLR hc h3 (by omega)
      refine ⟨(List.replicate most b).take n ++ u.take 6, M4, by simp; omega, Hd.mono h4 (by omega), ?_⟩
      have x1 := q_call (n := 2) (q_cons2 (show eVar 0 [some (.d (.ob 0)), some (.d (.int most)), some (.d (.int kind)), some (.d (.int n)), some (.d (.str (ws u))), none] M3 = .ok (.d (.ob 0)) M3 from rfl) (show eC (.str "LR") _ M3 = .ok (.d (.str "LR")) M3 from rfl)) rfl rfl e4
      have x2 : eBin opMulS2 (eCall 2 F__law_any (aCons (eVar 0) (aCons (eC (.str "LR")) aNil))) (eVar 1) [some (.d (.ob 0)), some (.d (.int most)), some (.d (.int kind)), some (.d (.int n)), some (.d (.str (ws u))), none] M3 = .ok (.d (.str (ws (List.replicate most b)))) M4 := by
        rw [q_bin x1 (show eVar 1 _ M4 = .ok (.d (.int most)) M4 from rfl), ← rep_ws]
        show (if (most : Int) ≤ 0 ∧ -1000000 ≤ (most : Int) then _ else if 1 ≤ (most : Int) ∧ (most : Int) ≤ 1000000 ∧ (ws [b]).length * (most : Int).toNat ≤ DL.most then R.ok (Ev.d (.str (repS (ws [b]) (most : Int)))) M4 else .stuck) = _
        rw [if_neg (by omega), if_pos ⟨by omega, by omega, by rw [ws_len]; unfold DL.most; simp; omega⟩]
      have x3 : eSlS (eBin opMulS2 (eCall 2 F__law_any (aCons (eVar 0) (aCons (eC (.str "LR")) aNil))) (eVar 1)) oNone (oSome (eVar 3)) [some (.d (.ob 0)), some (.d (.int most)), some (.d (.int kind)), some (.d (.int n)), some (.d (.str (ws u))), none] M3 = .ok (.d (.str (ws ((List.replicate most b).take n)))) M4 := by
        have v3 : eVar 3 [some (.d (.ob 0)), some (.d (.int most)), some (.d (.int kind)), some (.d (.int n)), some (.d (.str (ws u))), none] M4 = .ok (.d (.int n)) M4 := rfl
        simp only [eSlS, x2, bnd, oNone, oSome, v3, opSlS]
        rw [if_pos (by rw [ws_len, List.length_replicate]; unfold DL.most; omega), cutN]
      have x4 : eSlS (eVar 4) oNone (oSome (eC (.int 6))) [some (.d (.ob 0)), some (.d (.int most)), some (.d (.int kind)), some (.d (.int n)), some (.d (.str (ws u))), none] M4 = .ok (.d (.str (ws (u.take 6)))) M4 := by
        have v4 : eVar 4 [some (.d (.ob 0)), some (.d (.int most)), some (.d (.int kind)), some (.d (.int n)), some (.d (.str (ws u))), none] M4 = .ok (.d (.str (ws u))) M4 := rfl
        simp only [eSlS, v4, bnd, oNone, oSome, eC, opSlS]
        rw [if_pos (by rw [ws_len]; unfold DL.most; omega)]
        have := cutN u 6
        rw [show ((6 : Nat) : Int) = 6 from rfl] at this
        rw [this]
      have x5 : eBin opAdd (eSlS (eBin opMulS2 (eCall 2 F__law_any (aCons (eVar 0) (aCons (eC (.str "LR")) aNil))) (eVar 1)) oNone (oSome (eVar 3))) (eSlS (eVar 4) oNone (oSome (eC (.int 6)))) [some (.d (.ob 0)), some (.d (.int most)), some (.d (.int kind)), some (.d (.int n)), some (.d (.str (ws u))), none] M3 = .ok (.d (.str (ws ((List.replicate most b).take n ++ u.take 6)))) M4 := by
        rw [q_bin x3 x4, ← ws_app]
        have lw : (ws ((List.replicate most b).take n)).length + (ws (u.take 6)).length ≤ DL.most := by rw [ws_len, ws_len, List.length_take, List.length_take]; unfold DL.most; omega
        simp only [opAdd, opAddS, if_pos lw]
      exact (q_if1 t).trans (q_set x5 rfl (show 4 < 6 by decide))
    · rw [decide_eq_false hk] at t
      exact ⟨u, M3, by omega, Hd.mono h3 (by omega), q_skip t⟩
  refine ⟨w.take 400, M4, ?_, by rw [List.length_take]; omega, h4⟩
  unfold F__law_word; rw [fnOf_eq]
  show fnEnd (S__law_word [some (.d (.ob 0)), some (.d (.int most)), none, none, none, none] M) = _
  have x6 : eSlS (eVar 4) oNone (oSome (eC (.int 400))) [some (.d (.ob 0)), some (.d (.int most)), some (.d (.int kind)), some (.d (.int n)), some (.d (.str (ws w))), none] M4 = .ok (.d (.str (ws (w.take 400)))) M4 := by
    have v4 : eVar 4 [some (.d (.ob 0)), some (.d (.int most)), some (.d (.int kind)), some (.d (.int n)), some (.d (.str (ws w))), none] M4 = .ok (.d (.str (ws w))) M4 := rfl
    simp only [eSlS, v4, bnd, oNone, oSome, eC, opSlS]
    rw [if_pos (by rw [ws_len]; unfold DL.most; omega)]
    have := cutN w 400
    rw [show ((400 : Nat) : Int) = 400 from rfl] at this
    rw [this]
  rw [S__law_word, q_nx s1, q_nx s2, q_nx s3, T4__law_word, q_ret x6 rfl]
  rfl
end
theorem len_ok {w : List Bool} {ρ : DL.Env} {M : Mem} {i : Nat} (h : At ρ i (.d (.str (ws w)))) (hw : w.length ≤ 1000) : eB bLen (aCons (eVar i) aNil) ρ M = .ok (.d (.int (w.length : Int))) M := by
  rw [q_B (q_cons1 (h.v (M := M)))]
  show (if (ws w).length ≤ most then R.ok (iv (ws w).length) M else .stuck) = _
  rw [ws_len, if_pos (by unfold most; omega)]
theorem word_right {w : List Bool} {M : Mem} (h : w.length ≤ 399) : F__law_word_right [.d (.str (ws w))] M = .ok (.bl true) M := by
  have dx := (node_dq (u := w) (by omega)).1
  have hw' : (w.map (! ·)).length ≤ 400 := by rw [List.length_map]; omega
  unfold F__law_word_right; rw [fnOf_eq]
  show fnEnd (S__law_word_right [some (.d (.str (ws w))), none, none] M) = _
  have s1 : T1__law_word_right [some (.d (.str (ws w))), none, none] M = .nx [some (.d (.str (ws w))), some (.d (pr (NB.node w).x)), none] M := by
    have x := q_call (n := 1) (q_cons1 (show eVar 0 [some (.d (.str (ws w))), none, none] M = .ok (.d (.str (ws w))) M from rfl)) rfl rfl (number_by_ok (M := M) (w := w) (by omega))
    exact q_set ((q_bin x (show eC (.int 0) _ M = .ok (.d (.int 0)) M from rfl)).trans (show _ = R.ok (Ev.d (pr (NB.node w).x)) M by simp [stD, opIx, seqOf, at_0])) rfl (show 1 < 3 by decide)
  have s2 : T2__law_word_right [some (.d (.str (ws w))), some (.d (pr (NB.node w).x)), none] M = .nx [some (.d (.str (ws w))), some (.d (pr (NB.node w).x)), none] M := by
    have v0 : eVar 0 [some (.d (.str (ws w))), some (.d (pr (NB.node w).x)), none] M = .ok (.d (.str (ws w))) M := rfl
    have v1 : eVar 1 [some (.d (.str (ws w))), some (.d (pr (NB.node w).x)), none] M = .ok (.d (pr (NB.node w).x)) M := rfl
    have c1 := q_call (n := 1) (q_cons1 v0) rfl rfl (prog_number (M := M) (w := w) (by omega))
    have c2 := q_call (n := 1) (q_cons1 v1) rfl rfl (signs_ok (M := M) (w := w) (by omega))
    have c3 := q_call (n := 1) (q_cons1 v1) rfl rfl (born_ok (M := M) dx)
    have l1 : eLst (aCons (eCall 1 F_number_by (aCons (eVar 0) aNil)) (aCons (eCall 1 F_signs (aCons (eVar 1) aNil)) (aCons (eCall 1 F_born_on (aCons (eVar 1) aNil)) aNil))) [some (.d (.str (ws w))), some (.d (pr (NB.node w).x)), none] M = .ok (.d (.lst [pr (NB.node w).x, .str (ws w), .int (w.length : Int)])) M := by
      simp only [eLst, q_cons c1 (q_cons2 c2 c3), bnd]; rfl
    have l2 : eLst (aCons (eVar 1) (aCons (eVar 0) (aCons (eB bLen (aCons (eVar 0) aNil)) aNil))) [some (.d (.str (ws w))), some (.d (pr (NB.node w).x)), none] M = .ok (.d (.lst [pr (NB.node w).x, .str (ws w), .int (w.length : Int)])) M := by
      simp only [eLst, q_cons v1 (q_cons2 v0 (len_ok (i := 0) (M := M) rfl (by omega))), bnd]; rfl
    refine q_skip ?_
    rw [q_not (truV (q_call (n := 2) (q_cons2 l1 l2) rfl rfl (sf_is (Sf.lst (n := 3) (by show 3 ≤ most; unfold most; omega) fun d hd => by
      simp only [List.mem_cons, List.not_mem_nil, or_false] at hd
      rcases hd with rfl | rfl | rfl
      · exact Sf.pr 1 _
      · exact Sf.str 2 _
      · exact Sf.int 2 _) M)))]
    rfl
  have ex : (NB.node (w.map (! ·))).x = -(NB.node w).x := by rw [NB.node_ms]; rfl
  have s3 : T3__law_word_right [some (.d (.str (ws w))), some (.d (pr (NB.node w).x)), none] M = .nx [some (.d (.str (ws w))), some (.d (pr (NB.node w).x)), some (.d (pr (-(NB.node w).x)))] M := by
    have a1 : At [some (.d (.str (ws w))), some (.d (pr (NB.node w).x)), none] 1 (.d (prI (NB.node w).x.num ((NB.node w).x.den : Int))) := rfl
    have x1 : eBin opSub (eC (.int 0)) (eBin opIx (eVar 1) (eC (.int 0))) [some (.d (.str (ws w))), some (.d (pr (NB.node w).x)), none] M = .ok (.d (.int (-(NB.node w).x.num))) M := by
      rw [q_bin rfl (ix0 a1)]; simp [opI2]
    have x2 := tup2 x1 (ix1 (M := M) a1)
    rw [show D.tup [D.int (-(NB.node w).x.num), D.int ((NB.node w).x.den : Int)] = pr (-(NB.node w).x) from pr_neg _] at x2
    exact q_set x2 rfl (show 2 < 3 by decide)
  have s4 : T4__law_word_right [some (.d (.str (ws w))), some (.d (pr (NB.node w).x)), some (.d (pr (-(NB.node w).x)))] M = .rt (.bl true) M := by
    have v0 : eVar 0 [some (.d (.str (ws w))), some (.d (pr (NB.node w).x)), some (.d (pr (-(NB.node w).x)))] M = .ok (.d (.str (ws w))) M := rfl
    have v2 : eVar 2 [some (.d (.str (ws w))), some (.d (pr (NB.node w).x)), some (.d (pr (-(NB.node w).x)))] M = .ok (.d (pr (NB.node (w.map (! ·))).x)) M := by rw [ex]; rfl
    have o := q_call (n := 1) (q_cons1 v0) rfl rfl (other_ok (M := M) (w := w) (by omega))
    have c1 := q_call (n := 1) (q_cons1 o) rfl rfl (prog_number (M := M) hw')
    have c2 := q_call (n := 1) (q_cons1 v2) rfl rfl (signs_ok (M := M) hw')
    have l1 : eLst (aCons (eCall 1 F_number_by (aCons (eCall 1 F__law_other (aCons (eVar 0) aNil)) aNil)) (aCons (eCall 1 F_signs (aCons (eVar 2) aNil)) aNil)) [some (.d (.str (ws w))), some (.d (pr (NB.node w).x)), some (.d (pr (-(NB.node w).x)))] M = .ok (.d (.lst [pr (NB.node (w.map (! ·))).x, .str (ws (w.map (! ·)))])) M := by
      simp only [eLst, q_cons2 c1 c2, bnd]; rfl
    have l2 : eLst (aCons (eVar 2) (aCons (eCall 1 F__law_other (aCons (eVar 0) aNil)) aNil)) [some (.d (.str (ws w))), some (.d (pr (NB.node w).x)), some (.d (pr (-(NB.node w).x)))] M = .ok (.d (.lst [pr (NB.node (w.map (! ·))).x, .str (ws (w.map (! ·)))])) M := by
      simp only [eLst, q_cons2 v2 o, bnd]; rfl
    exact q_ret (q_call (n := 2) (q_cons2 l1 l2) rfl rfl (sf_is (Sf.lst (n := 3) (by show 2 ≤ most; unfold most; omega) fun d hd => by
      simp only [List.mem_cons, List.not_mem_nil, or_false] at hd
      rcases hd with rfl | rfl
      · exact Sf.pr 1 _
      · exact Sf.str 2 _) M)) rfl
  rw [S__law_word_right, q_nx s1, q_nx s2, q_nx s3, s4]
  rfl
end K08

set_option Elab.async false
set_option linter.all false
set_option maxRecDepth 100000
set_option maxHeartbeats 4000000
/-! law k08, plainly: two words are right. -/
namespace K08
open PySem PySem.Spec PyProof.Rows L2 DL
open NB (Bn Dq Bx)
theorem sum_den {B : Nat} {a b : Rat} (ha : Bx B a) (hb : Bx B b) (h : B ≤ 400) : Bn 803 ((a + b).den : Int) := by
  obtain ⟨_, _, x, e1⟩ := ha
  obtain ⟨_, _, y, e2⟩ := hb
  obtain ⟨m, k1, k2, _⟩ := NB.dy B (x + y)
  have e : a + b = ((x + y : Int) : Rat) * NB.p B := by rw [e1, e2]; simp; grind
  rw [e, k2]; exact bn_T (by omega)
theorem p_mul (m d : Nat) : NB.p m * NB.p d = NB.p (m + d) := by
  have h := NB.p_raise m d
  have k := NB.pT d
  rw [h]; grind
theorem mul_dq {a b : Rat} (ha : Bx 66 a) (hb : Bx 66 b) : Dq (a * b) := by
  have bn : ∀ {q : Rat}, Bx 66 q → Bn 73 q.num := fun {q} h => by
    obtain ⟨h1, h2, x, e⟩ := h
    obtain ⟨m, k1, k2, _⟩ := NB.dy 66 x
    rw [← e] at k2
    have := NB.num_bd k2 h1 h2
    unfold Bn
    have h3 : 2 ^ m ≤ 2 ^ 66 := Nat.pow_le_pow_right (by omega) k1
    omega
  have d := NB.nd_div (a := a.num * b.num) (b := (a.den : Int) * (b.den : Int)) (Int.mul_pos (NB.den_pos a) (NB.den_pos b))
  rw [mul_q] at d
  obtain ⟨_, _, x, e1⟩ := id ha
  obtain ⟨_, _, y, e2⟩ := id hb
  obtain ⟨m, k1, k2, _⟩ := NB.dy 132 (x * y)
  have e : a * b = ((x * y : Int) : Rat) * NB.p 132 := by
    rw [e1, e2, show (132 : Nat) = 66 + 66 from rfl, ← p_mul]; simp; grind
  rw [← e] at k2
  refine ⟨⟨m, by omega, k2⟩, ?_⟩
  rw [d.1]
  have g := gcd_pos (a := a.num * b.num) (b := (a.den : Int) * (b.den : Int)) (Int.mul_pos (NB.den_pos a) (NB.den_pos b))
  rw [Int.gcd_comm] at g
  exact Bn.mono (Bn.ediv (Bn.mul (bn ha) (bn hb)) g.1) (by omega)
/-! the keys of words -/
def keyE : Sm (List D) := fLc (iO rng1 (aCons (eC (.int 402)) aNil)) (.one 6) [6] tYesE (eBin opDget (eC (.dK [.inr "R", .inr "", .inr "L"] [.int 0, .int 1, .int 2])) (eSlS (eVar 7) (oSome (eVar 6)) (oSome (eBin opAdd (eVar 6) (eC (.int 1))))))
theorem key_get (b : Option Bool) (M : Mem) : opDget (.d (.dK [.inr "R", .inr "", .inr "L"] [.int 0, .int 1, .int 2])) (.d (.str (match b with | some b => ws [b] | none => ws []))) M = .ok (.d (.int (match b with | some true => 2 | some false => 0 | none => 1))) M := by
  cases b with
  | none => rfl
  | some b => cases b <;> rfl
theorem key_row {w : List Bool} {x0 x1 x2 x3 x4 x5 x6 : Option Ev} {M : Mem} (h : w.length ≤ 400) : keyE [x0, x1, x2, x3, x4, x5, x6, some (.d (.str (ws w)))] M = .ok ((NB.kl 402 w).map D.int) M := by
  have it : iO rng1 (aCons (eC (.int 402)) aNil) [x0, x1, x2, x3, x4, x5, x6, some (.d (.str (ws w)))] M = .ok (rangeL 0 402 1) M := q_rng1 (n := 402) (by omega) rfl
  unfold keyE
  simp only [fLc, it, bnd, rangeL_len]
  rw [if_pos (by unfold most; omega)]
  rw [lcL_map (fun d => match d with | .int i => .int (NB.kd w i.toNat) | x => x) (rangeL 0 402 1) fun d hd => ?_]
  · congr 1
    rw [NB.kl_kd]
    unfold rangeL
    rw [List.map_map, List.map_map]
    apply List.map_congr_left
    intro i _
    show D.int (NB.kd w (0 + (i : Int) * 1).toNat) = D.int (NB.kd w i)
    congr 2; omega
  · obtain ⟨i, hi⟩ := List.mem_iff_getElem?.mp hd
    obtain ⟨hi2, rfl⟩ := rangeL_get hi
    refine ⟨[x0, x1, x2, x3, x4, x5, some (.d (.int (0 + (i : Int) * 1))), some (.d (.str (ws w)))], rfl, ?_⟩
    have e0 : (0 : Int) + (i : Int) * 1 = (i : Int) := by omega
    rw [e0]
    have v7 : eVar 7 [x0, x1, x2, x3, x4, x5, some (.d (.int (i : Int))), some (.d (.str (ws w)))] M = .ok (.d (.str (ws w))) M := rfl
    have v6 : oSome (eVar 6) [x0, x1, x2, x3, x4, x5, some (.d (.int (i : Int))), some (.d (.str (ws w)))] M = .ok (some (i : Int)) M := rfl
    have v6' : oSome (eBin opAdd (eVar 6) (eC (.int 1))) [x0, x1, x2, x3, x4, x5, some (.d (.int (i : Int))), some (.d (.str (ws w)))] M = .ok (some ((i : Int) + 1)) M := rfl
    have sl : eSlS (eVar 7) (oSome (eVar 6)) (oSome (eBin opAdd (eVar 6) (eC (.int 1)))) [x0, x1, x2, x3, x4, x5, some (.d (.int (i : Int))), some (.d (.str (ws w)))] M = .ok (.d (.str (match w[i]? with | some b => ws [b] | none => ws []))) M := by
      simp only [eSlS, v7, v6, v6', bnd, opSlS]
      rw [if_pos (by rw [ws_len]; unfold most; omega), cut1]
      try (cases w[i]? <;> rfl)
    rw [q_bin rfl sl, key_get]
    simp only [Int.toNat_natCast]
    rfl
theorem str_eq (u v : List Bool) : decide (ws u = ws v) = decide (u = v) := by
  rw [decide_eq_decide]
  exact ⟨ws_inj, fun h => by rw [h]⟩
theorem two_right {u v : List Bool} {M : Mem} (hu : u.length ≤ 66) (hv : v.length ≤ 66) : F__law_two_right [.d (.str (ws u)), .d (.str (ws v))] M = .ok (.bl true) M := by
  have dx := (node_dq (u := u) (by omega)).1
  have dy := (node_dq (u := v) (by omega)).1
  have bx := (NB.node_bx u).mono (C := 66) hu
  have by' := (NB.node_bx v).mono (C := 66) hv
  have lex := NB.lex_lt HT.lexLt (fun l => by
    induction l with
    | nil => rfl
    | cons a l ih => rw [HT.lexLt_cons, if_pos rfl, ih]) HT.lexLt_cons 402 u v [] (by omega) (by omega)
  have inj : decide (u = v) = decide ((NB.node u).x = (NB.node v).x) := by
    rw [decide_eq_decide]
    exact ⟨fun h => by rw [h], NB.node_inj⟩
  have n1 := prog_number (M := M) (w := u) (by omega)
  have n2 := prog_number (M := M) (w := v) (by omega)
  have dm := mul_dq bx by'
  have pm := product_ok (M := M) dx dy
  have mo := middle_ok (M := M) dx dy (sum_den bx by' (by omega))
  rw [List.nil_append, List.nil_append] at lex
  unfold F__law_two_right; rw [fnOf_eq]
  show fnEnd (S__law_two_right [some (.d (.str (ws u))), some (.d (.str (ws v))), none, none, none, none, none, none] M) = _
  generalize hx : (NB.node u).x = x at *
  generalize hy : (NB.node v).x = y at *
  have s1 : T1__law_two_right [some (.d (.str (ws u))), some (.d (.str (ws v))), none, none, none, none, none, none] M = .nx [some (.d (.str (ws u))), some (.d (.str (ws v))), some (.d (pr x)), some (.d (pr y)), none, none, none, none] M := by
    have x1 := q_call (n := 1) (q_cons1 (show eVar 0 [some (.d (.str (ws u))), some (.d (.str (ws v))), none, none, none, none, none, none] M = .ok (.d (.str (ws u))) M from rfl)) rfl rfl n1
    have x2 := q_call (n := 1) (q_cons1 (show eVar 1 [some (.d (.str (ws u))), some (.d (.str (ws v))), none, none, none, none, none, none] M = .ok (.d (.str (ws v))) M from rfl)) rfl rfl n2
    simp only [T1__law_two_right, sPar, q_cons2 x1 x2, sE]; rfl
  have s2 : T2__law_two_right [some (.d (.str (ws u))), some (.d (.str (ws v))), some (.d (pr x)), some (.d (pr y)), none, none, none, none] M = .nx [some (.d (.str (ws u))), some (.d (.str (ws v))), some (.d (pr x)), some (.d (pr y)), some (.d (.lst [.lst ((NB.kl 402 u).map D.int), .lst ((NB.kl 402 v).map D.int)])), none, none, none] M := by
    have it : iSeq true (eTup (aCons (eVar 0) (aCons (eVar 1) aNil))) [some (.d (.str (ws u))), some (.d (.str (ws v))), some (.d (pr x)), some (.d (pr y)), none, none, none, none] M = .ok [.str (ws u), .str (ws v)] M := rfl
    have k1 := key_row (w := u) (x0 := some (.d (.str (ws u)))) (x1 := some (.d (.str (ws v)))) (x2 := some (.d (pr x))) (x3 := some (.d (pr y))) (x4 := none) (x5 := none) (x6 := none) (M := M) (by omega)
    have k2 := key_row (w := v) (x0 := some (.d (.str (ws u)))) (x1 := some (.d (.str (ws v)))) (x2 := some (.d (pr x))) (x3 := some (.d (pr y))) (x4 := none) (x5 := none) (x6 := none) (M := M) (by omega)
    have f1 : eF keyE [some (.d (.str (ws u))), some (.d (.str (ws v))), some (.d (pr x)), some (.d (pr y)), none, none, none, some (.d (.str (ws u)))] M = .ok (.d (.lst ((NB.kl 402 u).map D.int))) M := by simp only [eF, k1, bnd]
    have f2 : eF keyE [some (.d (.str (ws u))), some (.d (.str (ws v))), some (.d (pr x)), some (.d (pr y)), none, none, none, some (.d (.str (ws v)))] M = .ok (.d (.lst ((NB.kl 402 v).map D.int))) M := by simp only [eF, k2, bnd]
    have t1 : tgE (.one 7) (wipeE [some (.d (.str (ws u))), some (.d (.str (ws v))), some (.d (pr x)), some (.d (pr y)), none, none, none, none] [7]) (.str (ws u)) = some [some (.d (.str (ws u))), some (.d (.str (ws v))), some (.d (pr x)), some (.d (pr y)), none, none, none, some (.d (.str (ws u)))] := rfl
    have t2 : tgE (.one 7) (wipeE [some (.d (.str (ws u))), some (.d (.str (ws v))), some (.d (pr x)), some (.d (pr y)), none, none, none, none] [7]) (.str (ws v)) = some [some (.d (.str (ws u))), some (.d (.str (ws v))), some (.d (pr x)), some (.d (pr y)), none, none, none, some (.d (.str (ws v)))] := rfl
    have ty : ∀ (ρ : DL.Env) M, tYesE ρ M = .ok true M := fun _ _ => rfl
    have lc : fLc (iSeq true (eTup (aCons (eVar 0) (aCons (eVar 1) aNil)))) (.one 7) [7] tYesE (eF keyE) [some (.d (.str (ws u))), some (.d (.str (ws v))), some (.d (pr x)), some (.d (pr y)), none, none, none, none] M = .ok [.lst ((NB.kl 402 u).map D.int), .lst ((NB.kl 402 v).map D.int)] M := by
      simp only [fLc, it, bnd]
      rw [if_pos (by show 2 ≤ most; unfold most; omega)]
      simp only [lcL, t1, t2, f1, f2, ty, noX, bnd, if_true]
      rfl
    have ne : nE (eF (fLc (iSeq true (eTup (aCons (eVar 0) (aCons (eVar 1) aNil)))) (.one 7) [7] tYesE (eF keyE))) [some (.d (.str (ws u))), some (.d (.str (ws v))), some (.d (pr x)), some (.d (pr y)), none, none, none, none] M = .ok (.d (.lst [.lst ((NB.kl 402 u).map D.int), .lst ((NB.kl 402 v).map D.int)])) M := by
      simp only [nE, eF, lc, bnd, stor, optR]
    exact q_setN ne (show 4 < 8 by decide)
  generalize hku : NB.kl 402 u = ku at *
  generalize hkv : NB.kl 402 v = kv at *
  have s3 : T3__law_two_right [some (.d (.str (ws u))), some (.d (.str (ws v))), some (.d (pr x)), some (.d (pr y)), some (.d (.lst [.lst (ku.map D.int), .lst (kv.map D.int)])), none, none, none] M = .nx [some (.d (.str (ws u))), some (.d (.str (ws v))), some (.d (pr x)), some (.d (pr y)), some (.d (.lst [.lst (ku.map D.int), .lst (kv.map D.int)])), none, none, none] M := by
    have i0 : eBin opIx (eVar 4) (eC (.int 0)) [some (.d (.str (ws u))), some (.d (.str (ws v))), some (.d (pr x)), some (.d (pr y)), some (.d (.lst [.lst (ku.map D.int), .lst (kv.map D.int)])), none, none, none] M = .ok (.d (.lst (ku.map D.int))) M := by
      rw [q_bin rfl rfl]; simp [look, opIx, seqOf, at_0]
    have i1 : eBin opIx (eVar 4) (eC (.int 1)) [some (.d (.str (ws u))), some (.d (.str (ws v))), some (.d (pr x)), some (.d (pr y)), some (.d (.lst [.lst (ku.map D.int), .lst (kv.map D.int)])), none, none, none] M = .ok (.d (.lst (kv.map D.int))) M := by
      rw [q_bin rfl rfl]; simp [look, opIx, seqOf, at_1]
    have c1 : eBin opLtX (eBin opIx (eVar 4) (eC (.int 0))) (eBin opIx (eVar 4) (eC (.int 1))) [some (.d (.str (ws u))), some (.d (.str (ws v))), some (.d (pr x)), some (.d (pr y)), some (.d (.lst [.lst (ku.map D.int), .lst (kv.map D.int)])), none, none, none] M = .ok (bv (decide (x < y))) M := by
      rw [q_bin i0 i1]
      simp only [opLtX, toInts_ints, lex]
    have c2 := q_call (n := 2) (q_cons2 (show eVar 2 [some (.d (.str (ws u))), some (.d (.str (ws v))), some (.d (pr x)), some (.d (pr y)), some (.d (.lst [.lst (ku.map D.int), .lst (kv.map D.int)])), none, none, none] M = .ok (.d (pr x)) M from rfl) (show eVar 3 _ M = .ok (.d (pr y)) M from rfl)) rfl rfl (belowQ (M := M) dx dy)
    have c3 : eBin (opEq false) (eVar 0) (eVar 1) [some (.d (.str (ws u))), some (.d (.str (ws v))), some (.d (pr x)), some (.d (pr y)), some (.d (.lst [.lst (ku.map D.int), .lst (kv.map D.int)])), none, none, none] M = .ok (bv (decide (u = v))) M := by
      rw [q_bin (show eVar 0 _ M = .ok (.d (.str (ws u))) M from rfl) (show eVar 1 _ M = .ok (.d (.str (ws v))) M from rfl), ← str_eq]; rfl
    have c4 : eBin (opEq false) (eVar 2) (eVar 3) [some (.d (.str (ws u))), some (.d (.str (ws v))), some (.d (pr x)), some (.d (pr y)), some (.d (.lst [.lst (ku.map D.int), .lst (kv.map D.int)])), none, none, none] M = .ok (bv (decide (x = y))) M := by
      rw [q_bin (show eVar 2 _ M = .ok (.d (pr x)) M from rfl) (show eVar 3 _ M = .ok (.d (pr y)) M from rfl)]
      simp only [opEq, eqR_pr]; rfl
    have t1 := neB c1 c2
    have t2 := neB c3 c4
    rw [decide_eq_true rfl] at t1
    rw [inj, decide_eq_true rfl] at t2
    exact q_skip (by rw [q_or0 t1]; exact t2)
  generalize hk : D.lst [.lst (ku.map D.int), .lst (kv.map D.int)] = kk at *
  have c1 : cMul x.num y.num := cmB dx.2 dy.2 (by omega)
  have c3 := cmD dx dy
  have mk : ∀ a, At [some (.d (.str (ws u))), some (.d (.str (ws v))), some (.d (pr x)), some (.d (pr y)), some (.d kk), a, none, none] 2 (.d (prI x.num (x.den : Int))) ∧ At [some (.d (.str (ws u))), some (.d (.str (ws v))), some (.d (pr x)), some (.d (pr y)), some (.d kk), a, none, none] 3 (.d (prI y.num (y.den : Int))) := fun a => ⟨rfl, rfl⟩
  have s4 : T4__law_two_right [some (.d (.str (ws u))), some (.d (.str (ws v))), some (.d (pr x)), some (.d (pr y)), some (.d kk), none, none, none] M = .nx [some (.d (.str (ws u))), some (.d (.str (ws v))), some (.d (pr x)), some (.d (pr y)), some (.d kk), some (.ls .own [pr (x * y)]), none, none] M := by
    obtain ⟨a2, a3⟩ := mk none
    have fr := law_frac_ok (a := x.num * y.num) (b := (x.den : Int) * (y.den : Int)) (M := M) (Int.mul_pos (NB.den_pos x) (NB.den_pos y)) (bnD dx dy) (by omega)
    rw [mul_q] at fr
    have x1 : eBin opMulA (eBin opIx (eVar 2) (eC (.int 0))) (eBin opIx (eVar 3) (eC (.int 0))) [some (.d (.str (ws u))), some (.d (.str (ws v))), some (.d (pr x)), some (.d (pr y)), some (.d kk), none, none, none] M = .ok (.d (.int (x.num * y.num))) M := by
      rw [q_bin (ix0 a2) (ix0 a3)]; simp only [opMulA, opMul, if_pos c1]
    have x3 : eBin opMulA (eBin opIx (eVar 2) (eC (.int 1))) (eBin opIx (eVar 3) (eC (.int 1))) [some (.d (.str (ws u))), some (.d (.str (ws v))), some (.d (pr x)), some (.d (pr y)), some (.d kk), none, none, none] M = .ok (.d (.int ((x.den : Int) * (y.den : Int)))) M := by
      rw [q_bin (ix1 a2) (ix1 a3)]; simp only [opMulA, opMul, if_pos c3]
    have l := q_cons1 (q_call (n := 2) (q_cons2 x1 x3) rfl rfl fr)
    refine q_setNF ?_ (show 5 < 8 by decide)
    simp only [fLst, l, bnd]; rfl
  have s5 : T5__law_two_right [some (.d (.str (ws u))), some (.d (.str (ws v))), some (.d (pr x)), some (.d (pr y)), some (.d kk), some (.ls .own [pr (x * y)]), none, none] M = .nx [some (.d (.str (ws u))), some (.d (.str (ws v))), some (.d (pr x)), some (.d (pr y)), some (.d kk), some (.ls .own [pr (x * y), pr ((x + y) / 2)]), none, none] M := by
    obtain ⟨a2, a3⟩ := mk (some (.ls .own [pr (x * y)]))
    have h2 : Bn 403 (2 * (x.den : Int)) := Bn.mul (n := 2) (m := 401) (by unfold Bn; decide) (bn_den dx)
    have fr := law_frac_ok (a := x.num * (y.den : Int) + y.num * (x.den : Int)) (b := 2 * (x.den : Int) * (y.den : Int)) (M := M) (Int.mul_pos (by have := NB.den_pos x; omega) (NB.den_pos y)) (Bn.mul h2 (bn_den dy)) (by omega)
    rw [mid_q] at fr
    have e1 := cm2 dx dy
    have e2 := cm2 dy dx
    have e3 : cMul 2 (x.den : Int) := cmB (show Bn 2 2 by unfold Bn; decide) (bn_den dx) (by omega)
    have e4 : cMul (2 * (x.den : Int)) (y.den : Int) := cmB h2 (bn_den dy) (by omega)
    have x1 : eBin opMulA (eBin opIx (eVar 2) (eC (.int 0))) (eBin opIx (eVar 3) (eC (.int 1))) [some (.d (.str (ws u))), some (.d (.str (ws v))), some (.d (pr x)), some (.d (pr y)), some (.d kk), some (.ls .own [pr (x * y)]), none, none] M = .ok (.d (.int (x.num * (y.den : Int)))) M := by
      rw [q_bin (ix0 a2) (ix1 a3)]; simp only [opMulA, opMul, if_pos e1]
    have x2 : eBin opMulA (eBin opIx (eVar 3) (eC (.int 0))) (eBin opIx (eVar 2) (eC (.int 1))) [some (.d (.str (ws u))), some (.d (.str (ws v))), some (.d (pr x)), some (.d (pr y)), some (.d kk), some (.ls .own [pr (x * y)]), none, none] M = .ok (.d (.int (y.num * (x.den : Int)))) M := by
      rw [q_bin (ix0 a3) (ix1 a2)]; simp only [opMulA, opMul, if_pos e2]
    have x4 := (q_bin (o := opAdd) x1 x2).trans (show _ = R.ok (Ev.d (.int (x.num * (y.den : Int) + y.num * (x.den : Int)))) M from rfl)
    have x5 : eBin opMulA (eC (.int 2)) (eBin opIx (eVar 2) (eC (.int 1))) [some (.d (.str (ws u))), some (.d (.str (ws v))), some (.d (pr x)), some (.d (pr y)), some (.d kk), some (.ls .own [pr (x * y)]), none, none] M = .ok (.d (.int (2 * (x.den : Int)))) M := by
      rw [q_bin rfl (ix1 a2)]; simp only [opMulA, opMul, if_pos e3]
    have x6 : eBin opMulA (eBin opMulA (eC (.int 2)) (eBin opIx (eVar 2) (eC (.int 1)))) (eBin opIx (eVar 3) (eC (.int 1))) [some (.d (.str (ws u))), some (.d (.str (ws v))), some (.d (pr x)), some (.d (pr y)), some (.d kk), some (.ls .own [pr (x * y)]), none, none] M = .ok (.d (.int (2 * (x.den : Int) * (y.den : Int)))) M := by
      rw [q_bin x5 (ix1 a3)]; simp only [opMulA, opMul, if_pos e4]
    exact q_appO (i := 5) (l := [pr (x * y)]) (q_call (n := 2) (q_cons2 x4 x6) rfl rfl fr) rfl (by show 1 < most; unfold most; omega)
  have v5 : eVar 5 [some (.d (.str (ws u))), some (.d (.str (ws v))), some (.d (pr x)), some (.d (pr y)), some (.d kk), some (.ls .own [pr (x * y), pr ((x + y) / 2)]), none, none] M = .ok (.ls .vw [pr (x * y), pr ((x + y) / 2)]) M := rfl
  obtain ⟨a2, a3⟩ := mk (some (.ls .own [pr (x * y), pr ((x + y) / 2)]))
  have v2 : eVar 2 [some (.d (.str (ws u))), some (.d (.str (ws v))), some (.d (pr x)), some (.d (pr y)), some (.d kk), some (.ls .own [pr (x * y), pr ((x + y) / 2)]), none, none] M = .ok (.d (pr x)) M := rfl
  have v3 : eVar 3 [some (.d (.str (ws u))), some (.d (.str (ws v))), some (.d (pr x)), some (.d (pr y)), some (.d kk), some (.ls .own [pr (x * y), pr ((x + y) / 2)]), none, none] M = .ok (.d (pr y)) M := rfl
  generalize hρ : ([some (.d (.str (ws u))), some (.d (.str (ws v))), some (.d (pr x)), some (.d (pr y)), some (.d kk), some (.ls .own [pr (x * y), pr ((x + y) / 2)]), none, none] : DL.Env) = ρ at *
  have s6 : T6__law_two_right ρ M = .nx ρ M := by
    have c1 := q_call (n := 2) (q_cons2 v2 v3) rfl rfl pm
    have c2 := q_call (n := 2) (q_cons2 v2 v3) rfl rfl mo
    have l1 : eLst (aCons (eCall 2 F_product_of (aCons (eVar 2) (aCons (eVar 3) aNil))) (aCons (eCall 2 F_middle_of (aCons (eVar 2) (aCons (eVar 3) aNil))) aNil)) ρ M = .ok (.d (.lst [pr (x * y), pr ((x + y) / 2)])) M := by
      simp only [eLst, q_cons2 c1 c2, bnd]; rfl
    refine q_skip ?_
    rw [q_not (truV (q_call (n := 2) (q_cons2 l1 v5) rfl rfl (sf_mx M (by show 2 ≤ most; unfold most; omega) fun d hd => by
      simp only [List.mem_cons, List.not_mem_nil, or_false] at hd
      rcases hd with rfl | rfl
      · exact Sf.pr 1 _
      · exact Sf.pr 1 _)))]
    rfl
  have i5 : eBin opIx (eVar 5) (eC (.int 0)) ρ M = .ok (.d (pr (x * y))) M := by
    rw [q_bin v5 rfl]; simp [opIx, seqOf, at_0]
  have s7 : T7__law_two_right ρ M = .rt (.bl true) M := by
    have w1 := q_call (n := 1) (q_cons1 v2) rfl rfl (whole_ok (M := M) dx)
    have w2 := q_call (n := 1) (q_cons1 i5) rfl rfl (whole_ok (M := M) dm)
    have l1 : eLst (aCons (eCall 1 F_is_whole (aCons (eVar 2) aNil)) (aCons (eCall 1 F_is_whole (aCons (eBin opIx (eVar 5) (eC (.int 0))) aNil)) aNil)) ρ M = .ok (.d (.lst [.bl (decide (x.den = 1)), .bl (decide ((x * y).den = 1))])) M := by
      simp only [eLst, q_cons2 w1 w2, bnd]; rfl
    have e1 : eBin (opEq false) (eBin opIx (eVar 2) (eC (.int 1))) (eC (.int 1)) ρ M = .ok (.d (.bl (decide (x.den = 1)))) M := by
      rw [q_bin (ix1 a2) rfl]; simp [opEq, eqR]; omega
    have e2 : eBin (opEq false) (eBin opIx (eBin opIx (eVar 5) (eC (.int 0))) (eC (.int 1))) (eC (.int 1)) ρ M = .ok (.d (.bl (decide ((x * y).den = 1)))) M := by
      have : eBin opIx (eBin opIx (eVar 5) (eC (.int 0))) (eC (.int 1)) ρ M = .ok (.d (.int ((x * y).den : Int))) M := by
        rw [q_bin i5 rfl]; simp [pr, opIx, seqOf, at_1]
      rw [q_bin this rfl]; simp [opEq, eqR]; omega
    have l2 : eLst (aCons (eBin (opEq false) (eBin opIx (eVar 2) (eC (.int 1))) (eC (.int 1))) (aCons (eBin (opEq false) (eBin opIx (eBin opIx (eVar 5) (eC (.int 0))) (eC (.int 1))) (eC (.int 1))) aNil)) ρ M = .ok (.d (.lst [.bl (decide (x.den = 1)), .bl (decide ((x * y).den = 1))])) M := by
      simp only [eLst, q_cons2 e1 e2, bnd]; rfl
    exact q_ret (q_call (n := 2) (q_cons2 l1 l2) rfl rfl (sf_is (Sf.lst (n := 3) (by show 2 ≤ most; unfold most; omega) fun d hd => by
      simp only [List.mem_cons, List.not_mem_nil, or_false] at hd
      rcases hd with rfl | rfl
      · exact Sf.bl 2 _
      · exact Sf.bl 2 _) M)) rfl
  rw [S__law_two_right, q_nx s1, q_nx s2, q_nx s3, q_nx s4, q_nx s5, q_nx s6, s7]
  rfl
end K08

set_option Elab.async false
set_option linter.all false
set_option maxRecDepth 100000
set_option maxHeartbeats 4000000
/-! law k08, plainly: the numbers of a day, by the program. -/
namespace K08
open PySem PySem.Spec PyProof.Rows L2 DL
open NB (Bn Dq Bx)
def nd (u : List Bool) : D := pr (NB.node u).x
theorem within_ok (a lo hi : Int) (h : lo ≤ a ∧ a ≤ hi) (M : Mem) : F_is_within [.d (.int a), .d (.int lo), .d (.int hi)] M = .ok (.bl true) M := by
  unfold F_is_within; rw [fnOf_eq]
  show fnEnd (S_is_within [some (.d (.int a)), some (.d (.int lo)), some (.d (.int hi))] M) = _
  have v0 : eVar 0 [some (.d (.int a)), some (.d (.int lo)), some (.d (.int hi))] M = .ok (.d (.int a)) M := rfl
  have c := q_call (n := 1) (q_cons1 v0) rfl rfl (is_integer_int a M)
  have x : eChain opLe opLe (eVar 1) (eVar 0) (eVar 2) [some (.d (.int a)), some (.d (.int lo)), some (.d (.int hi))] M = .ok (bv true) M := by
    simp [eChain, eVar, look, bnd, opI2, h.1, h.2]
  rw [S_is_within, T1_is_within, q_ret (x := bv true) (by rw [q_eand1 c rfl]; exact x) rfl]
  rfl
theorem btw_node {w : List Bool} {M : Mem} (h : w.length ≤ 400) : F_between_of [.d (po (NB.node w).lo), .d (po (NB.node w).hi)] M = .ok (nd w) M := by
  have d := node_dq h
  obtain ⟨y, ey, sm⟩ := between_ok (M := M) d.2.1 d.2.2 (node_lt w)
  rw [ey, sm.uniq (NB.sm_node w)]; rfl
def nextR (r : List (List Bool)) : Option Rat := match r with | [] => none | y :: _ => some (NB.node y).x
theorem Jl.drop {x : List Bool} {r g : List (List Bool)} (h : NB.Jl none (x :: r) g) : ∃ w g', g = w :: g' ∧ (NB.node w).lo = some (NB.node x).x ∧ (NB.node w).hi = nextR r ∧ NB.Jl none r g' := by
  cases g with
  | nil => exact h.elim
  | cons w g => exact ⟨w, g, rfl, h.1, by rw [h.2.1]; cases r <;> rfl, h.2.2⟩
def envD (d : Nat) (l : List D) (x2 : Option Ev) (acc : List D) (x4 x5 : Option Ev) : DL.Env := [some (.d (.int (d : Int))), some (.d (.lst l)), x2, some (.ls .own acc), x4, x5]
theorem numbers_step {d k : Nat} {x2 x3 x4 x5 : Option Ev} {M : Mem} (hk : k ≤ 10) :
    ∃ x2' x3' x4' x5', B4_numbers_by [some (.d (.int (d : Int))), some (.d (.lst ((NB.io k []).map nd))), x2, x3, x4, x5] M = .nx [some (.d (.int (d : Int))), some (.d (.lst ((NB.io (k + 1) []).map nd))), x2', x3', x4', x5'] M := by
  obtain ⟨w, g, a1, a2, a3, a4, a5, a6⟩ := NB.day_gaps k []
  obtain ⟨x0, r0, hl⟩ := NB.io_ne k []
  have hi0 := a2 x0 r0 hl
  have hlen := NB.io_len k []
  have hp : 2 ^ (k + 1) ≤ 2 ^ 11 := Nat.pow_le_pow_right (by omega) (by omega)
  have hb : (NB.io k []).length ≤ 2047 := by omega
  have bt := btw_node (w := w) (M := M) (by rw [a5]; simp; omega)
  rw [a1, hi0] at bt
  rw [show (NB.node []).lo = none from rfl] at bt
  rw [show (NB.node []).hi = none from rfl] at a3
  generalize hL : NB.io k [] = L at *
  have s1 : sSetN 3 (nF (fLst (aCons (eCall 2 F_between_of (aCons (eC .non) (aCons (eBin opIx (eVar 1) (eC (.int 0))) aNil))) aNil))) [some (.d (.int (d : Int))), some (.d (.lst (L.map nd))), x2, x3, x4, x5] M = .nx (envD d (L.map nd) x2 [nd w] x4 x5) M := by
    have i0 : eBin opIx (eVar 1) (eC (.int 0)) [some (.d (.int (d : Int))), some (.d (.lst (L.map nd))), x2, x3, x4, x5] M = .ok (.d (po (some (NB.node x0).x))) M := by
      rw [q_bin rfl rfl, hl]
      simp [look, opIx, seqOf, at_0]; rfl
    have c := q_cons1 (q_call (n := 2) (q_cons2 (show eC .non [some (.d (.int (d : Int))), some (.d (.lst (L.map nd))), x2, x3, x4, x5] M = .ok (.d (po none)) M from rfl) i0) rfl rfl bt)
    refine q_setNF ?_ (show 3 < 6 by decide)
    simp only [fLst, c, bnd]; rfl
  obtain ⟨ρ', M', e, e1, acc, g', x4', x5', e2, e3, e4, e5, e6⟩ := forL_inv (g := .many [4, 5]) (f := B3_numbers_by)
    (fun i ρ M' => M' = M ∧ ∃ acc g' x4 x5, ρ = envD d (L.map nd) x2 acc x4 x5 ∧ acc ++ (NB.weave (L.drop i) g').map nd = (NB.io (k + 1) []).map nd ∧ NB.Jl none (L.drop i) g' ∧ acc.length ≤ 2 * i + 1 ∧ ∀ v ∈ g', v.length ≤ 400) (pairL (L.map nd)) 0 (envD d (L.map nd) x2 [nd w] x4 x5) M
    (fun i it ρ M' hd ⟨h1, acc, g', x4, x5, h2, h3, h4, h5, h6⟩ => by
      subst h1 h2
      rw [Nat.zero_add] at h3 h4 h5 ⊢
      obtain ⟨y, hy, rfl⟩ := pairL_get hd
      rw [List.getElem?_map] at hy
      cases hx : L[i]? with
      | none => rw [hx] at hy; cases hy
      | some x =>
        rw [hx] at hy
        have ey : y = nd x := by cases hy; rfl
        subst ey
        have hi := (List.getElem?_eq_some_iff.mp hx).1
        have hdrop : L.drop i = x :: L.drop (i + 1) := by
          rw [List.drop_eq_getElem_cons hi, (List.getElem?_eq_some_iff.mp hx).2]
        rw [hdrop] at h3 h4
        obtain ⟨w', g'', eg, q1, q2, q3⟩ := Jl.drop h4
        subst eg
        have bt' := btw_node (w := w') (M := M') (h6 w' List.mem_cons_self)
        rw [q1, q2] at bt'
        have hm1 : acc.length < most := by unfold most; omega
        have hm2 : (acc ++ [nd x]).length < most := by rw [List.length_append, List.length_singleton]; unfold most; omega
        refine ⟨envD d (L.map nd) x2 acc (some (.d (.int (i : Int)))) (some (.d (nd x))), envD d (L.map nd) x2 (acc ++ [nd x] ++ [nd w']) (some (.d (.int (i : Int)))) (some (.d (nd x))), M', rfl, ?_, rfl, _, g'', _, _, rfl, ?_, q3, by simp; omega, fun v hv => h6 v (List.mem_cons_of_mem _ hv)⟩
        · have r1 := q_appO (ρ := envD d (L.map nd) x2 acc (some (.d (.int (i : Int)))) (some (.d (nd x)))) (M := M') (i := 3) (l := acc) (f := eVar 5) (d := nd x) rfl rfl hm1
          have nxt : eIf (tCmpE opLt (eBin opAdd (eVar 4) (eC (.int 1))) (eB bLen (aCons (eVar 1) aNil))) (eBin opIx (eVar 1) (eBin opAdd (eVar 4) (eC (.int 1)))) (eC .non) (envD d (L.map nd) x2 (acc ++ [nd x]) (some (.d (.int (i : Int)))) (some (.d (nd x)))) M' = .ok (.d (po (nextR (L.drop (i + 1))))) M' := by
            have x1 : eBin opAdd (eVar 4) (eC (.int 1)) (envD d (L.map nd) x2 (acc ++ [nd x]) (some (.d (.int (i : Int)))) (some (.d (nd x)))) M' = .ok (.d (.int ((i + 1 : Nat) : Int))) M' := by
              rw [q_bin rfl rfl, show ((i + 1 : Nat) : Int) = (i : Int) + 1 by omega]; rfl
            have x2' : eB bLen (aCons (eVar 1) aNil) (envD d (L.map nd) x2 (acc ++ [nd x]) (some (.d (.int (i : Int)))) (some (.d (nd x)))) M' = .ok (.d (.int (L.length : Int))) M' := by
              rw [q_B (q_cons1 (show eVar 1 _ M' = .ok (.d (.lst (L.map nd))) M' from rfl))]
              simp [bLen, seqOf]
            have t : tCmpE opLt (eBin opAdd (eVar 4) (eC (.int 1))) (eB bLen (aCons (eVar 1) aNil)) (envD d (L.map nd) x2 (acc ++ [nd x]) (some (.d (.int (i : Int)))) (some (.d (nd x)))) M' = .ok (decide (i + 1 < L.length)) M' := by
              refine q_cmp ?_
              rw [q_bin x1 x2']
              simp [opLt]; omega
            by_cases hlt : i + 1 < L.length
            · rw [decide_eq_true hlt] at t
              have hdd : L.drop (i + 1) = L[i + 1] :: L.drop (i + 1 + 1) := List.drop_eq_getElem_cons hlt
              have at' : atI (L.map nd) ((i + 1 : Nat) : Int) = some (nd L[i + 1]) := by
                rw [atI_get', List.getElem?_map, List.getElem?_eq_getElem hlt]; rfl
              simp only [eIf, t, bnd, if_true, hdd]
              rw [q_bin (show eVar 1 _ M' = .ok (.d (.lst (L.map nd))) M' from rfl) x1]
              simp only [opIx, seqOf, at']
              rfl
            · rw [decide_eq_false hlt] at t
              have hdd : L.drop (i + 1) = [] := List.drop_eq_nil_of_le (by omega)
              simp only [eIf, t, bnd, Bool.false_eq_true, if_false, hdd]
              rfl
          have c := q_call (n := 2) (q_cons2 (show eVar 5 (envD d (L.map nd) x2 (acc ++ [nd x]) (some (.d (.int (i : Int)))) (some (.d (nd x)))) M' = .ok (.d (po (some (NB.node x).x))) M' from rfl) nxt) rfl rfl bt'
          have r2 := q_appO (ρ := envD d (L.map nd) x2 (acc ++ [nd x]) (some (.d (.int (i : Int)))) (some (.d (nd x)))) (i := 3) (l := acc ++ [nd x]) c rfl hm2
          rw [B3_numbers_by, q_nx r1]
          exact r2
        · rw [← h3]
          show _ = acc ++ (x :: w' :: NB.weave (L.drop (i + 1)) g'').map nd
          simp) ⟨rfl, [nd w], g, x4, x5, rfl, by rw [a4]; simp, by simpa using a3, by simp, fun v hv => by rw [a6 v hv]; simp; omega⟩
  subst e1 e2
  rw [pairL_len, List.length_map, Nat.zero_add, List.drop_length] at e3
  have etot : acc = (NB.io (k + 1) []).map nd := by
    rw [← e3]
    cases g' <;> simp [NB.weave]
  have itE : iO (enumA false) (aCons (eVar 1) aNil) (envD d (L.map nd) x2 [nd w] x4 x5) M' = .ok (pairL (L.map nd)) M' := rfl
  have s2 : sFor (iO (enumA false) (aCons (eVar 1) aNil)) (.many [4, 5]) B3_numbers_by (envD d (L.map nd) x2 [nd w] x4 x5) M' = .nx (envD d (L.map nd) x2 acc x4' x5') M' := q_for itE e
  refine ⟨x2, some (.d (.lst acc)), x4', x5', ?_⟩
  rw [B4_numbers_by, q_nx s1, q_nx s2, ← etot]
  rfl
theorem numbers_ok {d : Nat} {M : Mem} (h : d ≤ 10) : F_numbers_by [.d (.int (d : Int))] M = .ok (.tup ((NB.io d []).map nd)) M := by
  unfold F_numbers_by; rw [fnOf_eq]
  show fnEnd (S_numbers_by [some (.d (.int (d : Int))), none, none, none, none, none] M) = _
  have s1 : T1_numbers_by [some (.d (.int (d : Int))), none, none, none, none, none] M = .nx [some (.d (.int (d : Int))), none, none, none, none, none] M := by
    refine q_skip ?_
    rw [q_not (truV (q_call (n := 3) (q_cons (show eVar 0 _ M = .ok (.d (.int (d : Int))) M from rfl) (q_cons2 (show eC (.int 0) _ M = .ok (.d (.int 0)) M from rfl) (show eC (.int 10) _ M = .ok (.d (.int 10)) M from rfl))) rfl rfl (within_ok (d : Int) 0 10 ⟨by omega, by omega⟩ M)))]
    rfl
  have s2 : T2_numbers_by [some (.d (.int (d : Int))), none, none, none, none, none] M = .nx [some (.d (.int (d : Int))), some (.d (.lst ((NB.io 0 []).map nd))), none, none, none, none] M := rfl
  obtain ⟨ρ', M', e, e1, x2, x3, x4, x5, e2⟩ := forL_inv (g := .one 2) (f := B4_numbers_by) (fun k ρ M' => M' = M ∧ ∃ x2 x3 x4 x5, ρ = [some (.d (.int (d : Int))), some (.d (.lst ((NB.io k []).map nd))), x2, x3, x4, x5]) (rangeL 0 d 1) 0 [some (.d (.int (d : Int))), some (.d (.lst ((NB.io 0 []).map nd))), none, none, none, none] M
    (fun i it ρ M' hd ⟨h1, x2, x3, x4, x5, h2⟩ => by
      subst h1 h2
      obtain ⟨hi, rfl⟩ := rangeL_get hd
      rw [Nat.zero_add]
      obtain ⟨y2, y3, y4, y5, e⟩ := numbers_step (d := d) (k := i) (x2 := some (.d (.int (0 + (i : Int) * 1)))) (x3 := x3) (x4 := x4) (x5 := x5) (M := M') (by omega)
      exact ⟨_, _, M', rfl, e, rfl, y2, y3, y4, y5, rfl⟩) ⟨rfl, _, _, _, _, rfl⟩
  subst e1 e2
  rw [rangeL_len, Nat.zero_add] at e
  rw [S_numbers_by, q_nx s1, q_nx s2, q_nx (show T5_numbers_by _ _ = _ from q_for (q_rng1 (by omega) rfl) e)]
  rfl
end K08

set_option Elab.async false
set_option linter.all false
set_option maxRecDepth 100000
set_option maxHeartbeats 4000000
/-! law k08, plainly: days are right. -/
namespace K08
open PySem PySem.Spec PyProof.Rows L2 DL
open NB (Bn Dq Bx)
def wd (u : List Bool) : D := .str (ws u)
theorem Jl.at : ∀ {r g : List (List Bool)}, NB.Jl none r g → ∀ i (a b : List Bool), r[i]? = some a → r[i + 1]? = some b → ∃ w ∈ g, (NB.node w).lo = some (NB.node a).x ∧ (NB.node w).hi = some (NB.node b).x
  | [], _, _, i, a, b, h, _ => by simp at h
  | x :: r, [], h, _, _, _, _, _ => h.elim
  | x :: r, w :: g, h, 0, a, b, ha, hb => by
    cases r with
    | nil => simp at hb
    | cons y r =>
      simp at ha hb
      subst ha hb
      exact ⟨w, List.mem_cons_self, h.1, h.2.1⟩
  | x :: r, w :: g, h, i + 1, a, b, ha, hb => by
    obtain ⟨v, hv, k⟩ := Jl.at h.2.2 i a b (by simpa using ha) (by simpa using hb)
    exact ⟨v, List.mem_cons_of_mem _ hv, k⟩
theorem node_mid {w : List Bool} {l h : Rat} (h1 : (NB.node w).lo = some l) (h2 : (NB.node w).hi = some h) : (NB.node w).x = (l + h) / 2 := by
  have := NB.node_sh w
  generalize NB.node w = s at *
  cases this with
  | mid a1 a2 a3 a4 => rw [a2] at h1; cases h1
  | pos k a0 a1 a2 a3 a4 => rw [a3] at h2; cases h2
  | neg k a0 a1 a2 a3 a4 => rw [a2] at h1; cases h1
  | fr t j k a1 a2 a3 a4 a5 a6 a7 =>
    rw [a2] at h1; rw [a3] at h2
    cases h1; cases h2
    rw [a1]; simp only [NB.p]; grind
theorem alls_len {d : Nat} {v : List Bool} (h : v ∈ NB.alls d []) : v.length ≤ d := by
  have := (NB.io_perm d []).mem_iff.mpr h
  obtain ⟨z, e, k⟩ := NB.io_mem d [] v this
  rw [e]; simpa using k
theorem lev_len : ∀ (k : Nat) (u v : List Bool), v ∈ NB.lev k u → v.length = u.length + k
  | 0, u, v, h => by have : v = u := by simpa [NB.lev] using h
                     rw [this]; rfl
  | k + 1, u, v, h => by
    have h' : v ∈ NB.lev k (u ++ [true]) ++ NB.lev k (u ++ [false]) := h
    rcases List.mem_append.mp h' with h' | h'
    · rw [lev_len k _ v h']; simp; omega
    · rw [lev_len k _ v h']; simp; omega
theorem lev_cnt : ∀ (k : Nat) (u : List Bool), (NB.lev k u).length = 2 ^ k
  | 0, u => rfl
  | k + 1, u => by
    show (NB.lev k (u ++ [true]) ++ NB.lev k (u ++ [false])).length = _
    rw [List.length_append, lev_cnt k, lev_cnt k, Nat.pow_succ]; omega
theorem alls_cnt (d : Nat) : (NB.alls d []).length + 1 = 2 ^ (d + 1) := by
  rw [← (NB.io_perm d []).length_eq]; exact NB.io_len d []
/-- whole tops over one bottom -/
def tp (u : List Bool) : Int := (NB.node u).x.num * (NB.T 11 / ((NB.node u).x.den : Int))
theorem tp_ok {u : List Bool} (h : u.length ≤ 11) : (tp u : Rat) * NB.p 11 = (NB.node u).x := by
  obtain ⟨h1, h2, a, e⟩ := NB.node_bx u
  obtain ⟨m, k1, k2, _⟩ := NB.dy u.length a
  rw [← e] at k2
  have e3 := NB.of_den k2
  have hT : NB.T 11 / ((NB.node u).x.den : Int) = NB.T (11 - m) := by
    rw [k2]
    have : NB.T 11 = NB.T (11 - m) * ((2 ^ m : Nat) : Int) := by
      unfold NB.T
      rw [← Int.natCast_mul, ← Nat.pow_add, show 11 - m + m = 11 by omega]
    rw [this, Int.mul_ediv_cancel _ (by have := Nat.two_pow_pos m; omega)]
  unfold tp
  rw [hT]
  have r := NB.p_raise m (11 - m)
  rw [show m + (11 - m) = 11 by omega] at r
  rw [Rat.intCast_mul, Rat.mul_assoc, ← r]
  exact e3.symm
theorem longer_step {r : List (List Bool)} {i : Nat} {w : List Bool} (h : r[i]? = some w) : (r.take (i + 1)).flatMap (fun w => [w ++ [true], w ++ [false]]) = (r.take i).flatMap (fun w => [w ++ [true], w ++ [false]]) ++ [w ++ [true], w ++ [false]] := by
  rw [List.take_add_one, h, List.flatMap_append]; rfl
theorem step_word {k : Nat} {x0 x1 x4 x5 x6 x7 x8 x9 x10 x11 x12 x13 : Option Ev} {M : Mem} (hk : k ≤ 10) :
    ∃ y5 y6, B3__law_days_right [x0, x1, some (.d (.lst ((NB.alls k []).map wd))), some (.d (.lst ((NB.lev k []).map wd))), x4, x5, x6, x7, x8, x9, x10, x11, x12, x13] M = .nx [x0, x1, some (.d (.lst ((NB.alls (k + 1) []).map wd))), some (.d (.lst ((NB.lev (k + 1) []).map wd))), x4, y5, y6, x7, x8, x9, x10, x11, x12, x13] M := by
  have c1 := lev_cnt k []
  have c2 := alls_cnt k
  have hp : 2 ^ k ≤ 2 ^ 10 := Nat.pow_le_pow_right (by omega) hk
  have hp2 : 2 ^ (k + 1) = 2 * 2 ^ k := by rw [Nat.pow_succ]; omega
  have s1 : sSetN 5 (nF (fLst aNil)) [x0, x1, some (.d (.lst ((NB.alls k []).map wd))), some (.d (.lst ((NB.lev k []).map wd))), x4, x5, x6, x7, x8, x9, x10, x11, x12, x13] M = .nx [x0, x1, some (.d (.lst ((NB.alls k []).map wd))), some (.d (.lst ((NB.lev k []).map wd))), x4, some (.ls .own []), x6, x7, x8, x9, x10, x11, x12, x13] M := rfl
  obtain ⟨ρ', M', e, e1, y6, e2⟩ := forL_inv (g := .one 6) (f := B2__law_days_right) (fun i ρ M' => M' = M ∧ ∃ y6, ρ = [x0, x1, some (.d (.lst ((NB.alls k []).map wd))), some (.d (.lst ((NB.lev k []).map wd))), x4, some (.ls .own ((((NB.lev k []).take i).flatMap (fun w => [w ++ [true], w ++ [false]])).map wd)), y6, x7, x8, x9, x10, x11, x12, x13]) ((NB.lev k []).map wd) 0 [x0, x1, some (.d (.lst ((NB.alls k []).map wd))), some (.d (.lst ((NB.lev k []).map wd))), x4, some (.ls .own []), x6, x7, x8, x9, x10, x11, x12, x13] M
    (fun i d ρ M' hd ⟨h1, y6, h2⟩ => by
      subst h1 h2
      rw [Nat.zero_add]
      rw [List.getElem?_map] at hd
      cases hw : (NB.lev k [])[i]? with
      | none => rw [hw] at hd; cases hd
      | some w =>
        rw [hw] at hd
        have ed : d = wd w := by cases hd; rfl
        subst ed
        have hi := (List.getElem?_eq_some_iff.mp hw).1
        have hwl := lev_len k [] w (List.mem_of_getElem? hw)
        have hwl' : w.length ≤ 10 := by rw [hwl]; simp; omega
        refine ⟨[x0, x1, some (.d (.lst ((NB.alls k []).map wd))), some (.d (.lst ((NB.lev k []).map wd))), x4, some (.ls .own ((((NB.lev k []).take i).flatMap (fun w => [w ++ [true], w ++ [false]])).map wd)), some (.d (wd w)), x7, x8, x9, x10, x11, x12, x13], _, M', rfl, ?_, rfl, some (.d (wd w)), rfl⟩
        have ap : ∀ b : Bool, eBin opAdd (eVar 6) (eC (lt b)) [x0, x1, some (.d (.lst ((NB.alls k []).map wd))), some (.d (.lst ((NB.lev k []).map wd))), x4, some (.ls .own ((((NB.lev k []).take i).flatMap (fun w => [w ++ [true], w ++ [false]])).map wd)), some (.d (wd w)), x7, x8, x9, x10, x11, x12, x13] M' = .ok (.d (wd (w ++ [b]))) M' := fun b => by
          rw [q_bin (show eVar 6 _ M' = .ok (.d (.str (ws w))) M' from rfl) (show eC (lt b) _ M' = .ok (.d (.str (ws [b]))) M' from rfl)]
          have lw : (ws w).length + (ws [b]).length ≤ most := by rw [ws_len, ws_len]; unfold most; simp; omega
          simp only [opAdd, opAddS, if_pos lw, ws_app]; rfl
        have l : eLst (aCons (eBin opAdd (eVar 6) (eC (.str "L"))) (aCons (eBin opAdd (eVar 6) (eC (.str "R"))) aNil)) [x0, x1, some (.d (.lst ((NB.alls k []).map wd))), some (.d (.lst ((NB.lev k []).map wd))), x4, some (.ls .own ((((NB.lev k []).take i).flatMap (fun w => [w ++ [true], w ++ [false]])).map wd)), some (.d (wd w)), x7, x8, x9, x10, x11, x12, x13] M' = .ok (.d (.lst [wd (w ++ [true]), wd (w ++ [false])])) M' := by
          have h := q_cons2 (ap true) (ap false)
          have h' : aCons (eBin opAdd (eVar 6) (eC (.str "L"))) (aCons (eBin opAdd (eVar 6) (eC (.str "R"))) aNil) [x0, x1, some (.d (.lst ((NB.alls k []).map wd))), some (.d (.lst ((NB.lev k []).map wd))), x4, some (.ls .own ((((NB.lev k []).take i).flatMap (fun w => [w ++ [true], w ++ [false]])).map wd)), some (.d (wd w)), x7, x8, x9, x10, x11, x12, x13] M' = .ok [.d (wd (w ++ [true])), .d (wd (w ++ [false]))] M' := h
          simp only [eLst, h', bnd]; rfl
        have hlen : ((((NB.lev k []).take i).flatMap (fun w => [w ++ [true], w ++ [false]])).map wd).length ≤ 2 * i := by
          rw [List.length_map, List.length_flatMap]
          have : ∀ l : List (List Bool), (l.map (fun w => [w ++ [true], w ++ [false]].length)).sum = 2 * l.length := by
            intro l
            induction l with
            | nil => rfl
            | cons a l ih => rw [List.map_cons, List.sum_cons, ih]; simp; omega
          rw [this, List.length_take]; omega
        rw [B2__law_days_right, sExt]
        show (if true = true then sE _ _ _ else _) = _
        rw [if_pos rfl, l, longer_step hw, List.map_append]
        show (if _ + 2 ≤ most then _ else _) = _
        rw [if_pos (by unfold most; omega)]
        rfl) ⟨rfl, x6, rfl⟩
  subst e1 e2
  rw [List.length_map, Nat.zero_add, List.take_length, NB.lev_next] at e
  have s2 : sFor (iSeq false (eVar 3)) (.one 6) B2__law_days_right [x0, x1, some (.d (.lst ((NB.alls k []).map wd))), some (.d (.lst ((NB.lev k []).map wd))), x4, some (.ls .own []), x6, x7, x8, x9, x10, x11, x12, x13] M' = .nx [x0, x1, some (.d (.lst ((NB.alls k []).map wd))), some (.d (.lst ((NB.lev k []).map wd))), x4, some (.ls .own ((NB.lev (k + 1) []).map wd)), y6, x7, x8, x9, x10, x11, x12, x13] M' := q_for rfl e
  have s3 : (sSeq (sFz 5) (sAsg 3 (eVar 5))) [x0, x1, some (.d (.lst ((NB.alls k []).map wd))), some (.d (.lst ((NB.lev k []).map wd))), x4, some (.ls .own ((NB.lev (k + 1) []).map wd)), y6, x7, x8, x9, x10, x11, x12, x13] M' = .nx [x0, x1, some (.d (.lst ((NB.alls k []).map wd))), some (.d (.lst ((NB.lev (k + 1) []).map wd))), x4, some (.d (.lst ((NB.lev (k + 1) []).map wd))), y6, x7, x8, x9, x10, x11, x12, x13] M' := rfl
  have cat : eBin opAdd (eVar 2) (eVar 3) [x0, x1, some (.d (.lst ((NB.alls k []).map wd))), some (.d (.lst ((NB.lev (k + 1) []).map wd))), x4, some (.d (.lst ((NB.lev (k + 1) []).map wd))), y6, x7, x8, x9, x10, x11, x12, x13] M' = .ok (.d (.lst ((NB.alls (k + 1) []).map wd))) M' := by
    rw [q_bin (show eVar 2 _ M' = .ok (.d (.lst ((NB.alls k []).map wd))) M' from rfl) (show eVar 3 _ M' = .ok (.d (.lst ((NB.lev (k + 1) []).map wd))) M' from rfl)]
    have c3 := lev_cnt (k + 1) []
    have hl : ((NB.alls k []).map wd).length + ((NB.lev (k + 1) []).map wd).length ≤ most := by rw [List.length_map, List.length_map]; unfold most; omega
    simp only [opAdd, opAddL, lstOf, if_pos hl]
    show R.ok (Ev.d (.lst ((NB.alls k []).map wd ++ (NB.lev (k + 1) []).map wd))) M' = _
    rw [← List.map_append]; rfl
  refine ⟨some (.d (.lst ((NB.lev (k + 1) []).map wd))), y6, ?_⟩
  rw [B3__law_days_right, q_nx s1, q_nx s2, q_nx s3]
  exact q_set cat rfl (show 2 < 14 by decide)
theorem days_right {cells : List Int} {B : Nat} {M : Mem} (hc : Cl cells) (hM : Hd cells B M) (hB : B + 100 ≤ 1000000) : ∃ M', F__law_days_right [.d (.ob 0)] M = .ok (.bl true) M' ∧ Hd cells (B + 100) M' := by
  obtain ⟨r, M1, e1, r0, r1, h1⟩ := kdraw hc hM (by omega) (many := 11) (by omega) (by decide)
  obtain ⟨d, rfl⟩ : ∃ d : Nat, r = (d : Int) := ⟨r.toNat, by omega⟩
  have hd : d ≤ 10 := by omega
  have hlen := NB.io_len d []
  have hp : 2 ^ (d + 1) ≤ 2 ^ 11 := Nat.pow_le_pow_right (by omega) (by omega)
  have hL : (NB.io d []).length ≤ 2047 := by omega
  have hal : (NB.alls d []).length ≤ 2047 := by rw [← (NB.io_perm d []).length_eq]; exact hL
  unfold F__law_days_right; rw [fnOf_eq]
  show ∃ M', fnEnd (S__law_days_right [some (.d (.ob 0)), none, none, none, none, none, none, none, none, none, none, none, none, none] M) = _ ∧ _
  have s1 : T1__law_days_right [some (.d (.ob 0)), none, none, none, none, none, none, none, none, none, none, none, none, none] M = .nx [some (.d (.ob 0)), some (.d (.int (d : Int))), some (.d (.lst ((NB.alls 0 []).map wd))), some (.d (.lst ((NB.lev 0 []).map wd))), none, none, none, none, none, none, none, none, none, none] M1 := by
    have x1 := q_call (n := 2) (q_cons2 (show eVar 0 [some (.d (.ob 0)), none, none, none, none, none, none, none, none, none, none, none, none, none] M = .ok (.d (.ob 0)) M from rfl) (show eC (.int 11) _ M = .ok (.d (.int 11)) M from rfl)) rfl rfl e1
    have l := q_cons x1 (q_cons2 (show eLst (aCons (eC (.str "")) aNil) [some (.d (.ob 0)), none, none, none, none, none, none, none, none, none, none, none, none, none] M1 = .ok (.d (.lst [wd []])) M1 from rfl) (show eLst (aCons (eC (.str "")) aNil) _ M1 = .ok (.d (.lst [wd []])) M1 from rfl))
    simp only [T1__law_days_right, sPar, l, sE]; rfl
  obtain ⟨ρ4, M4, e4, e5, y4, y5, y6, e6⟩ := forL_inv (g := .one 4) (f := B3__law_days_right) (fun k ρ M' => M' = M1 ∧ ∃ y4 y5 y6, ρ = [some (.d (.ob 0)), some (.d (.int (d : Int))), some (.d (.lst ((NB.alls k []).map wd))), some (.d (.lst ((NB.lev k []).map wd))), y4, y5, y6, none, none, none, none, none, none, none]) (rangeL 0 d 1) 0 [some (.d (.ob 0)), some (.d (.int (d : Int))), some (.d (.lst ((NB.alls 0 []).map wd))), some (.d (.lst ((NB.lev 0 []).map wd))), none, none, none, none, none, none, none, none, none, none] M1
    (fun i it ρ M' hdd ⟨k1, y4, y5, y6, k2⟩ => by
      subst k1 k2
      obtain ⟨hi, rfl⟩ := rangeL_get hdd
      rw [Nat.zero_add]
      obtain ⟨z5, z6, e⟩ := step_word (k := i) (x0 := some (.d (.ob 0))) (x1 := some (.d (.int (d : Int)))) (x4 := some (.d (.int (0 + (i : Int) * 1)))) (x5 := y5) (x6 := y6) (x7 := none) (x8 := none) (x9 := none) (x10 := none) (x11 := none) (x12 := none) (x13 := none) (M := M') (by omega)
      exact ⟨_, _, M', rfl, e, rfl, _, _, _, rfl⟩) ⟨rfl, none, none, none, rfl⟩
  subst e5 e6
  rw [rangeL_len, Nat.zero_add] at e4
  have s4 : T4__law_days_right [some (.d (.ob 0)), some (.d (.int (d : Int))), some (.d (.lst ((NB.alls 0 []).map wd))), some (.d (.lst ((NB.lev 0 []).map wd))), none, none, none, none, none, none, none, none, none, none] M4 = .nx [some (.d (.ob 0)), some (.d (.int (d : Int))), some (.d (.lst ((NB.alls d []).map wd))), some (.d (.lst ((NB.lev d []).map wd))), y4, y5, y6, none, none, none, none, none, none, none] M4 := q_for (q_rng1 (by omega) rfl) e4
  have s5 : T5__law_days_right [some (.d (.ob 0)), some (.d (.int (d : Int))), some (.d (.lst ((NB.alls d []).map wd))), some (.d (.lst ((NB.lev d []).map wd))), y4, y5, y6, none, none, none, none, none, none, none] M4 = .nx [some (.d (.ob 0)), some (.d (.int (d : Int))), some (.d (.lst ((NB.alls d []).map wd))), some (.d (.lst ((NB.lev d []).map wd))), y4, y5, y6, some (.d (.lst ((NB.alls d []).map nd))), none, none, none, none, none, none] M4 := by
    have lc : fLc (iSeq true (eVar 2)) (.one 6) [6] tYesE (eBin opIx (eCall 1 F__law_number_by (aCons (eVar 6) aNil)) (eC (.int 0))) [some (.d (.ob 0)), some (.d (.int (d : Int))), some (.d (.lst ((NB.alls d []).map wd))), some (.d (.lst ((NB.lev d []).map wd))), y4, y5, y6, none, none, none, none, none, none, none] M4 = .ok ((NB.alls d []).map nd) M4 := by
      have it : iSeq true (eVar 2) [some (.d (.ob 0)), some (.d (.int (d : Int))), some (.d (.lst ((NB.alls d []).map wd))), some (.d (.lst ((NB.lev d []).map wd))), y4, y5, y6, none, none, none, none, none, none, none] M4 = .ok ((NB.alls d []).map wd) M4 := rfl
      simp only [fLc, it, bnd]
      rw [if_pos (by rw [List.length_map]; unfold most; omega)]
      obtain ⟨l, M', e, q1, q2⟩ := lcL_inv (g := .one 6) (vs := [6]) (t := tYesE) (f := eBin opIx (eCall 1 F__law_number_by (aCons (eVar 6) aNil)) (eC (.int 0))) (ρ := [some (.d (.ob 0)), some (.d (.int (d : Int))), some (.d (.lst ((NB.alls d []).map wd))), some (.d (.lst ((NB.lev d []).map wd))), y4, y5, y6, none, none, none, none, none, none, none]) (fun i acc M' => acc = ((NB.alls d []).take i).map nd ∧ M' = M4) ((NB.alls d []).map wd) 0 [] M4 (fun i dd acc M1 hdd hi => by
        obtain ⟨q1, q2⟩ := hi
        subst q2
        rw [List.getElem?_map] at hdd
        cases hw : (NB.alls d [])[i]? with
        | none => rw [hw] at hdd; cases hdd
        | some w =>
          rw [hw] at hdd
          have ed : dd = wd w := by cases hdd; rfl
          subst ed
          have hwl := alls_len (List.mem_of_getElem? hw)
          refine ⟨[some (.d (.ob 0)), some (.d (.int (d : Int))), some (.d (.lst ((NB.alls d []).map wd))), some (.d (.lst ((NB.lev d []).map wd))), y4, y5, some (.d (wd w)), none, none, none, none, none, none, none], true, M1, rfl, rfl, .inl ⟨rfl, nd w, M1, ?_, ?_, rfl⟩⟩
          · rw [q_bin (q_call (n := 1) (q_cons1 (show eVar 6 _ M1 = .ok (.d (.str (ws w))) M1 from rfl)) rfl rfl (number_by_ok (M := M1) (w := w) (by omega))) rfl]
            simp [stD, opIx, seqOf, at_0]; rfl
          · rw [q1, Nat.zero_add, List.take_add_one, hw, List.map_append]; rfl) ⟨rfl, rfl⟩
      rw [e, q1, q2, List.length_map, Nat.zero_add, List.take_length]
    have ne : nE (eF (fLc (iSeq true (eVar 2)) (.one 6) [6] tYesE (eBin opIx (eCall 1 F__law_number_by (aCons (eVar 6) aNil)) (eC (.int 0))))) [some (.d (.ob 0)), some (.d (.int (d : Int))), some (.d (.lst ((NB.alls d []).map wd))), some (.d (.lst ((NB.lev d []).map wd))), y4, y5, y6, none, none, none, none, none, none, none] M4 = .ok (.d (.lst ((NB.alls d []).map nd))) M4 := by
      simp only [nE, eF, lc, bnd, stor, optR]
    exact q_setN ne (show 7 < 14 by decide)
  have s6 : T6__law_days_right [some (.d (.ob 0)), some (.d (.int (d : Int))), some (.d (.lst ((NB.alls d []).map wd))), some (.d (.lst ((NB.lev d []).map wd))), y4, y5, y6, some (.d (.lst ((NB.alls d []).map nd))), none, none, none, none, none, none] M4 = .nx [some (.d (.ob 0)), some (.d (.int (d : Int))), some (.d (.lst ((NB.alls d []).map wd))), some (.d (.lst ((NB.lev d []).map wd))), y4, y5, y6, some (.d (.lst ((NB.alls d []).map nd))), some (.d (.int (NB.T 11))), none, none, none, none, none] M4 :=
    q_set (q_call (n := 1) (q_cons1 (show eC (.int 11) _ M4 = .ok (.d (.int ((11 : Nat) : Int))) M4 from rfl)) rfl rfl (power_ok 11 M4 (by omega))) rfl (show 8 < 14 by decide)
  have tops : srt ((NB.alls d []).map tp) = (NB.io d []).map tp := by
    refine (srt_is (((NB.io_perm d []).map tp)) ?_).symm
    rw [List.pairwise_map]
    refine (NB.io_asc d []).imp_of_mem fun {a b} ha hb hab => ?_
    obtain ⟨za, ea, la⟩ := NB.io_mem d [] a ha
    obtain ⟨zb, eb, lb⟩ := NB.io_mem d [] b hb
    have ta := tp_ok (u := a) (by rw [ea]; simp; omega)
    have tb := tp_ok (u := b) (by rw [eb]; simp; omega)
    rw [← ta, ← tb] at hab
    have := (Rat.mul_lt_mul_right (NB.p_pos 11)).mp hab
    have := Rat.intCast_lt_intCast.mp this
    omega
  have s7 : T7__law_days_right [some (.d (.ob 0)), some (.d (.int (d : Int))), some (.d (.lst ((NB.alls d []).map wd))), some (.d (.lst ((NB.lev d []).map wd))), y4, y5, y6, some (.d (.lst ((NB.alls d []).map nd))), some (.d (.int (NB.T 11))), none, none, none, none, none] M4 = .nx [some (.d (.ob 0)), some (.d (.int (d : Int))), some (.d (.lst ((NB.alls d []).map wd))), some (.d (.lst ((NB.lev d []).map wd))), y4, y5, y6, some (.d (.lst ((NB.alls d []).map nd))), some (.d (.int (NB.T 11))), some (.d (.tup ((NB.io d []).map nd))), none, none, none, none] M4 := by
    have lc1 : fLc (iSeq true (eVar 7)) (.one 13) [13] tYesE (eBin opMulA (eBin opIx (eVar 13) (eC (.int 0))) (eBin opDiv (eVar 8) (eBin opIx (eVar 13) (eC (.int 1))))) [some (.d (.ob 0)), some (.d (.int (d : Int))), some (.d (.lst ((NB.alls d []).map wd))), some (.d (.lst ((NB.lev d []).map wd))), y4, y5, y6, some (.d (.lst ((NB.alls d []).map nd))), some (.d (.int (NB.T 11))), none, none, none, none, none] M4 = .ok (((NB.alls d []).map tp).map D.int) M4 := by
      have it : iSeq true (eVar 7) [some (.d (.ob 0)), some (.d (.int (d : Int))), some (.d (.lst ((NB.alls d []).map wd))), some (.d (.lst ((NB.lev d []).map wd))), y4, y5, y6, some (.d (.lst ((NB.alls d []).map nd))), some (.d (.int (NB.T 11))), none, none, none, none, none] M4 = .ok ((NB.alls d []).map nd) M4 := rfl
      simp only [fLc, it, bnd]
      rw [if_pos (by rw [List.length_map]; unfold most; omega)]
      obtain ⟨l, M', e, q1, q2⟩ := lcL_inv (g := .one 13) (vs := [13]) (t := tYesE) (f := eBin opMulA (eBin opIx (eVar 13) (eC (.int 0))) (eBin opDiv (eVar 8) (eBin opIx (eVar 13) (eC (.int 1))))) (ρ := [some (.d (.ob 0)), some (.d (.int (d : Int))), some (.d (.lst ((NB.alls d []).map wd))), some (.d (.lst ((NB.lev d []).map wd))), y4, y5, y6, some (.d (.lst ((NB.alls d []).map nd))), some (.d (.int (NB.T 11))), none, none, none, none, none]) (fun i acc M' => acc = (((NB.alls d []).take i).map tp).map D.int ∧ M' = M4) ((NB.alls d []).map nd) 0 [] M4 (fun i dd acc M1 hdd hi => by
        obtain ⟨q1, q2⟩ := hi
        subst q2
        rw [List.getElem?_map] at hdd
        cases hw : (NB.alls d [])[i]? with
        | none => rw [hw] at hdd; cases hdd
        | some w =>
          rw [hw] at hdd
          have ed : dd = nd w := by cases hdd; rfl
          subst ed
          have hwl := alls_len (List.mem_of_getElem? hw)
          have dq := (node_dq (u := w) (by omega)).1
          refine ⟨[some (.d (.ob 0)), some (.d (.int (d : Int))), some (.d (.lst ((NB.alls d []).map wd))), some (.d (.lst ((NB.lev d []).map wd))), y4, y5, y6, some (.d (.lst ((NB.alls d []).map nd))), some (.d (.int (NB.T 11))), none, none, none, none, some (.d (nd w))], true, M1, rfl, rfl, .inl ⟨rfl, .int (tp w), M1, ?_, ?_, rfl⟩⟩
          · have a13 : At [some (.d (.ob 0)), some (.d (.int (d : Int))), some (.d (.lst ((NB.alls d []).map wd))), some (.d (.lst ((NB.lev d []).map wd))), y4, y5, y6, some (.d (.lst ((NB.alls d []).map nd))), some (.d (.int (NB.T 11))), none, none, none, none, some (.d (nd w))] 13 (.d (prI (NB.node w).x.num ((NB.node w).x.den : Int))) := rfl
            have cd : cDiv (NB.T 11) ((NB.node w).x.den : Int) := cdB (NB.den_pos _) (bn_den dq) (by omega)
            have x1 : eBin opDiv (eVar 8) (eBin opIx (eVar 13) (eC (.int 1))) [some (.d (.ob 0)), some (.d (.int (d : Int))), some (.d (.lst ((NB.alls d []).map wd))), some (.d (.lst ((NB.lev d []).map wd))), y4, y5, y6, some (.d (.lst ((NB.alls d []).map nd))), some (.d (.int (NB.T 11))), none, none, none, none, some (.d (nd w))] M1 = .ok (.d (.int (NB.T 11 / ((NB.node w).x.den : Int)))) M1 := by
              rw [q_bin (show eVar 8 _ M1 = .ok (.d (.int (NB.T 11))) M1 from rfl) (ix1 a13)]
              simp only [opDiv, if_pos cd]
            have hT : Bn 402 (NB.T 11 / ((NB.node w).x.den : Int)) := Bn.mono (Bn.ediv (n := 12) (bn_T (by omega)) (NB.den_pos _)) (by omega)
            have cm : cMul (NB.node w).x.num (NB.T 11 / ((NB.node w).x.den : Int)) := cmB dq.2 hT (by omega)
            rw [q_bin (ix0 a13) x1]
            simp only [opMulA, opMul, if_pos cm]; rfl
          · rw [q1, Nat.zero_add, List.take_add_one, hw, List.map_append, List.map_append]; rfl) ⟨rfl, rfl⟩
      rw [e, q1, q2, List.length_map, Nat.zero_add, List.take_length]
    have ef1 : eF (fLc (iSeq true (eVar 7)) (.one 13) [13] tYesE (eBin opMulA (eBin opIx (eVar 13) (eC (.int 0))) (eBin opDiv (eVar 8) (eBin opIx (eVar 13) (eC (.int 1)))))) [some (.d (.ob 0)), some (.d (.int (d : Int))), some (.d (.lst ((NB.alls d []).map wd))), some (.d (.lst ((NB.lev d []).map wd))), y4, y5, y6, some (.d (.lst ((NB.alls d []).map nd))), some (.d (.int (NB.T 11))), none, none, none, none, none] M4 = .ok (.d (.lst (((NB.alls d []).map tp).map D.int))) M4 := by
      simp only [eF, lc1, bnd]
    have srt1 : eB bSorted (aCons (eF (fLc (iSeq true (eVar 7)) (.one 13) [13] tYesE (eBin opMulA (eBin opIx (eVar 13) (eC (.int 0))) (eBin opDiv (eVar 8) (eBin opIx (eVar 13) (eC (.int 1))))))) aNil) [some (.d (.ob 0)), some (.d (.int (d : Int))), some (.d (.lst ((NB.alls d []).map wd))), some (.d (.lst ((NB.lev d []).map wd))), y4, y5, y6, some (.d (.lst ((NB.alls d []).map nd))), some (.d (.int (NB.T 11))), none, none, none, none, none] M4 = .ok (.d (.lst (((NB.io d []).map tp).map D.int))) M4 := by
      rw [q_B (q_cons1 ef1)]
      simp only [bSorted, intsOf, lstOf, Option.bind, toInts_ints, tops]
    have lc2 : fLc (iSeq true (eB bSorted (aCons (eF (fLc (iSeq true (eVar 7)) (.one 13) [13] tYesE (eBin opMulA (eBin opIx (eVar 13) (eC (.int 0))) (eBin opDiv (eVar 8) (eBin opIx (eVar 13) (eC (.int 1))))))) aNil))) (.one 12) [12] tYesE (eCall 2 F__law_frac (aCons (eVar 12) (aCons (eVar 8) aNil))) [some (.d (.ob 0)), some (.d (.int (d : Int))), some (.d (.lst ((NB.alls d []).map wd))), some (.d (.lst ((NB.lev d []).map wd))), y4, y5, y6, some (.d (.lst ((NB.alls d []).map nd))), some (.d (.int (NB.T 11))), none, none, none, none, none] M4 = .ok ((NB.io d []).map nd) M4 := by
      simp only [fLc, iSeq, srt1, itemsOf, bnd]
      rw [if_pos (by rw [List.length_map, List.length_map]; unfold most; omega)]
      obtain ⟨l, M', e, q1, q2⟩ := lcL_inv (g := .one 12) (vs := [12]) (t := tYesE) (f := eCall 2 F__law_frac (aCons (eVar 12) (aCons (eVar 8) aNil))) (ρ := [some (.d (.ob 0)), some (.d (.int (d : Int))), some (.d (.lst ((NB.alls d []).map wd))), some (.d (.lst ((NB.lev d []).map wd))), y4, y5, y6, some (.d (.lst ((NB.alls d []).map nd))), some (.d (.int (NB.T 11))), none, none, none, none, none]) (fun i acc M' => acc = ((NB.io d []).take i).map nd ∧ M' = M4) (((NB.io d []).map tp).map D.int) 0 [] M4 (fun i dd acc M1 hdd hi => by
        obtain ⟨q1, q2⟩ := hi
        subst q2
        rw [List.getElem?_map, List.getElem?_map] at hdd
        cases hw : (NB.io d [])[i]? with
        | none => rw [hw] at hdd; cases hdd
        | some w =>
          rw [hw] at hdd
          have ed : dd = .int (tp w) := by cases hdd; rfl
          subst ed
          obtain ⟨z, ez, lz⟩ := NB.io_mem d [] w (List.mem_of_getElem? hw)
          have hw11 : w.length ≤ 11 := by rw [ez]; simp; omega
          have fr := law_frac_ok (a := tp w) (b := NB.T 11) (n := 12) (M := M1) (NB.T_pos 11) (bn_T (by omega)) (by omega)
          rw [← NB.mul_p, tp_ok hw11] at fr
          refine ⟨[some (.d (.ob 0)), some (.d (.int (d : Int))), some (.d (.lst ((NB.alls d []).map wd))), some (.d (.lst ((NB.lev d []).map wd))), y4, y5, y6, some (.d (.lst ((NB.alls d []).map nd))), some (.d (.int (NB.T 11))), none, none, none, some (.d (.int (tp w))), none], true, M1, rfl, rfl, .inl ⟨rfl, nd w, M1, ?_, ?_, rfl⟩⟩
          · exact q_call (n := 2) (q_cons2 (show eVar 12 _ M1 = .ok (.d (.int (tp w))) M1 from rfl) (show eVar 8 _ M1 = .ok (.d (.int (NB.T 11))) M1 from rfl)) rfl rfl fr
          · rw [q1, Nat.zero_add, List.take_add_one, hw, List.map_append]; rfl) ⟨rfl, rfl⟩
      rw [e, q1, q2, List.length_map, List.length_map, Nat.zero_add, List.take_length]
    have ef2 : eF (fLc (iSeq true (eB bSorted (aCons (eF (fLc (iSeq true (eVar 7)) (.one 13) [13] tYesE (eBin opMulA (eBin opIx (eVar 13) (eC (.int 0))) (eBin opDiv (eVar 8) (eBin opIx (eVar 13) (eC (.int 1))))))) aNil))) (.one 12) [12] tYesE (eCall 2 F__law_frac (aCons (eVar 12) (aCons (eVar 8) aNil)))) [some (.d (.ob 0)), some (.d (.int (d : Int))), some (.d (.lst ((NB.alls d []).map wd))), some (.d (.lst ((NB.lev d []).map wd))), y4, y5, y6, some (.d (.lst ((NB.alls d []).map nd))), some (.d (.int (NB.T 11))), none, none, none, none, none] M4 = .ok (.d (.lst ((NB.io d []).map nd))) M4 := by
      simp only [eF, lc2, bnd]
    exact q_set ((q_B (q_cons1 ef2)).trans rfl) rfl (show 9 < 14 by decide)
  have s8 : T8__law_days_right [some (.d (.ob 0)), some (.d (.int (d : Int))), some (.d (.lst ((NB.alls d []).map wd))), some (.d (.lst ((NB.lev d []).map wd))), y4, y5, y6, some (.d (.lst ((NB.alls d []).map nd))), some (.d (.int (NB.T 11))), some (.d (.tup ((NB.io d []).map nd))), none, none, none, none] M4 = .nx [some (.d (.ob 0)), some (.d (.int (d : Int))), some (.d (.lst ((NB.alls d []).map wd))), some (.d (.lst ((NB.lev d []).map wd))), y4, y5, y6, some (.d (.lst ((NB.alls d []).map nd))), some (.d (.int (NB.T 11))), some (.d (.tup ((NB.io d []).map nd))), some (.d (.tup ((NB.io d []).map nd))), none, none, none] M4 :=
    q_set (q_call (n := 1) (q_cons1 (show eVar 1 _ M4 = .ok (.d (.int (d : Int))) M4 from rfl)) rfl rfl (numbers_ok (M := M4) hd)) rfl (show 10 < 14 by decide)
  have lenT : ∀ (o : Option Ev) (M : Mem), eB bLen (aCons (eVar 10) aNil) [some (.d (.ob 0)), some (.d (.int (d : Int))), some (.d (.lst ((NB.alls d []).map wd))), some (.d (.lst ((NB.lev d []).map wd))), y4, y5, y6, some (.d (.lst ((NB.alls d []).map nd))), some (.d (.int (NB.T 11))), some (.d (.tup ((NB.io d []).map nd))), some (.d (.tup ((NB.io d []).map nd))), o, none, none] M = .ok (.d (.int ((NB.io d []).length : Int))) M := fun o M => by
    rw [q_B (q_cons1 (show eVar 10 _ M = .ok (.d (.tup ((NB.io d []).map nd))) M from rfl))]
    simp [bLen, seqOf]
  have s9 : T9__law_days_right [some (.d (.ob 0)), some (.d (.int (d : Int))), some (.d (.lst ((NB.alls d []).map wd))), some (.d (.lst ((NB.lev d []).map wd))), y4, y5, y6, some (.d (.lst ((NB.alls d []).map nd))), some (.d (.int (NB.T 11))), some (.d (.tup ((NB.io d []).map nd))), some (.d (.tup ((NB.io d []).map nd))), none, none, none] M4 = .nx [some (.d (.ob 0)), some (.d (.int (d : Int))), some (.d (.lst ((NB.alls d []).map wd))), some (.d (.lst ((NB.lev d []).map wd))), y4, y5, y6, some (.d (.lst ((NB.alls d []).map nd))), some (.d (.int (NB.T 11))), some (.d (.tup ((NB.io d []).map nd))), some (.d (.tup ((NB.io d []).map nd))), none, none, none] M4 := by
    have isx := sf_is (Sf.tup (n := 3) (l := (NB.io d []).map nd) (by rw [List.length_map]; unfold most; omega) fun x hx => by
      obtain ⟨u, _, rfl⟩ := List.mem_map.mp hx
      exact Sf.pr 1 _) M4
    have t1 := truV (q_call (n := 2) (q_cons2 (show eVar 10 [some (.d (.ob 0)), some (.d (.int (d : Int))), some (.d (.lst ((NB.alls d []).map wd))), some (.d (.lst ((NB.lev d []).map wd))), y4, y5, y6, some (.d (.lst ((NB.alls d []).map nd))), some (.d (.int (NB.T 11))), some (.d (.tup ((NB.io d []).map nd))), some (.d (.tup ((NB.io d []).map nd))), none, none, none] M4 = .ok (.d (.tup ((NB.io d []).map nd))) M4 from rfl) (show eVar 9 _ M4 = .ok (.d (.tup ((NB.io d []).map nd))) M4 from rfl)) rfl rfl isx)
    have pw := q_call (n := 1) (q_cons1 (show eBin opAdd (eVar 1) (eC (.int 1)) [some (.d (.ob 0)), some (.d (.int (d : Int))), some (.d (.lst ((NB.alls d []).map wd))), some (.d (.lst ((NB.lev d []).map wd))), y4, y5, y6, some (.d (.lst ((NB.alls d []).map nd))), some (.d (.int (NB.T 11))), some (.d (.tup ((NB.io d []).map nd))), some (.d (.tup ((NB.io d []).map nd))), none, none, none] M4 = .ok (.d (.int ((d + 1 : Nat) : Int))) M4 from rfl)) rfl rfl (power_ok (d + 1) M4 (by omega))
    have pm := (q_bin (o := opSub) pw (show eC (.int 1) _ M4 = .ok (.d (.int 1)) M4 from rfl)).trans (show _ = R.ok (Ev.d (.int (NB.T (d + 1) - 1))) M4 by simp [opI2])
    have t2 : tCmpE (opEq true) (eB bLen (aCons (eVar 10) aNil)) (eBin opSub (eCall 1 F__law_power (aCons (eBin opAdd (eVar 1) (eC (.int 1))) aNil)) (eC (.int 1))) [some (.d (.ob 0)), some (.d (.int (d : Int))), some (.d (.lst ((NB.alls d []).map wd))), some (.d (.lst ((NB.lev d []).map wd))), y4, y5, y6, some (.d (.lst ((NB.alls d []).map nd))), some (.d (.int (NB.T 11))), some (.d (.tup ((NB.io d []).map nd))), some (.d (.tup ((NB.io d []).map nd))), none, none, none] M4 = .ok false M4 := by
      refine q_cmp ?_
      rw [q_bin (lenT none M4) pm]
      have : ((NB.io d []).length : Int) = NB.T (d + 1) - 1 := by unfold NB.T; omega
      simp [opEq, eqR, this]
    exact q_skip (by rw [q_or0 (q_not t1)]; exact t2)
  -- the drawn place
  have hmx : ∃ mx : Nat, 1 ≤ mx ∧ mx ≤ 2047 ∧ ((NB.io d []).length ≥ 2 → mx + 1 = (NB.io d []).length) ∧ (if ((NB.io d []).length : Int) - 1 > 1 then ((NB.io d []).length : Int) - 1 else 1) = (mx : Int) := by
    by_cases h : ((NB.io d []).length : Int) - 1 > 1
    · exact ⟨(NB.io d []).length - 1, by omega, by omega, by omega, by rw [if_pos h]; omega⟩
    · exact ⟨1, by omega, by omega, by omega, by rw [if_neg h]; rfl⟩
  obtain ⟨mx, m1, m2, m3, m4⟩ := hmx
  obtain ⟨at_, M5, e10, a0, a1, h5⟩ := kdraw hc h1 (by omega) (many := (mx : Int)) (by omega) (log2_small (by omega))
  obtain ⟨at', rfl⟩ : ∃ n : Nat, at_ = (n : Int) := ⟨at_.toNat, by omega⟩
  have s10 : T10__law_days_right [some (.d (.ob 0)), some (.d (.int (d : Int))), some (.d (.lst ((NB.alls d []).map wd))), some (.d (.lst ((NB.lev d []).map wd))), y4, y5, y6, some (.d (.lst ((NB.alls d []).map nd))), some (.d (.int (NB.T 11))), some (.d (.tup ((NB.io d []).map nd))), some (.d (.tup ((NB.io d []).map nd))), none, none, none] M4 = .nx [some (.d (.ob 0)), some (.d (.int (d : Int))), some (.d (.lst ((NB.alls d []).map wd))), some (.d (.lst ((NB.lev d []).map wd))), y4, y5, y6, some (.d (.lst ((NB.alls d []).map nd))), some (.d (.int (NB.T 11))), some (.d (.tup ((NB.io d []).map nd))), some (.d (.tup ((NB.io d []).map nd))), some (.d (.int (at' : Int))), none, none] M5 := by
    have x1 := (q_bin (o := opSub) (lenT none M4) (show eC (.int 1) _ M4 = .ok (.d (.int 1)) M4 from rfl)).trans (show _ = R.ok (Ev.d (.int (((NB.io d []).length : Int) - 1))) M4 by simp [opI2])
    have x2 : eB bMax (aCons (eC (.int 1)) (aCons (eBin opSub (eB bLen (aCons (eVar 10) aNil)) (eC (.int 1))) aNil)) [some (.d (.ob 0)), some (.d (.int (d : Int))), some (.d (.lst ((NB.alls d []).map wd))), some (.d (.lst ((NB.lev d []).map wd))), y4, y5, y6, some (.d (.lst ((NB.alls d []).map nd))), some (.d (.int (NB.T 11))), some (.d (.tup ((NB.io d []).map nd))), some (.d (.tup ((NB.io d []).map nd))), none, none, none] M4 = .ok (.d (.int (mx : Int))) M4 := by
      rw [q_B (q_cons2 (show eC (.int 1) _ M4 = .ok (.d (.int 1)) M4 from rfl) x1)]
      show R.ok (Ev.d (.int (if ((NB.io d []).length : Int) - 1 > 1 then ((NB.io d []).length : Int) - 1 else 1))) M4 = _
      rw [m4]
    exact q_set (q_call (n := 2) (q_cons2 (show eVar 0 _ M4 = .ok (.d (.ob 0)) M4 from rfl) x2) rfl rfl e10) rfl (show 11 < 14 by decide)
  have s11 : T11__law_days_right [some (.d (.ob 0)), some (.d (.int (d : Int))), some (.d (.lst ((NB.alls d []).map wd))), some (.d (.lst ((NB.lev d []).map wd))), y4, y5, y6, some (.d (.lst ((NB.alls d []).map nd))), some (.d (.int (NB.T 11))), some (.d (.tup ((NB.io d []).map nd))), some (.d (.tup ((NB.io d []).map nd))), some (.d (.int (at' : Int))), none, none] M5 = .rt (.bl true) M5 := by
    refine q_ret (x := bv true) ?_ rfl
    have x1 : eBin opLt (eB bLen (aCons (eVar 10) aNil)) (eC (.int 2)) [some (.d (.ob 0)), some (.d (.int (d : Int))), some (.d (.lst ((NB.alls d []).map wd))), some (.d (.lst ((NB.lev d []).map wd))), y4, y5, y6, some (.d (.lst ((NB.alls d []).map nd))), some (.d (.int (NB.T 11))), some (.d (.tup ((NB.io d []).map nd))), some (.d (.tup ((NB.io d []).map nd))), some (.d (.int (at' : Int))), none, none] M5 = .ok (bv (decide (((NB.io d []).length : Int) < 2))) M5 := by
      rw [q_bin (lenT _ M5) rfl]; rfl
    by_cases h2 : ((NB.io d []).length : Int) < 2
    · rw [decide_eq_true h2] at x1
      simp only [eOr, x1, bnd]; rfl
    · rw [decide_eq_false h2] at x1
      have hm := m3 (by omega)
      obtain ⟨w0, g, _, _, jl, _, _, gl⟩ := NB.day_gaps d []
      have ea : (NB.io d [])[at']? = some (NB.io d [])[at'] := List.getElem?_eq_getElem (by omega)
      have eb : (NB.io d [])[at' + 1]? = some (NB.io d [])[at' + 1] := List.getElem?_eq_getElem (by omega)
      obtain ⟨w, hw, q1, q2⟩ := Jl.at jl at' _ _ ea eb
      have hwl := gl w hw
      rw [List.length_nil, Nat.zero_add] at hwl
      have mid := node_mid q1 q2
      obtain ⟨za, eza, la⟩ := NB.io_mem d [] _ (List.mem_of_getElem? ea)
      obtain ⟨zb, ezb, lb⟩ := NB.io_mem d [] _ (List.mem_of_getElem? eb)
      have la' : (NB.io d [])[at'].length ≤ 10 := by rw [eza]; simp; omega
      have lb' : (NB.io d [])[at' + 1].length ≤ 10 := by rw [ezb]; simp; omega
      generalize (NB.io d [])[at'] = a at *
      generalize (NB.io d [])[at' + 1] = b at *
      have da := (node_dq (u := a) (by omega)).1
      have db := (node_dq (u := b) (by omega)).1
      have dw := (node_dq (u := w) (by omega)).1
      have mo := middle_ok (M := M5) da db (sum_den ((NB.node_bx a).mono la') ((NB.node_bx b).mono lb') (by omega))
      rw [← mid] at mo
      have at1 : atI ((NB.io d []).map nd) (at' : Int) = some (nd a) := by rw [atI_get', List.getElem?_map, ea]; rfl
      have at2 : atI ((NB.io d []).map nd) ((at' + 1 : Nat) : Int) = some (nd b) := by rw [atI_get', List.getElem?_map, eb]; rfl
      have y1 : eBin opIx (eVar 10) (eVar 11) [some (.d (.ob 0)), some (.d (.int (d : Int))), some (.d (.lst ((NB.alls d []).map wd))), some (.d (.lst ((NB.lev d []).map wd))), y4, y5, y6, some (.d (.lst ((NB.alls d []).map nd))), some (.d (.int (NB.T 11))), some (.d (.tup ((NB.io d []).map nd))), some (.d (.tup ((NB.io d []).map nd))), some (.d (.int (at' : Int))), none, none] M5 = .ok (.d (nd a)) M5 := by
        rw [q_bin (show eVar 10 _ M5 = .ok (.d (.tup ((NB.io d []).map nd))) M5 from rfl) (show eVar 11 _ M5 = .ok (.d (.int (at' : Int))) M5 from rfl)]
        simp only [opIx, seqOf, at1]
      have y2 : eBin opIx (eVar 10) (eBin opAdd (eVar 11) (eC (.int 1))) [some (.d (.ob 0)), some (.d (.int (d : Int))), some (.d (.lst ((NB.alls d []).map wd))), some (.d (.lst ((NB.lev d []).map wd))), y4, y5, y6, some (.d (.lst ((NB.alls d []).map nd))), some (.d (.int (NB.T 11))), some (.d (.tup ((NB.io d []).map nd))), some (.d (.tup ((NB.io d []).map nd))), some (.d (.int (at' : Int))), none, none] M5 = .ok (.d (nd b)) M5 := by
        rw [q_bin (show eVar 10 _ M5 = .ok (.d (.tup ((NB.io d []).map nd))) M5 from rfl) (show eBin opAdd (eVar 11) (eC (.int 1)) _ M5 = .ok (.d (.int ((at' + 1 : Nat) : Int))) M5 from rfl)]
        simp only [opIx, seqOf, at2]
      have y3 := q_call (n := 1) (q_cons1 (q_call (n := 2) (q_cons2 y1 y2) rfl rfl mo)) rfl rfl (born_ok (M := M5) dw)
      have y4' := (q_bin (o := opEq false) y3 (show eBin opAdd (eVar 1) (eC (.int 1)) _ M5 = .ok (.d (.int ((d + 1 : Nat) : Int))) M5 from rfl)).trans (show _ = R.ok (bv true) M5 by rw [hwl]; simp [opEq, eqR])
      simp only [eOr, x1, bnd]
      exact y4'
  exact ⟨M5, by rw [S__law_days_right, q_nx s1, q_nx s4, q_nx s5, q_nx s6, q_nx s7, q_nx s8, q_nx s9, q_nx s10, s11]; rfl, Hd.mono h5 (by omega)⟩
end K08

set_option Elab.async false
set_option linter.all false
set_option maxRecDepth 100000
set_option maxHeartbeats 4000000
/-! law k08, plainly: what is refused. -/
namespace K08
open PySem PySem.Spec PyProof.Rows L2 DL
open NB (Bn Dq Bx)
def bads : List D := [.non, .int 0, .tup [.int 1, .int 3], .tup [.int 2, .int 4], .tup [.int 1, .int 0], .tup [.int 1, .int (-2)], .lst [.int 1, .int 2], .tup [.int 1], .str "1", .tup [.bl true, .int 1], .tup [.int 1, .bl true], .tup [.int 0, .int 2], .tup [.tup [.int 1], .int 2]]
def odds : List D := [.non, .int 0, .str "X", .str "LRl", .tup [.str "L"], .lst [.str "L"], .str (ws (List.replicate 401 true)), .str "L R"]
def dayl : List D := [.int 11, .int (-1), .non, .bl true, .str "3", .int 1000000000]
def fars : List D := [.tup [.int 401, .int 1], .tup [.int (-401), .int 1], .tup [.int 1, .int (NB.T 401)], .tup [.int 1000000000000000000000000000000, .int 1]]
def BN (F : Fn) (xs : List Ev) : Prop := ∀ M, F xs M = .exc "BadNumber" none M
theorem bad_half {d : D} (h : d ∈ bads) (M : Mem) : F_is_half_number [.d d] M = .ok (.bl false) M := by
  unfold bads at h
  simp only [List.mem_cons, List.not_mem_nil, or_false] at h
  rcases h with rfl | rfl | rfl | rfl | rfl | rfl | rfl | rfl | rfl | rfl | rfl | rfl | rfl <;> rfl
theorem half_12 (M : Mem) : F_is_half_number [.d (.tup [.int 1, .int 2])] M = .ok (.bl true) M := rfl
theorem bad_signs {d : D} (h : d ∈ bads) : BN F_signs [.d d] := fun M => by
  unfold F_signs; rw [fnOf_eq]
  show fnEnd (S_signs [some (.d d)] M) = _
  have t := truV (q_call (n := 1) (q_cons1 (show eVar 0 [some (.d d)] M = .ok (.d d) M from rfl)) rfl rfl (bad_half h M))
  rw [S_signs, q_exc (c := "BadNumber") (fld := none) (ρ' := [some (.d d)]) (M' := M) (by rw [T1_signs, q_if1 (by rw [q_or1 (q_not t)])]; rfl)]
  rfl
theorem bad_born {d : D} (h : d ∈ bads) : BN F_born_on [.d d] := fun M => by
  unfold F_born_on; rw [fnOf_eq]
  show fnEnd (S_born_on [some (.d d)] M) = _
  have t := truV (q_call (n := 1) (q_cons1 (show eVar 0 [some (.d d)] M = .ok (.d d) M from rfl)) rfl rfl (bad_half h M))
  rw [S_born_on, q_exc (c := "BadNumber") (fld := none) (ρ' := [some (.d d)]) (M' := M) (by rw [T1_born_on, q_if1 (by rw [q_or1 (q_not t)])]; rfl)]
  rfl
theorem bad_whole {d : D} (h : d ∈ bads) : BN F_is_whole [.d d] := fun M => by
  unfold F_is_whole; rw [fnOf_eq]
  show fnEnd (S_is_whole [some (.d d)] M) = _
  have t := truV (q_call (n := 1) (q_cons1 (show eVar 0 [some (.d d)] M = .ok (.d d) M from rfl)) rfl rfl (bad_half h M))
  rw [S_is_whole, q_exc (c := "BadNumber") (fld := none) (ρ' := [some (.d d)]) (M' := M) (by rw [T1_is_whole, q_if1 (q_not t)]; rfl)]
  rfl
theorem exc_loop {B1 : Ss} (hB : B1 = sIf (bNot (tTru (eCall 1 F_is_half_number (aCons (eVar 2) aNil)))) (sRaise "BadNumber") sNext) {a b : D} {M : Mem} (h : (∀ M, F_is_half_number [.d a] M = .ok (.bl false) M) ∨ ((∀ M, F_is_half_number [.d a] M = .ok (.bl true) M) ∧ ∀ M, F_is_half_number [.d b] M = .ok (.bl false) M)) :
    ∃ ρ', sFor (iSeq false (eTup (aCons (eVar 0) (aCons (eVar 1) aNil)))) (.one 2) B1 [some (.d a), some (.d b), none] M = .exc "BadNumber" none ρ' M := by
  subst hB
  have it : iSeq false (eTup (aCons (eVar 0) (aCons (eVar 1) aNil))) [some (.d a), some (.d b), none] M = .ok [a, b] M := rfl
  have t1 : ∀ o, tgE (.one 2) [some (.d a), some (.d b), o] a = some [some (.d a), some (.d b), some (.d a)] := fun _ => rfl
  have t2 : ∀ o, tgE (.one 2) [some (.d a), some (.d b), o] b = some [some (.d a), some (.d b), some (.d b)] := fun _ => rfl
  have no : ∀ d : D, (∀ M, F_is_half_number [.d d] M = .ok (.bl false) M) → sIf (bNot (tTru (eCall 1 F_is_half_number (aCons (eVar 2) aNil)))) (sRaise "BadNumber") sNext [some (.d a), some (.d b), some (.d d)] M = .exc "BadNumber" none [some (.d a), some (.d b), some (.d d)] M := fun d hd => by
    rw [q_if1 (q_not (truV (q_call (n := 1) (q_cons1 (show eVar 2 _ M = .ok (.d d) M from rfl)) rfl rfl (hd M))))]
    rfl
  rcases h with h | ⟨h1, h2⟩
  · refine ⟨[some (.d a), some (.d b), some (.d a)], q_for it ?_⟩
    simp only [forL, t1, no a h]
  · refine ⟨[some (.d a), some (.d b), some (.d b)], q_for it ?_⟩
    have y : sIf (bNot (tTru (eCall 1 F_is_half_number (aCons (eVar 2) aNil)))) (sRaise "BadNumber") sNext [some (.d a), some (.d b), some (.d a)] M = .nx [some (.d a), some (.d b), some (.d a)] M := by
      refine q_skip ?_
      rw [q_not (truV (q_call (n := 1) (q_cons1 (show eVar 2 _ M = .ok (.d a) M from rfl)) rfl rfl (h1 M)))]
      rfl
    simp only [forL, t1, y, t2, no b h2]
theorem bad_prod {a b : D} (h : (∀ M, F_is_half_number [.d a] M = .ok (.bl false) M) ∨ ((∀ M, F_is_half_number [.d a] M = .ok (.bl true) M) ∧ ∀ M, F_is_half_number [.d b] M = .ok (.bl false) M)) : BN F_product_of [.d a, .d b] := fun M => by
  unfold F_product_of; rw [fnOf_eq]
  show fnEnd (S_product_of [some (.d a), some (.d b), none] M) = _
  obtain ⟨ρ', e⟩ := exc_loop (B1 := B1_product_of) rfl (M := M) h
  rw [S_product_of, q_exc (show T2_product_of _ _ = _ from e)]
  rfl
theorem bad_mid {a b : D} (h : (∀ M, F_is_half_number [.d a] M = .ok (.bl false) M) ∨ ((∀ M, F_is_half_number [.d a] M = .ok (.bl true) M) ∧ ∀ M, F_is_half_number [.d b] M = .ok (.bl false) M)) : BN F_middle_of [.d a, .d b] := fun M => by
  unfold F_middle_of; rw [fnOf_eq]
  show fnEnd (S_middle_of [some (.d a), some (.d b), none] M) = _
  obtain ⟨ρ', e⟩ := exc_loop (B1 := B1_middle_of) rfl (M := M) h
  rw [S_middle_of, q_exc (show T2_middle_of _ _ = _ from e)]
  rfl
theorem bad_word {d : D} (h : d ∈ odds) : BN F_number_by [.d d] := fun M => by
  unfold odds at h
  simp only [List.mem_cons, List.not_mem_nil, or_false] at h
  rcases h with rfl | rfl | rfl | rfl | rfl | rfl | rfl | rfl
  · rfl
  · rfl
  · rfl
  · rfl
  · rfl
  · rfl
  · unfold F_number_by; rw [fnOf_eq]
    have hw : (List.replicate 401 true).length = 401 := List.length_replicate
    generalize List.replicate 401 true = w at *
    show fnEnd (S_number_by [some (.d (.str (ws w))), none, none, none, none] M) = _
    have t1 := truV (isi1 (b := "str") (show eVar 0 [some (.d (.str (ws w))), none, none, none, none] M = .ok (.d (.str (ws w))) M from rfl) (a := "str") rfl (by decide))
    rw [show isOf "str" "str" = true by decide] at t1
    have t2 : tCmpE opGt (eB bLen (aCons (eVar 0) aNil)) (eC (.int 400)) [some (.d (.str (ws w))), none, none, none, none] M = .ok true M := by
      refine q_cmp ?_
      rw [q_bin (len_ok (w := w) (i := 0) (ρ := [some (.d (.str (ws w))), none, none, none, none]) rfl (by omega)) rfl]
      show R.ok (bv (decide ((400 : Int) < (w.length : Int)))) M = _
      rw [decide_eq_true (by omega)]
    rw [S_number_by, q_exc (c := "BadNumber") (fld := none) (ρ' := [some (.d (.str (ws w))), none, none, none, none]) (M' := M) (by rw [T1_number_by, q_if1 (by rw [q_or0 (q_not t1), q_or1 t2])]; rfl)]
    rfl
  · rfl
theorem bad_day {d : D} (h : d ∈ dayl) : BN F_numbers_by [.d d] := fun M => by
  unfold dayl at h
  simp only [List.mem_cons, List.not_mem_nil, or_false] at h
  rcases h with rfl | rfl | rfl | rfl | rfl | rfl <;> rfl
theorem half_far (M : Mem) : F_is_half_number [.d (prI 1 (NB.T 401))] M = .ok (.bl true) M := by
  have hb : Bn 402 (NB.T 401) := bn_T (by omega)
  unfold F_is_half_number; rw [fnOf_eq]
  have v0 : eVar 0 [some (.d (prI 1 (NB.T 401)))] M = .ok (.d (prI 1 (NB.T 401))) M := rfl
  have c1 := q_call (n := 1) (q_cons1 v0) rfl rfl (is_fraction_ok (a := 1) (b := NB.T 401) (M := M) (NB.T_pos 401) hb (by omega))
  have i1 : eBin opIx (eVar 0) (eC (.int 1)) [some (.d (prI 1 (NB.T 401)))] M = .ok (.d (.int ((2 ^ 401 : Nat) : Int))) M := ix1 (i := 0) rfl
  have c2 := q_call (n := 1) (q_cons1 i1) rfl rfl (two_power_ok 401 M)
  rw [Int.one_gcd, decide_eq_true rfl] at c1
  show fnEnd (S_is_half_number [some (.d (prI 1 (NB.T 401)))] M) = _
  rw [S_is_half_number, T1_is_half_number, q_ret (x := bv true) (d := .bl true) (M' := M) (by rw [q_eand1 c1 rfl]; exact c2) rfl]
  rfl
theorem shl_far {ρ : DL.Env} {M : Mem} {f : Sm Ev} (hf : f ρ M = .ok (.d (.int (NB.T 401))) M) : tCmpE opGt f (eBin opShl (eC (.int 1)) (eC (.int 400))) ρ M = .ok true M := by
  have c : CShl 1 400 := by unfold CShl; decide +kernel
  have e : eBin opShl (eC (.int 1)) (eC (.int 400)) ρ M = .ok (.d (.int (1 * 2 ^ (400 : Int).toNat))) M := by
    show (if CShl 1 400 then R.ok (Ev.d (D.int (1 * 2 ^ (400 : Int).toNat))) M else R.stuck) = _
    rw [if_pos c]
  refine q_cmp ?_
  rw [q_bin hf e]
  show R.ok (bv (decide (_ < _))) M = _
  have h400 : (400 : Int).toNat = 400 := rfl
  have h3 : 2 ^ (400 : Int).toNat < 2 ^ 401 := Nat.pow_lt_pow_right (by omega) (by rw [h400]; omega)
  have h4 : ((2 ^ (400 : Int).toNat : Nat) : Int) < NB.T 401 := by unfold NB.T; exact Int.ofNat_lt.mpr h3
  have h5 : ((2 ^ (400 : Int).toNat : Nat) : Int) = 1 * 2 ^ (400 : Int).toNat := by rw [Int.one_mul]; exact Int.natCast_pow 2 _
  rw [h5] at h4
  rw [decide_eq_true h4]
theorem far_born : BN F_born_on [.d (prI 1 (NB.T 401))] := fun M => by
  unfold F_born_on; rw [fnOf_eq]
  show fnEnd (S_born_on [some (.d (prI 1 (NB.T 401)))] M) = _
  have t := truV (q_call (n := 1) (q_cons1 (show eVar 0 [some (.d (prI 1 (NB.T 401)))] M = .ok (.d (prI 1 (NB.T 401))) M from rfl)) rfl rfl (half_far M))
  rw [S_born_on, q_exc (c := "BadNumber") (fld := none) (ρ' := [some (.d (prI 1 (NB.T 401)))]) (M' := M) (by rw [T1_born_on, q_if1 (by rw [q_or0 (q_not t)]; exact shl_far (ix1 (i := 0) rfl))]; rfl)]
  rfl
theorem big_signs {n : Int} (hb : Bn 400 n) (hn : 400 < (n.natAbs : Int)) : BN F_signs [.d (prI n 1)] := fun M => by
  have dq : Dq (n : Rat) := Dq_int hb
  unfold F_signs; rw [fnOf_eq]
  show fnEnd (S_signs [some (.d (prI n 1))] M) = _
  have t := truV (q_call (n := 1) (q_cons1 (show eVar 0 [some (.d (prI n 1))] M = .ok (.d (pr (n : Rat))) M from rfl)) rfl rfl (half_number_ok dq M))
  have a0 : At [some (.d (prI n 1))] 0 (.d (prI n 1)) := rfl
  have e1 : eB bAbs (aCons (eBin opIx (eVar 0) (eC (.int 0))) aNil) [some (.d (prI n 1))] M = .ok (.d (.int (n.natAbs : Int))) M := by
    rw [q_B (q_cons1 (ix0 a0))]
    simp [bAbs, abs_if]
  have cd : cDiv (n.natAbs : Int) 1 := ⟨by omega, by decide⟩
  have e2 : eBin opDiv (eB bAbs (aCons (eBin opIx (eVar 0) (eC (.int 0))) aNil)) (eBin opIx (eVar 0) (eC (.int 1))) [some (.d (prI n 1))] M = .ok (.d (.int (n.natAbs : Int))) M := by
    rw [q_bin e1 (ix1 a0)]
    simp only [opDiv, if_pos cd, Int.ediv_one]
  have t2 : tCmpE opGt (eBin opDiv (eB bAbs (aCons (eBin opIx (eVar 0) (eC (.int 0))) aNil)) (eBin opIx (eVar 0) (eC (.int 1)))) (eC (.int 400)) [some (.d (prI n 1))] M = .ok true M := by
    refine q_cmp ?_
    rw [q_bin e2 rfl]
    show R.ok (bv (decide ((400 : Int) < (n.natAbs : Int)))) M = _
    rw [decide_eq_true hn]
  rw [S_signs, q_exc (c := "BadNumber") (fld := none) (ρ' := [some (.d (prI n 1))]) (M' := M) (by rw [T1_signs, q_if1 (by rw [q_or0 (q_not t), q_or1 t2])]; rfl)]
  rfl
where Dq_int {n : Int} (hb : Bn 400 n) : Dq (n : Rat) := ⟨⟨0, by omega, rfl⟩, Bn.mono hb (by omega)⟩
theorem far_signs {d : D} (h : d ∈ fars) : BN F_signs [.d d] := by
  unfold fars at h
  simp only [List.mem_cons, List.not_mem_nil, or_false] at h
  have p10 : (2 : Nat) ^ 10 = 1024 := rfl
  have p128 : (2 : Nat) ^ 128 = 340282366920938463463374607431768211456 := by decide +kernel
  rcases h with rfl | rfl | rfl | rfl
  · exact big_signs (Bn.mono (n := 10) (by unfold Bn; rw [p10]; decide) (by omega)) (by decide)
  · exact big_signs (Bn.mono (n := 10) (by unfold Bn; rw [p10]; decide) (by omega)) (by decide)
  · intro M
    unfold F_signs; rw [fnOf_eq]
    show fnEnd (S_signs [some (.d (prI 1 (NB.T 401)))] M) = _
    have t := truV (q_call (n := 1) (q_cons1 (show eVar 0 [some (.d (prI 1 (NB.T 401)))] M = .ok (.d (prI 1 (NB.T 401))) M from rfl)) rfl rfl (half_far M))
    have a0 : At [some (.d (prI 1 (NB.T 401)))] 0 (.d (prI 1 (NB.T 401))) := rfl
    have e1 : eB bAbs (aCons (eBin opIx (eVar 0) (eC (.int 0))) aNil) [some (.d (prI 1 (NB.T 401)))] M = .ok (.d (.int 1)) M := by
      rw [q_B (q_cons1 (ix0 a0))]; rfl
    have cd : cDiv 1 (NB.T 401) := cdB (NB.T_pos 401) (n := 402) (bn_T (by omega)) (by omega)
    have dz : (1 : Int) / NB.T 401 = 0 := by
      apply Int.ediv_eq_zero_of_lt (by omega)
      unfold NB.T
      have : 2 ^ 0 < 2 ^ 401 := Nat.pow_lt_pow_right (by omega) (by omega)
      omega
    have e2 : eBin opDiv (eB bAbs (aCons (eBin opIx (eVar 0) (eC (.int 0))) aNil)) (eBin opIx (eVar 0) (eC (.int 1))) [some (.d (prI 1 (NB.T 401)))] M = .ok (.d (.int 0)) M := by
      rw [q_bin e1 (ix1 a0)]
      simp only [opDiv, if_pos cd, dz]
    have t2 : tCmpE opGt (eBin opDiv (eB bAbs (aCons (eBin opIx (eVar 0) (eC (.int 0))) aNil)) (eBin opIx (eVar 0) (eC (.int 1)))) (eC (.int 400)) [some (.d (prI 1 (NB.T 401)))] M = .ok false M := by
      refine q_cmp ?_
      rw [q_bin e2 rfl]; rfl
    rw [S_signs, q_exc (c := "BadNumber") (fld := none) (ρ' := [some (.d (prI 1 (NB.T 401)))]) (M' := M) (by rw [T1_signs, q_if1 (by rw [q_or0 (q_not t), q_or0 t2]; exact shl_far (ix1 (i := 0) rfl))]; rfl)]
    rfl
  · exact big_signs (Bn.mono (n := 128) (by unfold Bn; rw [p128]; decide) (by omega)) (by decide)
theorem rsX {ρ : DL.Env} {M : Mem} {F : Fn} {n : Nat} {es : Sm (List Ev)} {xs : List Ev} (h1 : es ρ M = .ok xs M) (hp : DL.passL xs = some xs) (hn : xs.length = n) (h : BN F xs) : eRaised tbl (eCall n F es) ρ M = .ok (.d (.bl true)) M := by
  have e := q_callX h1 hp hn (h M)
  have t : tbl "BadNumber" = some true := by unfold tbl; rw [if_pos rfl]
  simp only [eRaised, e, t]
def envR (a b c d : D) (k : Nat) : DL.Env := [some (.d (.ob 0)), some (.d a), some (.d b), some (.d c), some (.d d), some (.ls .own (List.replicate k (.bl true)))]
theorem refused_ok {cells : List Int} {B : Nat} {M : Mem} (hc : Cl cells) (hM : Hd cells B M) (hB : B + 100 ≤ 1000000) : ∃ M', F__law_refused [.d (.ob 0)] M = .ok (.bl true) M' ∧ Hd cells (B + 100) M' := by
  obtain ⟨a, M1, e1, ha, h1⟩ := kany (l := bads) hc hM (by omega) (by show 0 < 13; omega) (by show 13 < 1000000; omega)
  obtain ⟨b, M2, e2, hb, h2⟩ := kany (l := odds) hc h1 (by omega) (by show 0 < 8; omega) (by show 8 < 1000000; omega)
  obtain ⟨c, M3, e3, hcc, h3⟩ := kany (l := dayl) hc h2 (by omega) (by show 0 < 6; omega) (by show 6 < 1000000; omega)
  obtain ⟨d, M4, e4, hd, h4⟩ := kany (l := fars) hc h3 (by omega) (by show 0 < 4; omega) (by show 4 < 1000000; omega)
  refine ⟨M4, ?_, Hd.mono h4 (by omega)⟩
  unfold F__law_refused; rw [fnOf_eq]
  show fnEnd (S__law_refused [some (.d (.ob 0)), none, none, none, none, none] M) = _
  have s1 : T1__law_refused [some (.d (.ob 0)), none, none, none, none, none] M = .nx [some (.d (.ob 0)), some (.d (.lst bads)), none, none, none, none] M := rfl
  have s2 : T2__law_refused [some (.d (.ob 0)), some (.d (.lst bads)), none, none, none, none] M = .nx [some (.d (.ob 0)), some (.d a), none, none, none, none] M1 :=
    q_set (q_call (n := 2) (q_cons2 (show eVar 0 _ M = .ok (.d (.ob 0)) M from rfl) (show eVar 1 _ M = .ok (.d (.lst bads)) M from rfl)) rfl rfl e1) rfl (show 1 < 6 by decide)
  have m401 : ∀ ρ : DL.Env, eBin opMulS2 (eC (.str "L")) (eC (.int 401)) ρ M1 = .ok (.d (.str (ws (List.replicate 401 true)))) M1 := fun ρ => by
    rw [q_bin rfl rfl, ← rep_ws]
    have h : (1 : Int) ≤ 401 ∧ (401 : Int) ≤ 1000000 ∧ (ws [true]).length * (401 : Int).toNat ≤ DL.most := ⟨by omega, by omega, by rw [ws_len]; unfold DL.most; show 1 * 401 ≤ 1000000; omega⟩
    have h0 : ¬ ((401 : Int) ≤ 0 ∧ -1000000 ≤ (401 : Int)) := by omega
    simp only [opMulS2, ws_L, if_neg h0, if_pos h]
    rfl
  have s3 : T3__law_refused [some (.d (.ob 0)), some (.d a), none, none, none, none] M1 = .nx [some (.d (.ob 0)), some (.d a), some (.d b), none, none, none] M2 := by
    have l : eLst (aCons (eC .non) (aCons (eC (.int 0)) (aCons (eC (.str "X")) (aCons (eC (.str "LRl")) (aCons (eTup (aCons (eC (.str "L")) aNil)) (aCons (eLst (aCons (eC (.str "L")) aNil)) (aCons (eBin opMulS2 (eC (.str "L")) (eC (.int 401))) (aCons (eC (.str "L R")) aNil)))))))) [some (.d (.ob 0)), some (.d a), none, none, none, none] M1 = .ok (.d (.lst odds)) M1 := by
      have x : aCons (eC .non) (aCons (eC (.int 0)) (aCons (eC (.str "X")) (aCons (eC (.str "LRl")) (aCons (eTup (aCons (eC (.str "L")) aNil)) (aCons (eLst (aCons (eC (.str "L")) aNil)) (aCons (eBin opMulS2 (eC (.str "L")) (eC (.int 401))) (aCons (eC (.str "L R")) aNil))))))) [some (.d (.ob 0)), some (.d a), none, none, none, none] M1 = .ok [.d .non, .d (.int 0), .d (.str "X"), .d (.str "LRl"), .d (.tup [.str "L"]), .d (.lst [.str "L"]), .d (.str (ws (List.replicate 401 true))), .d (.str "L R")] M1 :=
        q_cons rfl (q_cons rfl (q_cons rfl (q_cons rfl (q_cons rfl (q_cons rfl (q_cons2 (m401 _) rfl))))))
      simp only [eLst, x, bnd]; rfl
    exact q_set (q_call (n := 2) (q_cons2 (show eVar 0 _ M1 = .ok (.d (.ob 0)) M1 from rfl) l) rfl rfl e2) rfl (show 2 < 6 by decide)
  have s4 : T4__law_refused [some (.d (.ob 0)), some (.d a), some (.d b), none, none, none] M2 = .nx [some (.d (.ob 0)), some (.d a), some (.d b), some (.d c), none, none] M3 := by
    have p9 : eBin opPow (eC (.int 10)) (eC (.int 9)) [some (.d (.ob 0)), some (.d a), some (.d b), none, none, none] M2 = .ok (.d (.int 1000000000)) M2 := by
      have c : CPow 10 9 := ⟨by omega, by omega, by decide⟩
      rw [q_bin rfl rfl]; simp only [opI2, if_pos c]; rfl
    have l : eLst (aCons (eC (.int 11)) (aCons (eUn unNeg (eC (.int 1))) (aCons (eC .non) (aCons (eC (.bl true)) (aCons (eC (.str "3")) (aCons (eBin opPow (eC (.int 10)) (eC (.int 9))) aNil)))))) [some (.d (.ob 0)), some (.d a), some (.d b), none, none, none] M2 = .ok (.d (.lst dayl)) M2 := by
      have x : aCons (eC (.int 11)) (aCons (eUn unNeg (eC (.int 1))) (aCons (eC .non) (aCons (eC (.bl true)) (aCons (eC (.str "3")) (aCons (eBin opPow (eC (.int 10)) (eC (.int 9))) aNil))))) [some (.d (.ob 0)), some (.d a), some (.d b), none, none, none] M2 = .ok [.d (.int 11), .d (.int (-1)), .d .non, .d (.bl true), .d (.str "3"), .d (.int 1000000000)] M2 :=
        q_cons rfl (q_cons rfl (q_cons rfl (q_cons rfl (q_cons2 rfl p9))))
      simp only [eLst, x, bnd]; rfl
    exact q_set (q_call (n := 2) (q_cons2 (show eVar 0 _ M2 = .ok (.d (.ob 0)) M2 from rfl) l) rfl rfl e3) rfl (show 3 < 6 by decide)
  have s5 : T5__law_refused [some (.d (.ob 0)), some (.d a), some (.d b), some (.d c), none, none] M3 = .nx [some (.d (.ob 0)), some (.d a), some (.d b), some (.d c), some (.d d), none] M4 := by
    have p30 : eBin opPow (eC (.int 10)) (eC (.int 30)) [some (.d (.ob 0)), some (.d a), some (.d b), some (.d c), none, none] M3 = .ok (.d (.int 1000000000000000000000000000000)) M3 := by
      have c : CPow 10 30 := ⟨by omega, by omega, by decide⟩
      rw [q_bin rfl rfl]; simp only [opI2, if_pos c]; rfl
    have pw := q_call (n := 1) (q_cons1 (show eC (.int 401) [some (.d (.ob 0)), some (.d a), some (.d b), some (.d c), none, none] M3 = .ok (.d (.int ((401 : Nat) : Int))) M3 from rfl)) rfl rfl (power_ok 401 M3 (by omega))
    have l : eLst (aCons (eTup (aCons (eC (.int 401)) (aCons (eC (.int 1)) aNil))) (aCons (eTup (aCons (eUn unNeg (eC (.int 401))) (aCons (eC (.int 1)) aNil))) (aCons (eTup (aCons (eC (.int 1)) (aCons (eCall 1 F__law_power (aCons (eC (.int 401)) aNil)) aNil))) (aCons (eTup (aCons (eBin opPow (eC (.int 10)) (eC (.int 30))) (aCons (eC (.int 1)) aNil))) aNil)))) [some (.d (.ob 0)), some (.d a), some (.d b), some (.d c), none, none] M3 = .ok (.d (.lst fars)) M3 := by
      have x : aCons (eTup (aCons (eC (.int 401)) (aCons (eC (.int 1)) aNil))) (aCons (eTup (aCons (eUn unNeg (eC (.int 401))) (aCons (eC (.int 1)) aNil))) (aCons (eTup (aCons (eC (.int 1)) (aCons (eCall 1 F__law_power (aCons (eC (.int 401)) aNil)) aNil))) (aCons (eTup (aCons (eBin opPow (eC (.int 10)) (eC (.int 30))) (aCons (eC (.int 1)) aNil))) aNil))) [some (.d (.ob 0)), some (.d a), some (.d b), some (.d c), none, none] M3 = .ok [.d (.tup [.int 401, .int 1]), .d (.tup [.int (-401), .int 1]), .d (.tup [.int 1, .int (NB.T 401)]), .d (.tup [.int 1000000000000000000000000000000, .int 1])] M3 :=
        q_cons rfl (q_cons rfl (q_cons2 (tup2 (show eC (.int 1) _ M3 = .ok (.d (.int 1)) M3 from rfl) pw) (tup2 p30 (show eC (.int 1) _ M3 = .ok (.d (.int 1)) M3 from rfl))))
      simp only [eLst, x, bnd]; rfl
    exact q_set (q_call (n := 2) (q_cons2 (show eVar 0 _ M3 = .ok (.d (.ob 0)) M3 from rfl) l) rfl rfl e4) rfl (show 4 < 6 by decide)
  have hal : ∀ M, F_is_half_number [.d a] M = .ok (.bl false) M := fun M => bad_half ha M
  have v1 : ∀ k, eVar 1 (envR a b c d k) M4 = .ok (.d a) M4 := fun _ => rfl
  have v2 : ∀ k, eVar 2 (envR a b c d k) M4 = .ok (.d b) M4 := fun _ => rfl
  have v3 : ∀ k, eVar 3 (envR a b c d k) M4 = .ok (.d c) M4 := fun _ => rfl
  have v4 : ∀ k, eVar 4 (envR a b c d k) M4 = .ok (.d d) M4 := fun _ => rfl
  have v12 : ∀ ρ : DL.Env, eTup (aCons (eC (.int 1)) (aCons (eC (.int 2)) aNil)) ρ M4 = .ok (.d (.tup [.int 1, .int 2])) M4 := fun _ => rfl
  have vP : ∀ ρ : DL.Env, eTup (aCons (eC (.int 1)) (aCons (eCall 1 F__law_power (aCons (eC (.int 401)) aNil)) aNil)) ρ M4 = .ok (.d (prI 1 (NB.T 401))) M4 := fun ρ => tup2 rfl (q_call (n := 1) (q_cons1 (show eC (.int 401) ρ M4 = .ok (.d (.int ((401 : Nat) : Int))) M4 from rfl)) rfl rfl (power_ok 401 M4 (by omega)))
  have s6 : T6__law_refused [some (.d (.ob 0)), some (.d a), some (.d b), some (.d c), some (.d d), none] M4 = .nx (envR a b c d 1) M4 := by
    have l := q_cons1 (rsX (n := 1) (q_cons1 (show eVar 1 [some (.d (.ob 0)), some (.d a), some (.d b), some (.d c), some (.d d), none] M4 = .ok (.d a) M4 from rfl)) rfl rfl (bad_signs ha))
    refine q_setNF ?_ (show 5 < 6 by decide)
    simp only [fLst, l, bnd]; rfl
  have ap : ∀ (k : Nat) (f : Sm Ev), k ≤ 100 → f (envR a b c d k) M4 = .ok (.d (.bl true)) M4 → sApp 5 f (envR a b c d k) M4 = .nx (envR a b c d (k + 1)) M4 := fun k f hk hf => by
    rw [q_appO (i := 5) (l := List.replicate k (.bl true)) hf rfl (by rw [List.length_replicate]; unfold DL.most; omega), ← List.replicate_succ']
    rfl
  have s7 := ap 1 _ (by omega) (rsX (n := 1) (q_cons1 (v1 1)) rfl rfl (bad_born ha))
  have s8 := ap 2 _ (by omega) (rsX (n := 2) (q_cons2 (v1 2) (v12 _)) rfl rfl (bad_prod (.inl hal)))
  have s9 := ap 3 _ (by omega) (rsX (n := 2) (q_cons2 (v12 _) (v1 3)) rfl rfl (bad_prod (.inr ⟨half_12, hal⟩)))
  have s10 := ap 4 _ (by omega) (rsX (n := 2) (q_cons2 (v1 4) (v12 _)) rfl rfl (bad_mid (.inl hal)))
  have s11 := ap 5 _ (by omega) (rsX (n := 2) (q_cons2 (v12 _) (v1 5)) rfl rfl (bad_mid (.inr ⟨half_12, hal⟩)))
  have s12 := ap 6 _ (by omega) (rsX (n := 1) (q_cons1 (v1 6)) rfl rfl (bad_whole ha))
  have s13 := ap 7 _ (by omega) (rsX (n := 1) (q_cons1 (v2 7)) rfl rfl (bad_word hb))
  have s14 := ap 8 _ (by omega) (rsX (n := 1) (q_cons1 (v3 8)) rfl rfl (bad_day hcc))
  have s15 := ap 9 _ (by omega) (rsX (n := 1) (q_cons1 (v4 9)) rfl rfl (far_signs hd))
  have s16 := ap 10 _ (by omega) (rsX (n := 1) (q_cons1 (vP _)) rfl rfl far_born)
  have s17 : T17__law_refused (envR a b c d 11) M4 = .rt (.bl true) M4 := rfl
  rw [S__law_refused, q_nx s1, q_nx s2, q_nx s3, q_nx s4, q_nx s5, q_nx s6, q_nx (show T7__law_refused _ _ = _ from s7), q_nx (show T8__law_refused _ _ = _ from s8), q_nx (show T9__law_refused _ _ = _ from s9), q_nx (show T10__law_refused _ _ = _ from s10), q_nx (show T11__law_refused _ _ = _ from s11), q_nx (show T12__law_refused _ _ = _ from s12), q_nx (show T13__law_refused _ _ = _ from s13), q_nx (show T14__law_refused _ _ = _ from s14), q_nx (show T15__law_refused _ _ = _ from s15), q_nx (show T16__law_refused _ _ = _ from s16), s17]
  rfl
end K08

set_option Elab.async false
set_option linter.all false
set_option maxRecDepth 100000
set_option maxHeartbeats 4000000
/-! law k08, plainly: the law. -/
namespace K08
open PySem PySem.Spec PyProof.Rows L2 DL
open NB (Bn Dq Bx)
theorem mul2 (b : Bool) (n : Nat) (h : n ≤ 1000) (M : Mem) : opMulS2 (.d (.str (ws [b]))) (.d (.int (n : Int))) M = .ok (.d (.str (ws (List.replicate n b)))) M := by
  by_cases h0 : n = 0
  · subst h0; rfl
  · have k : (1 : Int) ≤ n ∧ (n : Int) ≤ 1000000 ∧ (ws [b]).length * (n : Int).toNat ≤ DL.most := ⟨by omega, by omega, by rw [ws_len]; unfold DL.most; simp; omega⟩
    have k0 : ¬ ((n : Int) ≤ 0 ∧ -1000000 ≤ (n : Int)) := by omega
    simp only [opMulS2, if_neg k0, if_pos k, rep_ws]
def envK (most : Nat) (x3 x4 : Option Ev) : DL.Env := [none, some (.d (.ob 0)), some (.d (.int most)), x3, x4, none, none, none, none, none]
theorem round_ok {cells : List Int} {B : Nat} {M : Mem} {most : Nat} {x3 x4 : Option Ev} (hc : Cl cells) (hM : Hd cells B M) (hB : B + 1000 ≤ 1000000) (hm : most ≤ 60) (hm0 : 1 ≤ most) :
    ∃ y3 y4 M', B1_law (envK most x3 x4) M = .nx (envK most y3 y4) M' ∧ Hd cells (B + 1000) M' := by
  obtain ⟨u, M1, e1, hu, h1⟩ := kword (most := most) hc hM hm hm0 (by omega)
  obtain ⟨v, M2, e2, hv, h2⟩ := kword (most := most) hc h1 hm hm0 (by omega)
  have s1 : sPar [3, 4] (aCons (eCall 2 F__law_word (aCons (eVar 1) (aCons (eVar 2) aNil))) (aCons (eCall 2 F__law_word (aCons (eVar 1) (aCons (eVar 2) aNil))) aNil)) (envK most x3 x4) M = .nx (envK most (some (.d (.str (ws u)))) (some (.d (.str (ws v))))) M2 := by
    have a := q_call (n := 2) (q_cons2 (show eVar 1 (envK most x3 x4) M = .ok (.d (.ob 0)) M from rfl) (show eVar 2 _ M = .ok (.d (.int most)) M from rfl)) rfl rfl e1
    have b := q_call (n := 2) (q_cons2 (show eVar 1 (envK most x3 x4) M1 = .ok (.d (.ob 0)) M1 from rfl) (show eVar 2 _ M1 = .ok (.d (.int most)) M1 from rfl)) rfl rfl e2
    simp only [sPar, q_cons2 a b, sE]; rfl
  have v3 : eVar 3 (envK most (some (.d (.str (ws u)))) (some (.d (.str (ws v))))) M2 = .ok (.d (.str (ws u))) M2 := rfl
  have v4 : eVar 4 (envK most (some (.d (.str (ws u)))) (some (.d (.str (ws v))))) M2 = .ok (.d (.str (ws v))) M2 := rfl
  have t1 := truV (q_call (n := 1) (q_cons1 v3) rfl rfl (word_right (M := M2) (w := u) (by omega)))
  have t2 := truV (q_call (n := 1) (q_cons1 v4) rfl rfl (word_right (M := M2) (w := v) (by omega)))
  have t3 := truV (q_call (n := 2) (q_cons2 v3 v4) rfl rfl (two_right (M := M2) hu hv))
  obtain ⟨r, M3, e3, r0, r1, h3⟩ := kdraw hc h2 (by omega) (many := (u.length : Int) + 1) (by omega) (log2_small (by omega))
  obtain ⟨n, rfl⟩ : ∃ n : Nat, r = (n : Int) := ⟨r.toNat, by omega⟩
  have x1 : eBin opAdd (eB bLen (aCons (eVar 3) aNil)) (eC (.int 1)) (envK most (some (.d (.str (ws u)))) (some (.d (.str (ws v))))) M2 = .ok (.d (.int ((u.length : Int) + 1))) M2 := by
    rw [q_bin (len_ok (w := u) (i := 3) (ρ := envK most (some (.d (.str (ws u)))) (some (.d (.str (ws v))))) rfl (by omega)) rfl]; rfl
  have x2 := q_call (n := 2) (q_cons2 (show eVar 1 (envK most (some (.d (.str (ws u)))) (some (.d (.str (ws v))))) M2 = .ok (.d (.ob 0)) M2 from rfl) x1) rfl rfl e3
  have x3 : eSlS (eVar 3) oNone (oSome (eCall 2 F__law_draw (aCons (eVar 1) (aCons (eBin opAdd (eB bLen (aCons (eVar 3) aNil)) (eC (.int 1))) aNil)))) (envK most (some (.d (.str (ws u)))) (some (.d (.str (ws v))))) M2 = .ok (.d (.str (ws (u.take n)))) M3 := by
    simp only [eSlS, v3, bnd, oNone, oSome, x2, opSlS]
    rw [if_pos (by rw [ws_len]; unfold DL.most; omega), cutN]
  have t4 := truV (q_call (n := 2) (q_cons2 v3 x3) rfl rfl (two_right (M := M3) hu (v := u.take n) (by rw [List.length_take]; omega)))
  refine ⟨some (.d (.str (ws u))), some (.d (.str (ws v))), M3, ?_, Hd.mono h3 (by omega)⟩
  have s2 := q_skip (f := sRet (eC (.bl false))) (t := bOr (bNot (tTru (eCall 1 F__law_word_right (aCons (eVar 3) aNil)))) (bOr (bNot (tTru (eCall 1 F__law_word_right (aCons (eVar 4) aNil)))) (bNot (tTru (eCall 2 F__law_two_right (aCons (eVar 3) (aCons (eVar 4) aNil))))))) (ρ := envK most (some (.d (.str (ws u)))) (some (.d (.str (ws v))))) (M := M2) (M' := M2) (by rw [q_or0 (q_not t1), q_or0 (q_not t2)]; exact q_not t3)
  rw [B1_law, q_nx s1, q_nx s2]
  exact q_skip (q_not t4)
theorem tail_ok {cells : List Int} {B : Nat} {M : Mem} {x2 x3 x4 : Option Ev} (hc : Cl cells) (hM : Hd cells B M) (hB : B + 1000 ≤ 1000000) :
    ∃ M', (sSeq T3_law (sSeq T4_law (sSeq T5_law (sSeq T6_law (sSeq T7_law (sSeq T8_law (sSeq T9_law T10_law))))))) [none, some (.d (.ob 0)), x2, x3, x4, none, none, none, none, none] M = .rt (.bl true) M' := by
  obtain ⟨r, M1, e1, r0, r1, h1⟩ := kdraw hc hM (by omega) (many := 401) (by omega) (by decide)
  obtain ⟨n, rfl⟩ : ∃ n : Nat, r = (n : Int) := ⟨r.toNat, by omega⟩
  obtain ⟨r', M2, e2, r0', r1', h2⟩ := kdraw hc h1 (by omega) (many := 400) (by omega) (by decide)
  obtain ⟨k, rfl⟩ : ∃ n : Nat, r' = (n : Int) := ⟨r'.toNat, by omega⟩
  obtain ⟨r2, M3, e3, q0, q1, h3⟩ := kdraw hc h2 (by omega) (many := 10000000000000000000000000) (by omega) (by decide +kernel)
  obtain ⟨F, hF⟩ : ∃ F : Nat, (F : Int) = 1000000 + r2 := ⟨(1000000 + r2).toNat, by omega⟩
  obtain ⟨M4, e4, h4⟩ := days_right hc h3 (by omega)
  obtain ⟨M5, e5, h5⟩ := refused_ok hc h4 (by omega)
  refine ⟨M5, ?_⟩
  have s3 : T3_law [none, some (.d (.ob 0)), x2, x3, x4, none, none, none, none, none] M = .nx [none, some (.d (.ob 0)), x2, x3, x4, some (.d (.int (n : Int))), some (.d (.int (1 + (k : Int)))), none, none, none] M2 := by
    have a := q_call (n := 2) (q_cons2 (show eVar 1 [none, some (.d (.ob 0)), x2, x3, x4, none, none, none, none, none] M = .ok (.d (.ob 0)) M from rfl) (show eC (.int 401) _ M = .ok (.d (.int 401)) M from rfl)) rfl rfl e1
    have b := q_call (n := 2) (q_cons2 (show eVar 1 [none, some (.d (.ob 0)), x2, x3, x4, none, none, none, none, none] M1 = .ok (.d (.ob 0)) M1 from rfl) (show eC (.int 400) _ M1 = .ok (.d (.int 400)) M1 from rfl)) rfl rfl e2
    have b' := (q_bin (o := opAdd) (show eC (.int 1) [none, some (.d (.ob 0)), x2, x3, x4, none, none, none, none, none] M1 = .ok (.d (.int 1)) M1 from rfl) b).trans (show _ = R.ok (Ev.d (.int (1 + (k : Int)))) M2 from rfl)
    simp only [T3_law, sPar, q_cons2 a b', sE]; rfl
  have up : pr (NB.node (List.replicate n true)).x = prI (n : Int) 1 := by rw [NB.node_up]; rfl
  have dn : pr (NB.node (List.replicate n false)).x = prI (0 - (n : Int)) 1 := by
    rw [NB.node_dn]
    show prI (-(n : Int)) 1 = _
    rw [show (0 : Int) - n = -n by omega]
  have ln : ∀ b : Bool, (List.replicate n b).length = n := fun b => List.length_replicate
  have s4 : T4_law [none, some (.d (.ob 0)), x2, x3, x4, some (.d (.int (n : Int))), some (.d (.int (1 + (k : Int)))), none, none, none] M2 = .nx [none, some (.d (.ob 0)), x2, x3, x4, some (.d (.int (n : Int))), some (.d (.int (1 + (k : Int)))), some (.d (.lst [.str (ws (List.replicate n true)), .str (ws (List.replicate n false)), prI (n : Int) 1])), none, none] M2 := by
    have v5 : eVar 5 [none, some (.d (.ob 0)), x2, x3, x4, some (.d (.int (n : Int))), some (.d (.int (1 + (k : Int)))), none, none, none] M2 = .ok (.d (.int (n : Int))) M2 := rfl
    have g1 := signs_ok (w := List.replicate n true) (M := M2) (by rw [ln]; omega)
    have g2 := signs_ok (w := List.replicate n false) (M := M2) (by rw [ln]; omega)
    rw [up] at g1; rw [dn] at g2
    have g3 := prog_number (w := List.replicate n true) (M := M2) (by rw [ln]; omega)
    rw [up] at g3
    have t1 := tup2 v5 (show eC (.int 1) _ M2 = .ok (.d (.int 1)) M2 from rfl)
    have t2 := tup2 ((q_bin (o := opSub) (show eC (.int 0) [none, some (.d (.ob 0)), x2, x3, x4, some (.d (.int (n : Int))), some (.d (.int (1 + (k : Int)))), none, none, none] M2 = .ok (.d (.int 0)) M2 from rfl) v5).trans (show _ = R.ok (Ev.d (.int (0 - (n : Int)))) M2 by simp [opI2])) (show eC (.int 1) _ M2 = .ok (.d (.int 1)) M2 from rfl)
    have t3 := (q_bin (o := opMulS2) (show eC (.str "L") [none, some (.d (.ob 0)), x2, x3, x4, some (.d (.int (n : Int))), some (.d (.int (1 + (k : Int)))), none, none, none] M2 = .ok (.d (.str (ws [true]))) M2 from rfl) v5).trans (mul2 true n (by omega) M2)
    have l := q_cons (q_call (n := 1) (q_cons1 t1) rfl rfl g1) (q_cons2 (q_call (n := 1) (q_cons1 t2) rfl rfl g2) (q_call (n := 1) (q_cons1 t3) rfl rfl g3))
    have el := (congrArg (fun z => bnd z fun es M => match datas es with | some l => if l.length ≤ DL.most then R.ok (Ev.d (.lst l)) M else .stuck | none => .stuck) l)
    exact q_set (x := .d (.lst [.str (ws (List.replicate n true)), .str (ws (List.replicate n false)), prI (n : Int) 1])) (el.trans rfl) rfl (show 7 < 10 by decide)
  have sfl : ∀ l : List D, l.length ≤ 10 → (∀ d ∈ l, (∃ s, d = .str s) ∨ (∃ i, d = .int i) ∨ ∃ a b, d = prI a b) → F__law_is [.d (.lst l), .d (.lst l)] = F__law_is [.d (.lst l), .d (.lst l)] ∧ ∀ M, F__law_is [.d (.lst l), .d (.lst l)] M = .ok (.bl true) M := fun l hl h => ⟨rfl, fun M => sf_is (Sf.lst (n := 3) (by unfold DL.most; omega) fun d hd => by
    rcases h d hd with ⟨s, rfl⟩ | ⟨i, rfl⟩ | ⟨a, b, rfl⟩
    · exact Sf.str 2 _
    · exact Sf.int 2 _
    · exact Sf.tup (n := 2) (by show 2 ≤ DL.most; unfold DL.most; omega) fun d hd => by
        simp only [List.mem_cons, List.not_mem_nil, or_false] at hd
        rcases hd with rfl | rfl
        · exact Sf.int 1 _
        · exact Sf.int 1 _) M⟩
  have s5 : T5_law [none, some (.d (.ob 0)), x2, x3, x4, some (.d (.int (n : Int))), some (.d (.int (1 + (k : Int)))), some (.d (.lst [.str (ws (List.replicate n true)), .str (ws (List.replicate n false)), prI (n : Int) 1])), none, none] M2 = .nx [none, some (.d (.ob 0)), x2, x3, x4, some (.d (.int (n : Int))), some (.d (.int (1 + (k : Int)))), some (.d (.lst [.str (ws (List.replicate n true)), .str (ws (List.replicate n false)), prI (n : Int) 1])), none, none] M2 := by
    have i := (sfl [.str (ws (List.replicate n true)), .str (ws (List.replicate n false)), prI (n : Int) 1] (by show 3 ≤ 10; omega) (fun d hd => by
      simp only [List.mem_cons, List.not_mem_nil, or_false] at hd
      rcases hd with rfl | rfl | rfl
      · exact .inl ⟨_, rfl⟩
      · exact .inl ⟨_, rfl⟩
      · exact .inr (.inr ⟨_, _, rfl⟩))).2 M2
    generalize hl : [D.str (ws (List.replicate n true)), .str (ws (List.replicate n false)), prI (n : Int) 1] = l at *
    have v5 : eVar 5 [none, some (.d (.ob 0)), x2, x3, x4, some (.d (.int (n : Int))), some (.d (.int (1 + (k : Int)))), some (.d (.lst l)), none, none] M2 = .ok (.d (.int (n : Int))) M2 := rfl
    have v7 : eVar 7 [none, some (.d (.ob 0)), x2, x3, x4, some (.d (.int (n : Int))), some (.d (.int (1 + (k : Int)))), some (.d (.lst l)), none, none] M2 = .ok (.d (.lst l)) M2 := rfl
    have t3 := (q_bin (o := opMulS2) (show eC (.str "L") [none, some (.d (.ob 0)), x2, x3, x4, some (.d (.int (n : Int))), some (.d (.int (1 + (k : Int)))), some (.d (.lst l)), none, none] M2 = .ok (.d (.str (ws [true]))) M2 from rfl) v5).trans (mul2 true n (by omega) M2)
    have t4 := (q_bin (o := opMulS2) (show eC (.str "R") [none, some (.d (.ob 0)), x2, x3, x4, some (.d (.int (n : Int))), some (.d (.int (1 + (k : Int)))), some (.d (.lst l)), none, none] M2 = .ok (.d (.str (ws [false]))) M2 from rfl) v5).trans (mul2 false n (by omega) M2)
    have t1 := tup2 v5 (show eC (.int 1) _ M2 = .ok (.d (.int 1)) M2 from rfl)
    have ll : eLst (aCons (eBin opMulS2 (eC (.str "L")) (eVar 5)) (aCons (eBin opMulS2 (eC (.str "R")) (eVar 5)) (aCons (eTup (aCons (eVar 5) (aCons (eC (.int 1)) aNil))) aNil))) [none, some (.d (.ob 0)), x2, x3, x4, some (.d (.int (n : Int))), some (.d (.int (1 + (k : Int)))), some (.d (.lst l)), none, none] M2 = .ok (.d (.lst l)) M2 := by
      have q := q_cons t3 (q_cons2 t4 t1)
      simp only [eLst, q, bnd]
      rw [← hl]; rfl
    exact q_skip (q_not (truV (q_call (n := 2) (q_cons2 v7 ll) rfl rfl i)))
  generalize hl : [D.str (ws (List.replicate n true)), .str (ws (List.replicate n false)), prI (n : Int) 1] = l at *
  have sm : pr (NB.node (true :: List.replicate k false)).x = prI 1 (NB.T k) := by
    rw [(NB.node_small k).2.1]
    obtain ⟨a1, a2⟩ := NB.nd_odd (a := 1) (n := k) (.inl rfl)
    have e : NB.p k = ((1 : Int) : Rat) * NB.p k := by simp
    unfold pr
    rw [e, a1, a2]; rfl
  have s6 : T6_law [none, some (.d (.ob 0)), x2, x3, x4, some (.d (.int (n : Int))), some (.d (.int (1 + (k : Int)))), some (.d (.lst l)), none, none] M2 = .nx [none, some (.d (.ob 0)), x2, x3, x4, some (.d (.int (n : Int))), some (.d (.int (1 + (k : Int)))), some (.d (.lst l)), some (.d (prI 1 (NB.T k))), none] M2 := by
    have a : eBin opSub (eVar 6) (eC (.int 1)) [none, some (.d (.ob 0)), x2, x3, x4, some (.d (.int (n : Int))), some (.d (.int (1 + (k : Int)))), some (.d (.lst l)), none, none] M2 = .ok (.d (.int (k : Int))) M2 := by
      rw [q_bin (show eVar 6 _ M2 = .ok (.d (.int (1 + (k : Int)))) M2 from rfl) rfl]
      simp [opI2]; omega
    exact q_set (tup2 rfl (q_call (n := 1) (q_cons1 a) rfl rfl (power_ok k M2 (by omega)))) rfl (show 8 < 10 by decide)
  have lk : (true :: List.replicate k false).length = k + 1 := by simp
  have s7 : T7_law [none, some (.d (.ob 0)), x2, x3, x4, some (.d (.int (n : Int))), some (.d (.int (1 + (k : Int)))), some (.d (.lst l)), some (.d (prI 1 (NB.T k))), none] M2 = .nx [none, some (.d (.ob 0)), x2, x3, x4, some (.d (.int (n : Int))), some (.d (.int (1 + (k : Int)))), some (.d (.lst l)), some (.d (prI 1 (NB.T k))), none] M2 := by
    have v8 : eVar 8 [none, some (.d (.ob 0)), x2, x3, x4, some (.d (.int (n : Int))), some (.d (.int (1 + (k : Int)))), some (.d (.lst l)), some (.d (prI 1 (NB.T k))), none] M2 = .ok (.d (prI 1 (NB.T k))) M2 := rfl
    have v6 : eVar 6 [none, some (.d (.ob 0)), x2, x3, x4, some (.d (.int (n : Int))), some (.d (.int (1 + (k : Int)))), some (.d (.lst l)), some (.d (prI 1 (NB.T k))), none] M2 = .ok (.d (.int (1 + (k : Int)))) M2 := rfl
    have g1 := signs_ok (w := true :: List.replicate k false) (M := M2) (by rw [lk]; omega)
    have g2 := born_ok (w := true :: List.replicate k false) (M := M2) (node_dq (by rw [lk]; omega)).1
    rw [sm] at g1 g2
    rw [lk, show ((k + 1 : Nat) : Int) = 1 + (k : Int) by omega] at g2
    have l1 : eLst (aCons (eCall 1 F_signs (aCons (eVar 8) aNil)) (aCons (eCall 1 F_born_on (aCons (eVar 8) aNil)) aNil)) [none, some (.d (.ob 0)), x2, x3, x4, some (.d (.int (n : Int))), some (.d (.int (1 + (k : Int)))), some (.d (.lst l)), some (.d (prI 1 (NB.T k))), none] M2 = .ok (.d (.lst [.str (ws (true :: List.replicate k false)), .int (1 + (k : Int))])) M2 := by
      simp only [eLst, q_cons2 (q_call (n := 1) (q_cons1 v8) rfl rfl g1) (q_call (n := 1) (q_cons1 v8) rfl rfl g2), bnd]; rfl
    have a : eBin opSub (eVar 6) (eC (.int 1)) [none, some (.d (.ob 0)), x2, x3, x4, some (.d (.int (n : Int))), some (.d (.int (1 + (k : Int)))), some (.d (.lst l)), some (.d (prI 1 (NB.T k))), none] M2 = .ok (.d (.int (k : Int))) M2 := by
      rw [q_bin v6 rfl]
      simp [opI2]; omega
    have t4 := (q_bin (o := opMulS2) (show eC (.str "R") [none, some (.d (.ob 0)), x2, x3, x4, some (.d (.int (n : Int))), some (.d (.int (1 + (k : Int)))), some (.d (.lst l)), some (.d (prI 1 (NB.T k))), none] M2 = .ok (.d (.str (ws [false]))) M2 from rfl) a).trans (mul2 false k (by omega) M2)
    have t5 : eBin opAdd (eC (.str "L")) (eBin opMulS2 (eC (.str "R")) (eBin opSub (eVar 6) (eC (.int 1)))) [none, some (.d (.ob 0)), x2, x3, x4, some (.d (.int (n : Int))), some (.d (.int (1 + (k : Int)))), some (.d (.lst l)), some (.d (prI 1 (NB.T k))), none] M2 = .ok (.d (.str (ws (true :: List.replicate k false)))) M2 := by
      rw [q_bin (show eC (.str "L") _ M2 = .ok (.d (.str (ws [true]))) M2 from rfl) t4]
      have lw : (ws [true]).length + (ws (List.replicate k false)).length ≤ DL.most := by rw [ws_len, ws_len, List.length_replicate]; unfold DL.most; simp; omega
      simp only [opAdd, opAddS, if_pos lw, ws_app]; rfl
    have l2 : eLst (aCons (eBin opAdd (eC (.str "L")) (eBin opMulS2 (eC (.str "R")) (eBin opSub (eVar 6) (eC (.int 1))))) (aCons (eVar 6) aNil)) [none, some (.d (.ob 0)), x2, x3, x4, some (.d (.int (n : Int))), some (.d (.int (1 + (k : Int)))), some (.d (.lst l)), some (.d (prI 1 (NB.T k))), none] M2 = .ok (.d (.lst [.str (ws (true :: List.replicate k false)), .int (1 + (k : Int))])) M2 := by
      simp only [eLst, q_cons2 t5 v6, bnd]; rfl
    have i := (sfl [.str (ws (true :: List.replicate k false)), .int (1 + (k : Int))] (by show 2 ≤ 10; omega) (fun d hd => by
      simp only [List.mem_cons, List.not_mem_nil, or_false] at hd
      rcases hd with rfl | rfl
      · exact .inl ⟨_, rfl⟩
      · exact .inr (.inl ⟨_, rfl⟩))).2 M2
    exact q_skip (q_not (truV (q_call (n := 2) (q_cons2 l1 l2) rfl rfl i)))
  have s8 : T8_law [none, some (.d (.ob 0)), x2, x3, x4, some (.d (.int (n : Int))), some (.d (.int (1 + (k : Int)))), some (.d (.lst l)), some (.d (prI 1 (NB.T k))), none] M2 = .nx [none, some (.d (.ob 0)), x2, x3, x4, some (.d (.int (n : Int))), some (.d (.int (1 + (k : Int)))), some (.d (.lst l)), some (.d (prI 1 (NB.T k))), some (.d (.int (F : Int)))] M3 := by
    have p6 : eBin opPow (eC (.int 10)) (eC (.int 6)) [none, some (.d (.ob 0)), x2, x3, x4, some (.d (.int (n : Int))), some (.d (.int (1 + (k : Int)))), some (.d (.lst l)), some (.d (prI 1 (NB.T k))), none] M2 = .ok (.d (.int 1000000)) M2 := by
      have c : CPow 10 6 := ⟨by omega, by omega, by decide⟩
      rw [q_bin rfl rfl]; simp only [opI2, if_pos c]; rfl
    have p25 : eBin opPow (eC (.int 10)) (eC (.int 25)) [none, some (.d (.ob 0)), x2, x3, x4, some (.d (.int (n : Int))), some (.d (.int (1 + (k : Int)))), some (.d (.lst l)), some (.d (prI 1 (NB.T k))), none] M2 = .ok (.d (.int 10000000000000000000000000)) M2 := by
      have c : CPow 10 25 := ⟨by omega, by omega, by decide⟩
      rw [q_bin rfl rfl]; simp only [opI2, if_pos c]; rfl
    have a := q_call (n := 2) (q_cons2 (show eVar 1 [none, some (.d (.ob 0)), x2, x3, x4, some (.d (.int (n : Int))), some (.d (.int (1 + (k : Int)))), some (.d (.lst l)), some (.d (prI 1 (NB.T k))), none] M2 = .ok (.d (.ob 0)) M2 from rfl) p25) rfl rfl e3
    have b := (q_bin (o := opAdd) p6 a).trans (show _ = R.ok (Ev.d (.int (F : Int))) M3 by rw [hF]; rfl)
    exact q_set b rfl (show 9 < 10 by decide)
  have bT : ((2 ^ 128 : Nat) : Int) = 340282366920938463463374607431768211456 := by decide +kernel
  have bF : ∀ i : Int, -100000000000000000000000000 < i → i < 100000000000000000000000000 → Bn 128 i := fun i k1 k2 => by unfold Bn; omega
  have s9 : T9_law [none, some (.d (.ob 0)), x2, x3, x4, some (.d (.int (n : Int))), some (.d (.int (1 + (k : Int)))), some (.d (.lst l)), some (.d (prI 1 (NB.T k))), some (.d (.int (F : Int)))] M3 = .nx [none, some (.d (.ob 0)), x2, x3, x4, some (.d (.int (n : Int))), some (.d (.int (1 + (k : Int)))), some (.d (.lst l)), some (.d (prI 1 (NB.T k))), some (.d (.int (F : Int)))] M3 := by
    have uF : pr (NB.node (List.replicate F true)).x = prI (F : Int) 1 := by rw [NB.node_up]; rfl
    have dF : pr (NB.node (List.replicate F false)).x = prI (0 - (F : Int)) 1 := by
      rw [NB.node_dn]
      show prI (-(F : Int)) 1 = _
      rw [show (0 : Int) - F = -F by omega]
    have hFx : pr (NB.node (List.replicate (F + 1) true ++ [false])).x = prI (2 * (F : Int) + 1) 2 := by
      rw [NB.node_far]
      obtain ⟨a1, a2⟩ := NB.nd_odd (a := 2 * (F : Int) + 1) (n := 1) (.inl (by omega))
      unfold pr
      rw [a1, a2]; rfl
    have d1 : Dq (NB.node (List.replicate F true)).x := by rw [NB.node_up]; exact Dq.int (Bn.mono (bF (F : Int) (by omega) (by omega)) (by omega))
    have d2 : Dq (NB.node (List.replicate F false)).x := by
      rw [NB.node_dn]
      exact (Dq.int (Bn.mono (bF (F : Int) (by omega) (by omega)) (by omega))).neg
    have d3 : Dq (NB.node (List.replicate (F + 1) true ++ [false])).x := by
      rw [NB.node_far]
      obtain ⟨a1, a2⟩ := NB.nd_odd (a := 2 * (F : Int) + 1) (n := 1) (.inl (by omega))
      exact ⟨⟨1, by omega, a2⟩, by rw [a1]; exact Bn.mono (bF (2 * (F : Int) + 1) (by omega) (by omega)) (by omega)⟩
    have g1 := born_ok (M := M3) d1
    have g2 := born_ok (M := M3) d2
    have g3 := born_ok (M := M3) d3
    rw [uF, List.length_replicate] at g1
    rw [dF, List.length_replicate] at g2
    rw [hFx, List.length_append, List.length_replicate, List.length_singleton, show ((F + 1 + 1 : Nat) : Int) = (F : Int) + 2 by omega] at g3
    have v9 : eVar 9 [none, some (.d (.ob 0)), x2, x3, x4, some (.d (.int (n : Int))), some (.d (.int (1 + (k : Int)))), some (.d (.lst l)), some (.d (prI 1 (NB.T k))), some (.d (.int (F : Int)))] M3 = .ok (.d (.int (F : Int))) M3 := rfl
    have t1 := tup2 v9 (show eC (.int 1) _ M3 = .ok (.d (.int 1)) M3 from rfl)
    have t2 := tup2 ((q_bin (o := opSub) (show eC (.int 0) [none, some (.d (.ob 0)), x2, x3, x4, some (.d (.int (n : Int))), some (.d (.int (1 + (k : Int)))), some (.d (.lst l)), some (.d (prI 1 (NB.T k))), some (.d (.int (F : Int)))] M3 = .ok (.d (.int 0)) M3 from rfl) v9).trans (show _ = R.ok (Ev.d (.int (0 - (F : Int)))) M3 by simp [opI2])) (show eC (.int 1) _ M3 = .ok (.d (.int 1)) M3 from rfl)
    have cm : cMul 2 (F : Int) := cmB (show Bn 2 2 by unfold Bn; decide) (bF (F : Int) (by omega) (by omega)) (by omega)
    have m2 : eBin opMulS2 (eC (.int 2)) (eVar 9) [none, some (.d (.ob 0)), x2, x3, x4, some (.d (.int (n : Int))), some (.d (.int (1 + (k : Int)))), some (.d (.lst l)), some (.d (prI 1 (NB.T k))), some (.d (.int (F : Int)))] M3 = .ok (.d (.int (2 * (F : Int)))) M3 := by
      rw [q_bin rfl v9]; simp only [opMulS2, opMulA, opMul, if_pos cm]
    have m3 : eBin opAdd (eBin opMulS2 (eC (.int 2)) (eVar 9)) (eC (.int 1)) [none, some (.d (.ob 0)), x2, x3, x4, some (.d (.int (n : Int))), some (.d (.int (1 + (k : Int)))), some (.d (.lst l)), some (.d (prI 1 (NB.T k))), some (.d (.int (F : Int)))] M3 = .ok (.d (.int (2 * (F : Int) + 1))) M3 := by
      rw [q_bin m2 rfl]; rfl
    have t3 := tup2 m3 (show eC (.int 2) _ M3 = .ok (.d (.int 2)) M3 from rfl)
    have l1 : eLst (aCons (eCall 1 F_born_on (aCons (eTup (aCons (eVar 9) (aCons (eC (.int 1)) aNil))) aNil)) (aCons (eCall 1 F_born_on (aCons (eTup (aCons (eBin opSub (eC (.int 0)) (eVar 9)) (aCons (eC (.int 1)) aNil))) aNil)) (aCons (eCall 1 F_born_on (aCons (eTup (aCons (eBin opAdd (eBin opMulS2 (eC (.int 2)) (eVar 9)) (eC (.int 1))) (aCons (eC (.int 2)) aNil))) aNil)) aNil))) [none, some (.d (.ob 0)), x2, x3, x4, some (.d (.int (n : Int))), some (.d (.int (1 + (k : Int)))), some (.d (.lst l)), some (.d (prI 1 (NB.T k))), some (.d (.int (F : Int)))] M3 = .ok (.d (.lst [.int (F : Int), .int (F : Int), .int ((F : Int) + 2)])) M3 := by
      simp only [eLst, q_cons (q_call (n := 1) (q_cons1 t1) rfl rfl g1) (q_cons2 (q_call (n := 1) (q_cons1 t2) rfl rfl g2) (q_call (n := 1) (q_cons1 t3) rfl rfl g3)), bnd]; rfl
    have x2' : eBin opAdd (eVar 9) (eC (.int 2)) [none, some (.d (.ob 0)), x2, x3, x4, some (.d (.int (n : Int))), some (.d (.int (1 + (k : Int)))), some (.d (.lst l)), some (.d (prI 1 (NB.T k))), some (.d (.int (F : Int)))] M3 = .ok (.d (.int ((F : Int) + 2))) M3 := by
      rw [q_bin v9 rfl]; rfl
    have l2 : eLst (aCons (eVar 9) (aCons (eVar 9) (aCons (eBin opAdd (eVar 9) (eC (.int 2))) aNil))) [none, some (.d (.ob 0)), x2, x3, x4, some (.d (.int (n : Int))), some (.d (.int (1 + (k : Int)))), some (.d (.lst l)), some (.d (prI 1 (NB.T k))), some (.d (.int (F : Int)))] M3 = .ok (.d (.lst [.int (F : Int), .int (F : Int), .int ((F : Int) + 2)])) M3 := by
      simp only [eLst, q_cons v9 (q_cons2 v9 x2'), bnd]; rfl
    have i := (sfl [.int (F : Int), .int (F : Int), .int ((F : Int) + 2)] (by show 3 ≤ 10; omega) (fun d hd => by
      simp only [List.mem_cons, List.not_mem_nil, or_false] at hd
      rcases hd with rfl | rfl | rfl <;> exact .inr (.inl ⟨_, rfl⟩))).2 M3
    exact q_skip (q_not (truV (q_call (n := 2) (q_cons2 l1 l2) rfl rfl i)))
  have s10 : T10_law [none, some (.d (.ob 0)), x2, x3, x4, some (.d (.int (n : Int))), some (.d (.int (1 + (k : Int)))), some (.d (.lst l)), some (.d (prI 1 (NB.T k))), some (.d (.int (F : Int)))] M3 = .rt (.bl true) M5 := by
    have a := q_call (n := 1) (q_cons1 (show eVar 1 [none, some (.d (.ob 0)), x2, x3, x4, some (.d (.int (n : Int))), some (.d (.int (1 + (k : Int)))), some (.d (.lst l)), some (.d (prI 1 (NB.T k))), some (.d (.int (F : Int)))] M3 = .ok (.d (.ob 0)) M3 from rfl)) rfl rfl e4
    have b := q_call (n := 1) (q_cons1 (show eVar 1 [none, some (.d (.ob 0)), x2, x3, x4, some (.d (.int (n : Int))), some (.d (.int (1 + (k : Int)))), some (.d (.lst l)), some (.d (prI 1 (NB.T k))), some (.d (.int (F : Int)))] M4 = .ok (.d (.ob 0)) M4 from rfl)) rfl rfl e5
    exact q_ret (x := bv true) (by rw [q_eand1 a rfl]; exact b) rfl
  rw [q_nx s3, q_nx s4, q_nx s5, q_nx s6, q_nx s7, q_nx s8, q_nx s9, s10]
theorem plain_law (ns : List Int) (h : ns.length ≤ 63) (hb : ∀ z ∈ ns, Builtin.Int.intBits z ≤ 1048576) : ∃ (cells : List Int) (k : Int), (∀ d, (d = .sc ns ∨ d = .lst (ns.map D.int)) → S_law1 (some (.d d) :: List.replicate 9 none) [] = .ok (.d (.lst [.lst (cells.map D.int), .int 0, .int 0, .int k, .int 0])) []) ∧
      ∃ M', S_law (none :: some (.d (.ob 0)) :: List.replicate 8 none) [.lst [.ob 1, .int 0, .int 0, .int k, .int 0], .lst (cells.map D.int)] = .rt (.bl true) M' := by
  refine ⟨ns.map fun z => (z.natAbs : Int), 47 + 7 * (ns.length : Int), fun d hd => ?_, ?_⟩
  · have e := hand_ok ns h d hd
    have v : eVar 0 (some (.d d) :: List.replicate 9 none) [] = .ok (look (.d d)) [] := rfl
    have lk : look (.d d) = .d d := rfl
    rw [lk] at v
    exact q_call (n := 1) (q_cons1 v) (ys := [.d d]) rfl rfl e
  · have hc : Cl (ns.map fun z => (z.natAbs : Int)) := fun z hz => by
      obtain ⟨y, hy, rfl⟩ := List.mem_map.mp hz
      exact ⟨by omega, bits_abs (hb y hy)⟩
    have h0 : Hd (ns.map fun z => (z.natAbs : Int)) 0 [.lst [.ob 1, .int 0, .int 0, .int (47 + 7 * (ns.length : Int)), .int 0], .lst ((ns.map fun z => (z.natAbs : Int)).map D.int)] := ⟨0, 0, _, 0, rfl, by omega, by omega, by omega, by omega, by omega, by omega⟩
    generalize [O.lst [.ob 1, .int 0, .int 0, .int (47 + 7 * (ns.length : Int)), .int 0], .lst ((ns.map fun z => (z.natAbs : Int)).map D.int)] = M0 at h0
    have it : iSeq false (eTup (aCons (eC (.int 6)) (aCons (eC (.int 20)) (aCons (eC (.int 60)) aNil)))) (none :: some (.d (.ob 0)) :: List.replicate 8 none) M0 = .ok [.int 6, .int 20, .int 60] M0 := by
      simp [iSeq, eTup, aCons, aNil, eC, bnd, datas, most, itemsOf]
    obtain ⟨ρ', M', e, x2, x3, x4, er, h4⟩ := forL_inv (g := .one 2) (f := B1_law) (fun i ρ M' => ∃ x2 x3 x4, ρ = [none, some (.d (.ob 0)), x2, x3, x4, none, none, none, none, none] ∧ Hd (ns.map fun z => (z.natAbs : Int)) (1000 * i) M') [.int 6, .int 20, .int 60] 0 (none :: some (.d (.ob 0)) :: List.replicate 8 none) M0
      (fun i d ρ M1 hd hi => by
        obtain ⟨x2, x3, x4, er, h1⟩ := hi
        subst er
        rw [Nat.zero_add] at h1 ⊢
        have hi4 : i < 3 := (List.getElem?_eq_some_iff.mp hd).1
        have hdm : ∃ m : Nat, d = .int (m : Int) ∧ m ≤ 60 ∧ 1 ≤ m := by
          have := List.mem_of_getElem? hd
          simp at this
          rcases this with rfl | rfl | rfl
          · exact ⟨6, rfl, by omega, by omega⟩
          · exact ⟨20, rfl, by omega, by omega⟩
          · exact ⟨60, rfl, by omega, by omega⟩
        obtain ⟨m, rfl, hm, hm0⟩ := hdm
        obtain ⟨y3, y4, M2, k1, k2⟩ := round_ok (x3 := x3) (x4 := x4) hc h1 (by omega) hm hm0
        exact ⟨envK m x3 x4, _, M2, rfl, k1, _, _, _, rfl, by rw [show 1000 * (i + 1) = 1000 * i + 1000 by omega]; exact k2⟩) ⟨_, _, _, rfl, h0⟩
    subst er
    obtain ⟨M2, eg⟩ := tail_ok (x2 := x2) (x3 := x3) (x4 := x4) hc h4 (by show 1000 * 3 + 1000 ≤ 1000000; omega)
    refine ⟨M2, ?_⟩
    have s2 : T2_law (none :: some (.d (.ob 0)) :: List.replicate 8 none) M0 = .nx [none, some (.d (.ob 0)), x2, x3, x4, none, none, none, none, none] M' := q_for it e
    rw [S_law, q_nx s2]
    exact eg
end K08

set_option Elab.async false
set_option linter.all false
set_option maxRecDepth 100000
set_option maxHeartbeats 0
/-! law 08: the head, the end. -/
namespace K08
open PySem PySem.Spec PyProof.Rows L2 DL
def dd (x : Str) (i : Nat) : He.DefD := ⟨(x, none), x, x, defArgs (top i), defBody (top i), defScope (top i), [], []⟩
def fn : List He.DefD := [dd "is_integer" 1, dd "is_within" 2, dd "is_tuple_of" 3, dd "common" 4, dd "frac" 5, dd "is_fraction" 6, dd "plus" 7, dd "half_of" 8, dd "less" 9, dd "is_two_power" 10, dd "is_half_number" 16, dd "signs_number" 17, dd "between_of" 18, dd "signs_of" 19, dd "signs" 20, dd "number_by" 21, dd "product_of" 22, dd "born_on" 23, dd "numbers_by" 24, dd "middle_of" 25, dd "is_whole" 26, dd "_law_hand" 28, dd "_law_draw" 29, dd "_law_any" 30, dd "_law_is" 31, dd "_law_frac" 32, dd "_law_below" 33, dd "_law_moved" 34, dd "_law_number_by" 35, dd "_law_power" 36, dd "_law_word" 37, dd "_law_other" 38, dd "_law_word_right" 39, dd "_law_two_right" 40, dd "_law_days_right" 41, dd "_law_raised" 42, dd "_law_refused" 43, dd "law" 44]
def fa : List He.Fa := [.exc "BadNumber", .glo "is_integer", .glo "is_within", .glo "is_tuple_of", .glo "common", .glo "frac", .glo "is_fraction", .glo "plus", .glo "half_of", .glo "less", .glo "is_two_power", .glo "is_half_number", .glo "signs_number", .glo "between_of", .glo "signs_of", .glo "signs", .glo "number_by", .glo "product_of", .glo "born_on", .glo "numbers_by", .glo "middle_of", .glo "is_whole", .glo "_law_hand", .glo "_law_draw", .glo "_law_any", .glo "_law_is", .glo "_law_frac", .glo "_law_below", .glo "_law_moved", .glo "_law_number_by", .glo "_law_power", .glo "_law_word", .glo "_law_other", .glo "_law_word_right", .glo "_law_two_right", .glo "_law_days_right", .glo "_law_raised", .glo "_law_refused", .glo "law", .glo "PlayError", .glo "BadNumber", .free "abs", .free "all", .free "bool", .free "enumerate", .free "int", .free "isinstance", .free "len", .free "list", .free "max", .free "range", .free "sorted", .free "str", .free "tuple", .free "zip", .int "MOST_SIGNS" (400), .exm "BadNumber" "PlayError" true]
def exB (K : PySem.W.Frag) (c : Str) : Bool :=
  decide (PySem.W.findIn K (.ref (He.ga K c)) "__getattribute__" = some (some (.builtin "BaseException.__getattribute__"))) && (decide (PySem.W.findIn K (.ref (He.ga K c)) "__getattr__" = some none) && (decide (PySem.W.subIn K (.ref (He.ga K c)) (.type "BaseException") = some true)
  && (PySem.W.hasDictIn K (He.ga K c) && (decide (PySem.W.findIn K (.ref (He.ga K c)) "__class__" = some (some (.builtin "object.__class__"))) && (decide (PySem.W.specialIn K (.builtin "object.__class__") "__get__" = some (some (.builtin "getset_descriptor.__get__")))
  && (decide (PySem.W.takesIn K (.builtin "object.__class__") = some true) && decide (PySem.W.mroIn K (He.ga K c) (.type "object") = some true)))))))
theorem exB_ok {K : PySem.W.Frag} {c : Str} (h : exB K c = true) : ExcC K (He.ga K c) := by
  unfold exB at h
  simp only [Bool.and_eq_true, decide_eq_true_eq] at h
  obtain ⟨h1, h2, h3, h4, h5, h6, h7, h8⟩ := h
  exact ⟨h1, h2, h3, h4, h5, h6, h7, h8⟩
def ex (K : PySem.W.Frag) : Bool := exB K "BadNumber" && decide (PySem.W.kitOne K (.ref (He.ga K "BadNumber")) (.ref (He.ga K "BadNumber")) = some true)
abbrev R : PySem.W.OpenRow := PySem.W.OpenLaw.row LW
abbrev hk : PySem.W.Hook := He.hookX 5 fa fn [] [("_law_refused", none)] ex
def ob (s : PySem.W.SharedT) : He.AlX := He.obsX 5 fa fn [] [("_law_refused", none)] ex (HandSHeadRun.getT s)
theorem ob_eq (s : PySem.W.SharedT) : ob s = hk.obs s.abs := He.obsX_eq (HandSHeadRun.getT_eq s)
def loose : List Str := [("is_integer" : Str), ("is_within" : Str), ("is_tuple_of" : Str), ("common" : Str), ("frac" : Str), ("is_fraction" : Str), ("plus" : Str), ("half_of" : Str), ("less" : Str), ("is_two_power" : Str), ("PlayError" : Str), ("BadNumber" : Str), ("MOST_SIGNS" : Str), ("is_half_number" : Str), ("signs_number" : Str), ("between_of" : Str), ("signs_of" : Str), ("signs" : Str), ("number_by" : Str), ("product_of" : Str), ("born_on" : Str), ("numbers_by" : Str), ("middle_of" : Str), ("is_whole" : Str), ("_law_hand" : Str), ("_law_draw" : Str), ("_law_any" : Str), ("_law_is" : Str), ("_law_frac" : Str), ("_law_below" : Str), ("_law_moved" : Str), ("_law_number_by" : Str), ("_law_power" : Str), ("_law_word" : Str), ("_law_other" : Str), ("_law_word_right" : Str), ("_law_two_right" : Str), ("_law_days_right" : Str), ("_law_raised" : Str), ("_law_refused" : Str)]
theorem run (w : World) : HandSHeadRun.RunEq R (PySem.W.view R.prog [44]) hk ob 3000 loose w := by
  intro os
  kernel_rfl
theorem lawAt (w : World) (K : PySem.W.Frag) (h : Heap) (mg : Str → Option Value) (fa' : Addr) (KX : K.In h) (c : He.SaysX fa fn [] [("_law_refused", none)] ex w h K) (G : h.Ns mainGlobals mg) (hmg : mg ("law" : Str) = some (.ref fa')) : LamX.LawAtS LW w K (L2.CX LW.prog w) 16 63 "script" mg fa' h := by
  have cd := c.t.d
  obtain ⟨fd0, F0⟩ := cd.def_ 0 (d := dd "is_integer" 1) rfl
  have m0 : mg "is_integer" = some (.ref (He.ga K "is_integer")) := He.glo_ok KX G (cd.fact 1 (f := .glo "is_integer") rfl)
  obtain ⟨fd1, F1⟩ := cd.def_ 1 (d := dd "is_within" 2) rfl
  have m1 : mg "is_within" = some (.ref (He.ga K "is_within")) := He.glo_ok KX G (cd.fact 2 (f := .glo "is_within") rfl)
  obtain ⟨fd2, F2⟩ := cd.def_ 2 (d := dd "is_tuple_of" 3) rfl
  have m2 : mg "is_tuple_of" = some (.ref (He.ga K "is_tuple_of")) := He.glo_ok KX G (cd.fact 3 (f := .glo "is_tuple_of") rfl)
  obtain ⟨fd3, F3⟩ := cd.def_ 3 (d := dd "common" 4) rfl
  have m3 : mg "common" = some (.ref (He.ga K "common")) := He.glo_ok KX G (cd.fact 4 (f := .glo "common") rfl)
  obtain ⟨fd4, F4⟩ := cd.def_ 4 (d := dd "frac" 5) rfl
  have m4 : mg "frac" = some (.ref (He.ga K "frac")) := He.glo_ok KX G (cd.fact 5 (f := .glo "frac") rfl)
  obtain ⟨fd5, F5⟩ := cd.def_ 5 (d := dd "is_fraction" 6) rfl
  have m5 : mg "is_fraction" = some (.ref (He.ga K "is_fraction")) := He.glo_ok KX G (cd.fact 6 (f := .glo "is_fraction") rfl)
  obtain ⟨fd6, F6⟩ := cd.def_ 6 (d := dd "plus" 7) rfl
  have m6 : mg "plus" = some (.ref (He.ga K "plus")) := He.glo_ok KX G (cd.fact 7 (f := .glo "plus") rfl)
  obtain ⟨fd7, F7⟩ := cd.def_ 7 (d := dd "half_of" 8) rfl
  have m7 : mg "half_of" = some (.ref (He.ga K "half_of")) := He.glo_ok KX G (cd.fact 8 (f := .glo "half_of") rfl)
  obtain ⟨fd8, F8⟩ := cd.def_ 8 (d := dd "less" 9) rfl
  have m8 : mg "less" = some (.ref (He.ga K "less")) := He.glo_ok KX G (cd.fact 9 (f := .glo "less") rfl)
  obtain ⟨fd9, F9⟩ := cd.def_ 9 (d := dd "is_two_power" 10) rfl
  have m9 : mg "is_two_power" = some (.ref (He.ga K "is_two_power")) := He.glo_ok KX G (cd.fact 10 (f := .glo "is_two_power") rfl)
  obtain ⟨fd10, F10⟩ := cd.def_ 10 (d := dd "is_half_number" 16) rfl
  have m10 : mg "is_half_number" = some (.ref (He.ga K "is_half_number")) := He.glo_ok KX G (cd.fact 11 (f := .glo "is_half_number") rfl)
  obtain ⟨fd11, F11⟩ := cd.def_ 11 (d := dd "signs_number" 17) rfl
  have m11 : mg "signs_number" = some (.ref (He.ga K "signs_number")) := He.glo_ok KX G (cd.fact 12 (f := .glo "signs_number") rfl)
  obtain ⟨fd12, F12⟩ := cd.def_ 12 (d := dd "between_of" 18) rfl
  have m12 : mg "between_of" = some (.ref (He.ga K "between_of")) := He.glo_ok KX G (cd.fact 13 (f := .glo "between_of") rfl)
  obtain ⟨fd13, F13⟩ := cd.def_ 13 (d := dd "signs_of" 19) rfl
  have m13 : mg "signs_of" = some (.ref (He.ga K "signs_of")) := He.glo_ok KX G (cd.fact 14 (f := .glo "signs_of") rfl)
  obtain ⟨fd14, F14⟩ := cd.def_ 14 (d := dd "signs" 20) rfl
  have m14 : mg "signs" = some (.ref (He.ga K "signs")) := He.glo_ok KX G (cd.fact 15 (f := .glo "signs") rfl)
  obtain ⟨fd15, F15⟩ := cd.def_ 15 (d := dd "number_by" 21) rfl
  have m15 : mg "number_by" = some (.ref (He.ga K "number_by")) := He.glo_ok KX G (cd.fact 16 (f := .glo "number_by") rfl)
  obtain ⟨fd16, F16⟩ := cd.def_ 16 (d := dd "product_of" 22) rfl
  have m16 : mg "product_of" = some (.ref (He.ga K "product_of")) := He.glo_ok KX G (cd.fact 17 (f := .glo "product_of") rfl)
  obtain ⟨fd17, F17⟩ := cd.def_ 17 (d := dd "born_on" 23) rfl
  have m17 : mg "born_on" = some (.ref (He.ga K "born_on")) := He.glo_ok KX G (cd.fact 18 (f := .glo "born_on") rfl)
  obtain ⟨fd18, F18⟩ := cd.def_ 18 (d := dd "numbers_by" 24) rfl
  have m18 : mg "numbers_by" = some (.ref (He.ga K "numbers_by")) := He.glo_ok KX G (cd.fact 19 (f := .glo "numbers_by") rfl)
  obtain ⟨fd19, F19⟩ := cd.def_ 19 (d := dd "middle_of" 25) rfl
  have m19 : mg "middle_of" = some (.ref (He.ga K "middle_of")) := He.glo_ok KX G (cd.fact 20 (f := .glo "middle_of") rfl)
  obtain ⟨fd20, F20⟩ := cd.def_ 20 (d := dd "is_whole" 26) rfl
  have m20 : mg "is_whole" = some (.ref (He.ga K "is_whole")) := He.glo_ok KX G (cd.fact 21 (f := .glo "is_whole") rfl)
  obtain ⟨fd21, F21⟩ := cd.def_ 21 (d := dd "_law_hand" 28) rfl
  have m21 : mg "_law_hand" = some (.ref (He.ga K "_law_hand")) := He.glo_ok KX G (cd.fact 22 (f := .glo "_law_hand") rfl)
  obtain ⟨fd22, F22⟩ := cd.def_ 22 (d := dd "_law_draw" 29) rfl
  have m22 : mg "_law_draw" = some (.ref (He.ga K "_law_draw")) := He.glo_ok KX G (cd.fact 23 (f := .glo "_law_draw") rfl)
  obtain ⟨fd23, F23⟩ := cd.def_ 23 (d := dd "_law_any" 30) rfl
  have m23 : mg "_law_any" = some (.ref (He.ga K "_law_any")) := He.glo_ok KX G (cd.fact 24 (f := .glo "_law_any") rfl)
  obtain ⟨fd24, F24⟩ := cd.def_ 24 (d := dd "_law_is" 31) rfl
  have m24 : mg "_law_is" = some (.ref (He.ga K "_law_is")) := He.glo_ok KX G (cd.fact 25 (f := .glo "_law_is") rfl)
  obtain ⟨fd25, F25⟩ := cd.def_ 25 (d := dd "_law_frac" 32) rfl
  have m25 : mg "_law_frac" = some (.ref (He.ga K "_law_frac")) := He.glo_ok KX G (cd.fact 26 (f := .glo "_law_frac") rfl)
  obtain ⟨fd26, F26⟩ := cd.def_ 26 (d := dd "_law_below" 33) rfl
  have m26 : mg "_law_below" = some (.ref (He.ga K "_law_below")) := He.glo_ok KX G (cd.fact 27 (f := .glo "_law_below") rfl)
  obtain ⟨fd27, F27⟩ := cd.def_ 27 (d := dd "_law_moved" 34) rfl
  have m27 : mg "_law_moved" = some (.ref (He.ga K "_law_moved")) := He.glo_ok KX G (cd.fact 28 (f := .glo "_law_moved") rfl)
  obtain ⟨fd28, F28⟩ := cd.def_ 28 (d := dd "_law_number_by" 35) rfl
  have m28 : mg "_law_number_by" = some (.ref (He.ga K "_law_number_by")) := He.glo_ok KX G (cd.fact 29 (f := .glo "_law_number_by") rfl)
  obtain ⟨fd29, F29⟩ := cd.def_ 29 (d := dd "_law_power" 36) rfl
  have m29 : mg "_law_power" = some (.ref (He.ga K "_law_power")) := He.glo_ok KX G (cd.fact 30 (f := .glo "_law_power") rfl)
  obtain ⟨fd30, F30⟩ := cd.def_ 30 (d := dd "_law_word" 37) rfl
  have m30 : mg "_law_word" = some (.ref (He.ga K "_law_word")) := He.glo_ok KX G (cd.fact 31 (f := .glo "_law_word") rfl)
  obtain ⟨fd31, F31⟩ := cd.def_ 31 (d := dd "_law_other" 38) rfl
  have m31 : mg "_law_other" = some (.ref (He.ga K "_law_other")) := He.glo_ok KX G (cd.fact 32 (f := .glo "_law_other") rfl)
  obtain ⟨fd32, F32⟩ := cd.def_ 32 (d := dd "_law_word_right" 39) rfl
  have m32 : mg "_law_word_right" = some (.ref (He.ga K "_law_word_right")) := He.glo_ok KX G (cd.fact 33 (f := .glo "_law_word_right") rfl)
  obtain ⟨fd33, F33⟩ := cd.def_ 33 (d := dd "_law_two_right" 40) rfl
  have m33 : mg "_law_two_right" = some (.ref (He.ga K "_law_two_right")) := He.glo_ok KX G (cd.fact 34 (f := .glo "_law_two_right") rfl)
  obtain ⟨fd34, F34⟩ := cd.def_ 34 (d := dd "_law_days_right" 41) rfl
  have m34 : mg "_law_days_right" = some (.ref (He.ga K "_law_days_right")) := He.glo_ok KX G (cd.fact 35 (f := .glo "_law_days_right") rfl)
  obtain ⟨fd35, F35⟩ := cd.def_ 35 (d := dd "_law_raised" 42) rfl
  have m35 : mg "_law_raised" = some (.ref (He.ga K "_law_raised")) := He.glo_ok KX G (cd.fact 36 (f := .glo "_law_raised") rfl)
  obtain ⟨fd36, F36⟩ := cd.def_ 36 (d := dd "_law_refused" 43) rfl
  have m36 : mg "_law_refused" = some (.ref (He.ga K "_law_refused")) := He.glo_ok KX G (cd.fact 37 (f := .glo "_law_refused") rfl)
  obtain ⟨fd37, F37⟩ := cd.def_ 37 (d := dd "law" 44) rfl
  have m37 : mg "law" = some (.ref (He.ga K "law")) := He.glo_ok KX G (cd.fact 38 (f := .glo "law") rfl)
  have c_PlayError : mg "PlayError" = some (.ref (He.ga K "PlayError")) := He.glo_ok KX G (cd.fact 39 (f := .glo "PlayError") rfl)
  have c_BadNumber : mg "BadNumber" = some (.ref (He.ga K "BadNumber")) := He.glo_ok KX G (cd.fact 40 (f := .glo "BadNumber") rfl)
  have fx : Fx K mg := ⟨He.free_ok KX G (cd.fact 41 (f := .free "abs") rfl), He.free_ok KX G (cd.fact 42 (f := .free "all") rfl), He.free_ok KX G (cd.fact 43 (f := .free "bool") rfl), He.free_ok KX G (cd.fact 44 (f := .free "enumerate") rfl), He.free_ok KX G (cd.fact 45 (f := .free "int") rfl), He.free_ok KX G (cd.fact 46 (f := .free "isinstance") rfl), He.free_ok KX G (cd.fact 47 (f := .free "len") rfl), He.free_ok KX G (cd.fact 48 (f := .free "list") rfl), He.free_ok KX G (cd.fact 49 (f := .free "max") rfl), He.free_ok KX G (cd.fact 50 (f := .free "range") rfl), He.free_ok KX G (cd.fact 51 (f := .free "sorted") rfl), He.free_ok KX G (cd.fact 52 (f := .free "str") rfl), He.free_ok KX G (cd.fact 53 (f := .free "tuple") rfl), He.free_ok KX G (cd.fact 54 (f := .free "zip") rfl), ⟨_, c_BadNumber, He.exc_ok (cd.fact 0 (f := .exc "BadNumber") rfl)⟩, He.int_ok KX G (cd.fact 55 (f := .int "MOST_SIGNS" (400)) rfl)⟩
  have em : PySem.W.exmOne K (.ref (He.ga K "BadNumber")) (.ref (He.ga K "PlayError")) = some true := He.exm_ok (cd.fact 56 (f := .exm "BadNumber" "PlayError" true) rfl)
  have hex := c.more
  unfold ex at hex
  rw [Bool.and_eq_true, decide_eq_true_eq] at hex
  have rz : Rz K mg := ⟨_, fd35, _, _, F35, m35, F35.bindsN (ps := ["call"]) fun _ _ _ _ _ _ us hl => match us, hl with | [_], _ => rfl, c_PlayError, c_BadNumber, fun x b e => by
    unfold tbl at e
    split at e
    · rename_i hx
      subst hx
      cases e
      exact ⟨_, c_BadNumber, exB_ok hex.1, em, hex.2⟩
    · cases e⟩
  have e := hmg.symm.trans m37
  cases e
  have hcode : fd36.code = .ref (He.cT K ("_law_refused", none)).1 := by
    obtain ⟨oc, od, dV, kV, doc, pm, an, cdv, ct, osl, e1, lk, hcd, _, _⟩ := F36.ex
    obtain ⟨cc, ec⟩ := He.codeIn_ref hcd
    have e3 : fd36.code = .ref cc := by rw [e1]; exact ec
    rw [e3]
    exact congrArg Value.ref (He.codeOf_eq (p := ("_law_refused", none)) lk e3).symm
  refine ⟨fd37, [He.cT K ("_law_refused", none)], spLaw K (He.cT K ("_law_refused", none)).2, fun p hp => ?_, fun p hp => ?_, fun p hp => ?_, ?_, fun H a ns hl hb hT hS => ⟨a, ns, rfl, hS, hl, hb, hT _ List.mem_cons_self, fun _ => rfl⟩, fun base hK hG TB => ?_⟩
  · rw [List.mem_singleton.mp hp]; exact c.empty _ List.mem_cons_self
  · rw [List.mem_singleton.mp hp]; exact c.out _ List.mem_cons_self
  · rw [List.mem_singleton.mp hp]; exact PySem.W.codeHd_of_K KX (c.hd _ List.mem_cons_self)
  · have b := FunD.bindsA (ps := ["script"]) F37 fun _ _ _ _ _ _ us hl => match us, hl with | [_], _ => rfl
    exact fun s v => b s [v] rfl
  · have tb := TB _ List.mem_cons_self
    have G_is_integer := ok_is_integer (P := LW.prog) (w := w) (base := base) (T := [((He.cT K ("_law_refused", none)).2, lamq)]) fx F0 m0 
    have G_is_within := ok_is_within (P := LW.prog) (w := w) (base := base) (T := [((He.cT K ("_law_refused", none)).2, lamq)]) fx F1 m1 G_is_integer
    have G_is_tuple_of := ok_is_tuple_of (P := LW.prog) (w := w) (base := base) (T := [((He.cT K ("_law_refused", none)).2, lamq)]) fx F2 m2 
    have G_common := ok_common (P := LW.prog) (w := w) (base := base) (T := [((He.cT K ("_law_refused", none)).2, lamq)]) fx F3 m3 
    have G_frac := ok_frac (P := LW.prog) (w := w) (base := base) (T := [((He.cT K ("_law_refused", none)).2, lamq)]) fx F4 m4 G_common
    have G_is_fraction := ok_is_fraction (P := LW.prog) (w := w) (base := base) (T := [((He.cT K ("_law_refused", none)).2, lamq)]) fx F5 m5 G_is_integer G_is_tuple_of G_common
    have G_plus := ok_plus (P := LW.prog) (w := w) (base := base) (T := [((He.cT K ("_law_refused", none)).2, lamq)]) fx F6 m6 G_frac
    have G_half_of := ok_half_of (P := LW.prog) (w := w) (base := base) (T := [((He.cT K ("_law_refused", none)).2, lamq)]) fx F7 m7 G_frac
    have G_less := ok_less (P := LW.prog) (w := w) (base := base) (T := [((He.cT K ("_law_refused", none)).2, lamq)]) fx F8 m8 
    have G_is_two_power := ok_is_two_power (P := LW.prog) (w := w) (base := base) (T := [((He.cT K ("_law_refused", none)).2, lamq)]) fx F9 m9 
    have G_is_half_number := ok_is_half_number (P := LW.prog) (w := w) (base := base) (T := [((He.cT K ("_law_refused", none)).2, lamq)]) fx F10 m10 G_is_fraction G_is_two_power
    have G_signs_number := ok_signs_number (P := LW.prog) (w := w) (base := base) (T := [((He.cT K ("_law_refused", none)).2, lamq)]) fx F11 m11 
    have G_between_of := ok_between_of (P := LW.prog) (w := w) (base := base) (T := [((He.cT K ("_law_refused", none)).2, lamq)]) fx F12 m12 G_frac G_less
    have G_signs_of := ok_signs_of (P := LW.prog) (w := w) (base := base) (T := [((He.cT K ("_law_refused", none)).2, lamq)]) fx F13 m13 G_less G_between_of
    have G_signs := ok_signs (P := LW.prog) (w := w) (base := base) (T := [((He.cT K ("_law_refused", none)).2, lamq)]) fx F14 m14 G_is_half_number G_signs_of
    have G_number_by := ok_number_by (P := LW.prog) (w := w) (base := base) (T := [((He.cT K ("_law_refused", none)).2, lamq)]) fx F15 m15 G_between_of
    have G_product_of := ok_product_of (P := LW.prog) (w := w) (base := base) (T := [((He.cT K ("_law_refused", none)).2, lamq)]) fx F16 m16 G_frac G_is_half_number
    have G_born_on := ok_born_on (P := LW.prog) (w := w) (base := base) (T := [((He.cT K ("_law_refused", none)).2, lamq)]) fx F17 m17 G_is_half_number G_signs_number
    have G_numbers_by := ok_numbers_by (P := LW.prog) (w := w) (base := base) (T := [((He.cT K ("_law_refused", none)).2, lamq)]) fx F18 m18 G_is_within G_between_of
    have G_middle_of := ok_middle_of (P := LW.prog) (w := w) (base := base) (T := [((He.cT K ("_law_refused", none)).2, lamq)]) fx F19 m19 G_plus G_half_of G_is_half_number
    have G_is_whole := ok_is_whole (P := LW.prog) (w := w) (base := base) (T := [((He.cT K ("_law_refused", none)).2, lamq)]) fx F20 m20 G_is_integer G_is_half_number
    have G__law_hand := ok__law_hand (P := LW.prog) (w := w) (base := base) (T := [((He.cT K ("_law_refused", none)).2, lamq)]) fx F21 m21 
    have G__law_draw := ok__law_draw (P := LW.prog) (w := w) (base := base) (T := [((He.cT K ("_law_refused", none)).2, lamq)]) fx F22 m22 
    have G__law_any := ok__law_any (P := LW.prog) (w := w) (base := base) (T := [((He.cT K ("_law_refused", none)).2, lamq)]) fx F23 m23 G__law_draw
    have G__law_is := ok__law_is (P := LW.prog) (w := w) (base := base) (T := [((He.cT K ("_law_refused", none)).2, lamq)]) fx F24 m24 
    have G__law_frac := ok__law_frac (P := LW.prog) (w := w) (base := base) (T := [((He.cT K ("_law_refused", none)).2, lamq)]) fx F25 m25 
    have G__law_below := ok__law_below (P := LW.prog) (w := w) (base := base) (T := [((He.cT K ("_law_refused", none)).2, lamq)]) fx F26 m26 
    have G__law_moved := ok__law_moved (P := LW.prog) (w := w) (base := base) (T := [((He.cT K ("_law_refused", none)).2, lamq)]) fx F27 m27 G__law_frac
    have G__law_number_by := ok__law_number_by (P := LW.prog) (w := w) (base := base) (T := [((He.cT K ("_law_refused", none)).2, lamq)]) fx F28 m28 G__law_moved
    have G__law_power := ok__law_power (P := LW.prog) (w := w) (base := base) (T := [((He.cT K ("_law_refused", none)).2, lamq)]) fx F29 m29 
    have G__law_word := ok__law_word (P := LW.prog) (w := w) (base := base) (T := [((He.cT K ("_law_refused", none)).2, lamq)]) fx F30 m30 G__law_draw G__law_any
    have G__law_other := ok__law_other (P := LW.prog) (w := w) (base := base) (T := [((He.cT K ("_law_refused", none)).2, lamq)]) fx F31 m31 
    have G__law_word_right := ok__law_word_right (P := LW.prog) (w := w) (base := base) (T := [((He.cT K ("_law_refused", none)).2, lamq)]) fx F32 m32 G_signs G_number_by G_born_on G__law_is G__law_number_by G__law_other
    have G__law_two_right := ok__law_two_right (P := LW.prog) (w := w) (base := base) (T := [((He.cT K ("_law_refused", none)).2, lamq)]) fx F33 m33 G_number_by G_product_of G_middle_of G_is_whole G__law_is G__law_frac G__law_below
    have G__law_days_right := ok__law_days_right (P := LW.prog) (w := w) (base := base) (T := [((He.cT K ("_law_refused", none)).2, lamq)]) fx F34 m34 G_born_on G_numbers_by G_middle_of G__law_draw G__law_is G__law_frac G__law_number_by G__law_power
    have G__law_refused := ok__law_refused (P := LW.prog) (w := w) (base := base) fx rz F36 m36 hcode tb G_signs G_number_by G_product_of G_born_on G_numbers_by G_middle_of G_is_whole G__law_any G__law_power
    exact ok_law fx F37 G_signs G_number_by G_born_on G__law_hand G__law_draw G__law_is G__law_power G__law_word G__law_word_right G__law_two_right G__law_days_right G__law_refused plain_law
end K08
open PySem PySem.W PySem.Calls PyProof.Rows
theorem PySem.Challenge.cw_stuckloses_k08_whole_numbers_and_signs_holds : PySem.Challenge.rw_stuckloses_k08_whole_numbers_and_signs.Holds := by
  w_on; o_law
  refine HandSHeadRun.head_any (r := OpenLaw.row K08.LW) (q := view (OpenLaw.row K08.LW).prog [44]) (H := K08.hk) (ob := K08.ob) (M := 3000) (loose := K08.loose)
    (d := HandSHeadRun.topDef (OpenLaw.row K08.LW).prog 44) (kwd := []) K08.ob_eq
    (by kernel_rfl) (fun s => by kernel_rfl) K08.run (by kernel_rfl) (by kernel_rfl) (by kernel_rfl) (by rfl) (by first | assumption | decide +kernel) (by decide +kernel) ⟨rfl, rfl, rfl, rfl, rfl, by decide +kernel⟩ ?hw ?hc
  case hw => w_witness2
  case hc =>
    refine LamX.walk_ofTsE (l := K08.LW) (n := 63) (k := 16) (x := "script") (CX := fun w => L2.CX K08.LW.prog w) rfl (by decide) (by kernel_rfl) ⟨rfl, by decide, by decide⟩ ?F ?X
    · intro w mg fa h Y G hmg0
      obtain ⟨K, KX, c⟩ := Y
      have hmg : mg ("law" : PySem.Str) = some (.ref fa) := by
        have e : (HandSHeadRun.topDef (OpenLaw.row K08.LW).prog 44).name = ("law" : PySem.Str) := by kernel_rfl
        rw [← e]
        exact hmg0
      exact ⟨K, KX, K08.lawAt w K h mg fa KX c G hmg⟩
    · intro w H s e s' z
      obtain ⟨_, _, _, _, _, _, _, _, _, _, _, _, z⟩ := z
      exact z

