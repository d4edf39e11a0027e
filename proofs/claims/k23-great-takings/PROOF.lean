import PyProof.Rows.All
import Wide.All
import OpenK.AllK
import Wide.FinOn
import HandS.ForMost
import HandS.ForExc
import HandS.EndTab
import HandS.ExcIs
import HandS.IsInst
import HandS.Wide
import HandS.WideBits
import HandS.TupAny
import HandS.TupMul
import HandS.Flow
import HandS.Zip
import HandS.Style
import HandS.SortInts
import HandS.Small
import HandS.Defaults
import KE.KStateDown
import HandS.Head0
import HandS.Head1
import HandS.Head2
import HandS.HeadEnd
import HandS.HeadHook1
import HandS.HeadHook2
import HandS.HeadHook3
import HandS.HeadHook4
import HandS.HeadWalk
import KE.GoesEnum
import KE.LtSeq
import PyProof.EqKinds
import PyProof.EqAt
import PyProof.SeqIndex
import KE.DatumOrd
import HandS.DictComp
import HandS.Text
import HandS.Strs
import KE.KSetDisp
import KE.KTupSum
import HandS.Conv
import PyProof.Rows.SeqMore
import PyProof.MaxThree
import PySem.Challenge.RW_stuckloses_k23_whole_great_takings
set_option Elab.async false
set_option linter.all false
set_option maxRecDepth 100000
set_option maxHeartbeats 2000000
/-! The data layer: deep values, how they stand in the abstract heap, steps. -/
namespace DL
open PySem PySem.Spec PyProof.Rows L2

/-- a value through and through; its lists and dicts stand still for ever -/
inductive D where
  | non | bl (b : Bool) | int (i : Int) | str (s : Str) | ty (n : String) | at (a : Addr) | ob (n : Nat)
  | sc (ns : List Int)
  | tup (l : List D)
  | lst (l : List D)
  | dK (ks : List Key) (l : List D)
  | dT (ks : List (List Key)) (l : List D)

/-- how a list or a dict is held that may change: a look at the frame's own one, a caller's own one, the frame's own one -/
inductive Md where
  | vw | pv | own
  deriving DecidableEq

/-- what an expression gives, what a slot holds -/
inductive Ev where
  | d (x : D)
  | ls (md : Md) (l : List D)
  | rw (md : Md) (rows : List (List D))
  | dk (md : Md) (ks : List Key) (l : List D)
  | dt (md : Md) (ks : List (List Key)) (l : List D)

/-- an object of the common memory -/
inductive O where
  | lst (l : List D)

abbrev Mem := List O
abbrev Env := List (Option Ev)

mutual
/-- no list, no dict -/
def D.bare : D → Bool
  | .tup l => D.bareL l
  | .lst _ => false
  | .dK _ _ => false
  | .dT _ _ => false
  | _ => true
def D.bareL : List D → Bool
  | [] => true
  | d :: l => D.bare d && D.bareL l
end

/-! ### how a value stands in the heap -/
/-- a list of ints that nobody writes (the script) -/
def SqF (K : PySem.W.Frag) (H : Hp) (a : Addr) (xs : List V) : Prop := (∃ o, H a = some (.frz o (.lst xs))) ∨
  ∃ (o : Obj) (its : Array Value) (n : Nat), K.lookup a = some o ∧ o.cls = .type "list" ∧ o.dict = none ∧ o.data = .seq its n ∧ its.size ≤ sizeLine ∧ Vals xs its.toList
mutual
def Rp (K : PySem.W.Frag) (A m : List Addr) (H : Hp) : D → V → Prop
  | .non, v => v = .non
  | .bl b, v => v = .bl b
  | .int i, v => v = .int i
  | .str s, v => v = .str s
  | .ty n, v => v = .ty n
  | .at a, v => v = .ref a
  | .ob n, v => ∃ a, m[n]? = some a ∧ v = .ref a
  | .sc ns, v => ∃ a, v = .ref a ∧ SqF K H a (ns.map V.int)
  | .tup l, v => ∃ a vs, v = .ref a ∧ H a = some (.tup vs) ∧ Rps K A m H l vs
  | .lst l, v => ∃ a vs, v = .ref a ∧ H a = some (.lst vs) ∧ a ∉ A ∧ Rps K A m H l vs
  | .dK ks l, v => ∃ a kvs, v = .ref a ∧ H a = some (.dK kvs) ∧ kvs.map (·.1) = ks ∧ a ∉ A ∧ Rps K A m H l (kvs.map (·.2))
  | .dT ks l, v => ∃ a kvs, v = .ref a ∧ (∃ o, H a = some (.frz o (.dT kvs))) ∧ kvs.map (·.1) = ks ∧ a ∉ A ∧ Rps K A m H l (kvs.map (·.2))
def Rps (K : PySem.W.Frag) (A m : List Addr) (H : Hp) : List D → List V → Prop
  | [], vs => vs = []
  | d :: l, vs => ∃ v r, vs = v :: r ∧ Rp K A m H d v ∧ Rps K A m H l r
end

/-- a list or a dict, of those that may change -/
def muta : HO → Prop
  | .lst _ => True
  | .dK _ => True
  | .dT _ => True
  | _ => False

/-- what stays but for the addresses at m (and the tables of code objects) -/
def Stp (m : List Addr) (H H' : Hp) : Prop := ∀ a o, H a = some o → a ∉ m → (∀ ps, o ≠ .tbl ps) → H' a = some o
theorem Stp.refl (m : List Addr) (H : Hp) : Stp m H H := fun _ _ e _ _ => e
theorem Stp.trans {m : List Addr} {H H1 H2 : Hp} (a : Stp m H H1) (b : Stp m H1 H2) : Stp m H H2 := fun x o e n t => b x o (a x o e n t) n t
theorem Stp.mono {m m' : List Addr} {H H' : Hp} (s : Stp m H H') (h : ∀ a ∈ m, a ∈ m') : Stp m' H H' := fun a o e n t => s a o e (fun z => n (h a z)) t
/-- something stands there, no table of code objects -/
def Lv (H : Hp) (a : Addr) : Prop := ∃ o, H a = some o ∧ ∀ ps, o ≠ .tbl ps
theorem Stp.lv {m : List Addr} {H H' : Hp} (s : Stp m H H') {a : Addr} (h : Lv H a) (n : a ∉ m) : Lv H' a := by
  obtain ⟨o, e, t⟩ := h
  exact ⟨o, s a o e n t, t⟩
/-- the addresses that may be written hold lists or dicts -/
def AOk (A : List Addr) (H : Hp) : Prop := ∀ a ∈ A, ∃ o, H a = some o ∧ muta o
theorem muta_tbl {o : HO} (h : muta o) : ∀ ps, o ≠ .tbl ps := fun ps e => by subst e; exact h
theorem lst_tbl {xs : List V} : ∀ ps, HO.lst xs ≠ .tbl ps := fun ps e => by cases e
theorem dK_tbl {xs : List (Key × V)} : ∀ ps, HO.dK xs ≠ .tbl ps := fun ps e => by cases e
theorem frz_tbl {o : Obj} {u : HO} : ∀ ps, HO.frz o u ≠ .tbl ps := fun ps e => by cases e
theorem dT_tbl {xs : List (List Key × V)} : ∀ ps, HO.dT xs ≠ .tbl ps := fun ps e => by cases e

section
variable {K : PySem.W.Frag} {A A' m : List Addr} {H H' : Hp}
theorem tup_step {B : List Addr} {a : Addr} {vs : List V} (ok : AOk B H) (s : Stp B H H') (h : H a = some (.tup vs)) : H' a = some (.tup vs) := by
  refine s a _ h (fun hm => ?_) (fun ps e => by cases e)
  obtain ⟨o, e, mu⟩ := ok a hm
  rw [h] at e; cases e; exact mu
theorem sqF_step {B : List Addr} {a : Addr} {xs : List V} (ok : AOk B H) (s : Stp B H H') (h : SqF K H a xs) : SqF K H' a xs := by
  rcases h with ⟨o, e⟩ | h
  · refine .inl ⟨o, s a _ e (fun hm => ?_) (fun ps z => by cases z)⟩
    obtain ⟨u, e2, mu⟩ := ok a hm
    rw [e] at e2; cases e2; exact mu
  · exact .inr h
mutual
theorem Rp.step {B : List Addr} (ok : AOk B H) (hA : ∀ a ∈ B, a ∈ A) (s : Stp B H H') : ∀ (d : D) (v : V), Rp K A m H d v → Rp K A m H' d v
  | .non, _, h => h
  | .bl _, _, h => h
  | .int _, _, h => h
  | .str _, _, h => h
  | .ty _, _, h => h
  | .at _, _, h => h
  | .ob _, _, h => h
  | .sc _, _, ⟨a, e, h⟩ => ⟨a, e, sqF_step ok s h⟩
  | .tup l, v, ⟨a, vs, e, hs, hl⟩ => ⟨a, vs, e, tup_step ok s hs, Rps.step ok hA s l vs hl⟩
  | .lst l, v, ⟨a, vs, e, hs, hn, hl⟩ => ⟨a, vs, e, s a _ hs (fun hm => hn (hA a hm)) lst_tbl, hn, Rps.step ok hA s l vs hl⟩
  | .dK ks l, v, ⟨a, kvs, e, hs, ek, hn, hl⟩ => ⟨a, kvs, e, s a _ hs (fun hm => hn (hA a hm)) dK_tbl, ek, hn, Rps.step ok hA s l _ hl⟩
  | .dT ks l, v, ⟨a, kvs, e, ⟨o, hs⟩, ek, hn, hl⟩ => ⟨a, kvs, e, ⟨o, s a _ hs (fun hm => hn (hA a hm)) frz_tbl⟩, ek, hn, Rps.step ok hA s l _ hl⟩
theorem Rps.step {B : List Addr} (ok : AOk B H) (hA : ∀ a ∈ B, a ∈ A) (s : Stp B H H') : ∀ (l : List D) (vs : List V), Rps K A m H l vs → Rps K A m H' l vs
  | [], _, h => h
  | d :: l, vs, ⟨v, r, e, h1, h2⟩ => ⟨v, r, e, Rp.step ok hA s d v h1, Rps.step ok hA s l r h2⟩
end
mutual
theorem Rp.avoid (hA : ∀ a ∈ A', a ∈ A ∨ ¬ Lv H a) : ∀ (d : D) (v : V), Rp K A m H d v → Rp K A' m H d v
  | .non, _, h => h
  | .bl _, _, h => h
  | .int _, _, h => h
  | .str _, _, h => h
  | .ty _, _, h => h
  | .at _, _, h => h
  | .ob _, _, h => h
  | .sc _, _, h => h
  | .tup l, v, ⟨a, vs, e, hs, hl⟩ => ⟨a, vs, e, hs, Rps.avoid hA l vs hl⟩
  | .lst l, v, ⟨a, vs, e, hs, hn, hl⟩ => ⟨a, vs, e, hs, fun z => (hA a z).elim hn (fun q => q ⟨_, hs, lst_tbl⟩), Rps.avoid hA l vs hl⟩
  | .dK ks l, v, ⟨a, kvs, e, hs, ek, hn, hl⟩ => ⟨a, kvs, e, hs, ek, fun z => (hA a z).elim hn (fun q => q ⟨_, hs, dK_tbl⟩), Rps.avoid hA l _ hl⟩
  | .dT ks l, v, ⟨a, kvs, e, ⟨o, hs⟩, ek, hn, hl⟩ => ⟨a, kvs, e, ⟨o, hs⟩, ek, fun z => (hA a z).elim hn (fun q => q ⟨_, hs, frz_tbl⟩), Rps.avoid hA l _ hl⟩
theorem Rps.avoid (hA : ∀ a ∈ A', a ∈ A ∨ ¬ Lv H a) : ∀ (l : List D) (vs : List V), Rps K A m H l vs → Rps K A' m H l vs
  | [], _, h => h
  | d :: l, vs, ⟨v, r, e, h1, h2⟩ => ⟨v, r, e, Rp.avoid hA d v h1, Rps.avoid hA l r h2⟩
end
mutual
theorem Rp.bare : ∀ (d : D) (v : V), D.bare d = true → Rp K A m H d v → Rp K A' m H d v
  | .non, _, _, h => h
  | .bl _, _, _, h => h
  | .int _, _, _, h => h
  | .str _, _, _, h => h
  | .ty _, _, _, h => h
  | .at _, _, _, h => h
  | .ob _, _, _, h => h
  | .sc _, _, _, h => h
  | .tup l, v, b, ⟨a, vs, e, hs, hl⟩ => ⟨a, vs, e, hs, Rps.bare l vs b hl⟩
  | .lst _, _, b, _ => by cases b
  | .dK _ _, _, b, _ => by cases b
  | .dT _ _, _, b, _ => by cases b
theorem Rps.bare : ∀ (l : List D) (vs : List V), D.bareL l = true → Rps K A m H l vs → Rps K A' m H l vs
  | [], _, _, h => h
  | d :: l, vs, b, ⟨v, r, e, h1, h2⟩ => by
    have b' : (D.bare d && D.bareL l) = true := b
    rw [Bool.and_eq_true] at b'
    exact ⟨v, r, e, Rp.bare d v b'.1 h1, Rps.bare l r b'.2 h2⟩
end
theorem Rps.len : ∀ {l : List D} {vs : List V}, Rps K A m H l vs → vs.length = l.length
  | [], _, h => by have e : _ = [] := h; rw [e]; rfl
  | d :: l, vs, ⟨v, r, e, h1, h2⟩ => by rw [e, List.length_cons, List.length_cons, Rps.len h2]
theorem Rps.app : ∀ {l l' : List D} {vs vs' : List V}, Rps K A m H l vs → Rps K A m H l' vs' → Rps K A m H (l ++ l') (vs ++ vs')
  | [], _, _, _, h, h' => by have e : _ = [] := h; rw [e]; exact h'
  | d :: l, _, vs, _, ⟨v, r, e, h1, h2⟩, h' => ⟨v, r ++ _, by rw [e]; rfl, h1, Rps.app h2 h'⟩
theorem Rps.one {d : D} {v : V} (h : Rp K A m H d v) : Rps K A m H [d] [v] := ⟨v, [], rfl, h, rfl⟩
theorem Rps.get : ∀ {l : List D} {vs : List V} {i : Nat} {d : D}, Rps K A m H l vs → l[i]? = some d → ∃ v, vs[i]? = some v ∧ Rp K A m H d v
  | [], _, i, _, _, e => by simp at e
  | d :: l, vs, 0, x, ⟨v, r, e, h1, h2⟩, q => by simp at q; subst q; exact ⟨v, by rw [e]; rfl, h1⟩
  | d :: l, vs, i + 1, x, ⟨v, r, e, h1, h2⟩, q => by
    obtain ⟨y, e1, e2⟩ := Rps.get (i := i) h2 (by simpa using q)
    exact ⟨y, by rw [e]; simpa using e1, e2⟩
theorem Rps.set : ∀ {l : List D} {vs : List V} (i : Nat) {d : D} {v : V}, Rps K A m H l vs → Rp K A m H d v → Rps K A m H (l.set i d) (vs.set i v)
  | [], _, i, _, _, h, _ => by have e : _ = [] := h; rw [e]; exact rfl
  | d :: l, vs, 0, x, y, ⟨v, r, e, h1, h2⟩, q => ⟨y, r, by rw [e]; rfl, q, h2⟩
  | d :: l, vs, i + 1, x, y, ⟨v, r, e, h1, h2⟩, q => ⟨v, r.set i y, by rw [e]; rfl, h1, Rps.set i h2 q⟩
theorem Rps.take : ∀ {l : List D} {vs : List V} (n : Nat), Rps K A m H l vs → Rps K A m H (l.take n) (vs.take n)
  | _, _, 0, _ => by simp; exact rfl
  | [], _, n + 1, h => by have e : _ = [] := h; rw [e]; exact rfl
  | d :: l, vs, n + 1, ⟨v, r, e, h1, h2⟩ => by rw [e]; exact ⟨v, r.take n, rfl, h1, Rps.take n h2⟩
theorem Rps.drop : ∀ {l : List D} {vs : List V} (n : Nat), Rps K A m H l vs → Rps K A m H (l.drop n) (vs.drop n)
  | _, _, 0, h => by simpa using h
  | [], _, n + 1, h => by have e : _ = [] := h; rw [e]; exact rfl
  | d :: l, vs, n + 1, ⟨v, r, e, h1, h2⟩ => by rw [e]; exact Rps.drop n h2
theorem Rps.rev : ∀ {l : List D} {vs : List V}, Rps K A m H l vs → Rps K A m H l.reverse vs.reverse
  | [], _, h => by have e : _ = [] := h; rw [e]; exact rfl
  | d :: l, vs, ⟨v, r, e, h1, h2⟩ => by rw [e, List.reverse_cons, List.reverse_cons]; exact Rps.app (Rps.rev h2) (Rps.one h1)
theorem Rps.rep {l : List D} {vs : List V} (h : Rps K A m H l vs) : ∀ n : Nat, Rps K A m H (List.replicate n l).flatten (List.replicate n vs).flatten
  | 0 => rfl
  | n + 1 => by rw [List.replicate_succ, List.replicate_succ, List.flatten_cons, List.flatten_cons]; exact Rps.app h (Rps.rep h n)
theorem Rps.ints : ∀ {ns : List Int} {vs : List V}, Rps K A m H (ns.map D.int) vs → vs = ns.map V.int
  | [], _, h => h
  | n :: ns, vs, ⟨v, r, e, h1, h2⟩ => by rw [e, show v = .int n from h1, Rps.ints h2]; rfl
theorem Rps.of_ints : ∀ (ns : List Int), Rps K A m H (ns.map D.int) (ns.map V.int)
  | [] => rfl
  | n :: ns => ⟨.int n, ns.map V.int, rfl, rfl, Rps.of_ints ns⟩
end

/-! ### the memory, the frame -/
def OR (K : PySem.W.Frag) (m : List Addr) (H : Hp) (a : Addr) : O → Prop
  | .lst l => ∃ vs, H a = some (.lst vs) ∧ D.bareL l = true ∧ Rps K m m H l vs
structure WR (K : PySem.W.Frag) (m : List Addr) (M : Mem) (H : Hp) : Prop where
  len : m.length = M.length
  nd : m.Nodup
  ok : ∀ (n : Nat) (a : Addr) (o : O), m[n]? = some a → M[n]? = some o → OR K m H a o
theorem WR.aok {K : PySem.W.Frag} {m : List Addr} {M : Mem} {H : Hp} (w : WR K m M H) : AOk m H := fun a ha => by
  obtain ⟨n, hn, e⟩ := List.mem_iff_getElem.mp ha
  have hM : n < M.length := by rw [← w.len]; exact hn
  have q := w.ok n a (M[n]) (by rw [List.getElem?_eq_getElem hn, e]) (List.getElem?_eq_getElem hM)
  cases hq : M[n] with
  | lst l => rw [hq] at q; obtain ⟨vs, e, _⟩ := q; exact ⟨_, e, trivial⟩

/-- an expression's value -/
def EvR (K : PySem.W.Frag) (H0 : Hp) (A m : List Addr) (H : Hp) : Ev → V → Prop
  | .d x, v => Rp K A m H x v
  | .ls .own _, _ => False
  | .ls .vw l, v => ∃ a vs, v = .ref a ∧ H a = some (.lst vs) ∧ a ∉ m ∧ ¬ Lv H0 a ∧ Rps K A m H l vs
  | .ls .pv l, v => ∃ a vs, v = .ref a ∧ H a = some (.lst vs) ∧ a ∉ m ∧ Lv H0 a ∧ Rps K A m H l vs
  | .rw .vw rows, v => ∃ a vs, v = .ref a ∧ H a = some (.lst vs) ∧ a ∉ m ∧ ¬ Lv H0 a ∧ Paired (fun row u => ∃ b ws, u = V.ref b ∧ H b = some (.lst ws) ∧ b ∉ m ∧ ¬ Lv H0 b ∧ Rps K A m H row ws) rows vs
  | .rw _ _, _ => False
  | .dk .vw ks l, v => ∃ a kvs, v = .ref a ∧ H a = some (.dK kvs) ∧ kvs.map (·.1) = ks ∧ a ∉ m ∧ ¬ Lv H0 a ∧ Rps K A m H l (kvs.map (·.2))
  | .dk .pv ks l, v => ∃ a kvs, v = .ref a ∧ H a = some (.dK kvs) ∧ kvs.map (·.1) = ks ∧ a ∉ m ∧ Lv H0 a ∧ Rps K A m H l (kvs.map (·.2))
  | .dk .own _ _, _ => False
  | .dt .vw ks l, v => ∃ a kvs, v = .ref a ∧ H a = some (.dT kvs) ∧ kvs.map (·.1) = ks ∧ a ∉ m ∧ ¬ Lv H0 a ∧ Rps K A m H l (kvs.map (·.2))
  | .dt .pv ks l, v => ∃ a kvs, v = .ref a ∧ H a = some (.dT kvs) ∧ kvs.map (·.1) = ks ∧ a ∉ m ∧ Lv H0 a ∧ Rps K A m H l (kvs.map (·.2))
  | .dt .own _ _, _ => False
theorem EvR.step {K : PySem.W.Frag} {H0 : Hp} {A m : List Addr} {H H' : Hp} (ok : AOk m H) (hA : ∀ a ∈ m, a ∈ A) (s : Stp m H H') : ∀ {x : Ev} {v : V}, EvR K H0 A m H x v → EvR K H0 A m H' x v
  | .d x, v, h => Rp.step ok hA s x v h
  | .ls .vw l, v, ⟨a, vs, e, h, n, z, r⟩ => ⟨a, vs, e, s a _ h n lst_tbl, n, z, Rps.step ok hA s _ _ r⟩
  | .ls .pv l, v, ⟨a, vs, e, h, n, z, r⟩ => ⟨a, vs, e, s a _ h n lst_tbl, n, z, Rps.step ok hA s _ _ r⟩
  | .rw .vw rows, v, ⟨a, vs, e, h, n, z, r⟩ => ⟨a, vs, e, s a _ h n lst_tbl, n, z, Paired.mapP r fun row u ⟨b, ws, e1, e2, e3, e4, e5⟩ => ⟨b, ws, e1, s b _ e2 e3 lst_tbl, e3, e4, Rps.step ok hA s _ _ e5⟩⟩
  | .dk .vw ks l, v, ⟨a, vs, e, h, ek, n, z, r⟩ => ⟨a, vs, e, s a _ h n dK_tbl, ek, n, z, Rps.step ok hA s _ _ r⟩
  | .dk .pv ks l, v, ⟨a, vs, e, h, ek, n, z, r⟩ => ⟨a, vs, e, s a _ h n dK_tbl, ek, n, z, Rps.step ok hA s _ _ r⟩
  | .dt .vw ks l, v, ⟨a, vs, e, h, ek, n, z, r⟩ => ⟨a, vs, e, s a _ h n dT_tbl, ek, n, z, Rps.step ok hA s _ _ r⟩
  | .dt .pv ks l, v, ⟨a, vs, e, h, ek, n, z, r⟩ => ⟨a, vs, e, s a _ h n dT_tbl, ek, n, z, Rps.step ok hA s _ _ r⟩
  | .ls .own _, _, h => h.elim
  | .rw .pv _, _, h => h.elim
  | .rw .own _, _, h => h.elim
  | .dk .own _ _, _, h => h.elim
  | .dt .own _ _, _, h => h.elim
/-- rows, each the frame's own -/
def RowsR (K : PySem.W.Frag) (A m : List Addr) (H : Hp) : List (List D) → List V → List Addr → Prop
  | [], vs, P => vs = [] ∧ P = []
  | row :: rows, vs, P => ∃ b ws r P', vs = .ref b :: r ∧ P = b :: P' ∧ H b = some (.lst ws) ∧ Rps K A m H row ws ∧ RowsR K A m H rows r P'
/-- what a slot holds, P: the addresses that are the slot's own -/
def SlR (K : PySem.W.Frag) (H0 : Hp) (A m : List Addr) (H : Hp) : Ev → V → List Addr → Prop
  | .d x, v, P => P = [] ∧ Rp K A m H x v
  | .ls .pv l, v, P => P = [] ∧ EvR K H0 A m H (.ls .pv l) v
  | .ls .own l, v, P => ∃ a vs, v = .ref a ∧ H a = some (.lst vs) ∧ P = [a] ∧ Rps K A m H l vs
  | .rw .own rows, v, P => ∃ a vs P', v = .ref a ∧ H a = some (.lst vs) ∧ P = a :: P' ∧ RowsR K A m H rows vs P'
  | .dk .pv ks l, v, P => P = [] ∧ EvR K H0 A m H (.dk .pv ks l) v
  | .dk .own ks l, v, P => ∃ a kvs, v = .ref a ∧ H a = some (.dK kvs) ∧ kvs.map (·.1) = ks ∧ P = [a] ∧ Rps K A m H l (kvs.map (·.2))
  | .dt .pv ks l, v, P => P = [] ∧ EvR K H0 A m H (.dt .pv ks l) v
  | .dt .own ks l, v, P => ∃ a kvs, v = .ref a ∧ H a = some (.dT kvs) ∧ kvs.map (·.1) = ks ∧ P = [a] ∧ Rps K A m H l (kvs.map (·.2))
  | _, _, _ => False
def ER (K : PySem.W.Frag) (H0 : Hp) (A m : List Addr) (H : Hp) : Env → L2.St → List Addr → Prop
  | [], σ, P => σ = [] ∧ P = []
  | none :: ρ, σ, P => ∃ y τ, σ = y :: τ ∧ ER K H0 A m H ρ τ P
  | some x :: ρ, σ, P => ∃ v τ P1 P2, σ = some v :: τ ∧ P = P1 ++ P2 ∧ SlR K H0 A m H x v P1 ∧ ER K H0 A m H ρ τ P2
end DL

set_option Elab.async false
set_option linter.all false
set_option maxRecDepth 100000
set_option maxHeartbeats 2000000
/-! The data layer: frames, readings, how parts are put together. -/
namespace DL
open PySem PySem.Spec PyProof.Rows L2

inductive R (α : Type) where
  | ok (a : α) (M : Mem)
  | exc (c : Str) (f : Option (Str × D)) (M : Mem)
  | stuck
abbrev Sm (α : Type) := Env → Mem → R α
def bnd {α β : Type} (r : R α) (k : α → Mem → R β) : R β := match r with
  | .ok a M => k a M
  | .exc c f M => .exc c f M
  | .stuck => .stuck
theorem bnd_ok {α β : Type} (a : α) (M : Mem) (k : α → Mem → R β) : bnd (.ok a M) k = k a M := rfl
theorem bnd_exc {α β : Type} (c f) (M : Mem) (k : α → Mem → R β) : bnd (.exc c f M) k = .exc c f M := rfl
theorem bnd_stuck {α β : Type} (k : α → Mem → R β) : bnd (.stuck) k = .stuck := rfl

/-- what a name gives -/
def look : Ev → Ev
  | .ls .own l => .ls .vw l
  | .rw .own rows => .rw .vw rows
  | .dk .own ks l => .dk .vw ks l
  | .dt .own ks l => .dt .vw ks l
  | y => y
/-- a lone thing as a value of the heap -/
def scV : D → Option V
  | .non => some .non
  | .bl b => some (.bl b)
  | .int i => some (.int i)
  | .str s => some (.str s)
  | _ => none

/-- an exception of the class c, with its one field or none -/
def XR (mg : Str → Option Value) (H : Hp) (c : Str) (f : Option (Str × D)) (cls : Value) (d : Option Addr) : Prop :=
  ∃ C, mg c = some (.ref C) ∧ cls = .ref C ∧ match f with
    | none => d = none
    | some (nm, x) => ∃ dx v, d = some dx ∧ H dx = some (.xd [(nm, v)]) ∧ scV x = some v

/-- what stays the same through a def's body -/
structure Cf where
  K : PySem.W.Frag
  mg : Str → Option Value
  T : List (Addr × Str)
  W : WX
abbrev cf (X : Cx) (T : List (Addr × Str)) (W : WX) : Cf := ⟨X.K, X.mg, T, W⟩

structure FR (C : Cf) (H0 : Hp) (A m : List Addr) (M : Mem) (H : Hp) (ρ : Env) (σ : L2.St) (P : List Addr) : Prop where
  wr : WR C.K m M H
  tb : LamX.Tabs C.T H
  er : ER C.K H0 A m H ρ σ P
  nd : P.Nodup
  own : ∀ a ∈ P, a ∈ A ∧ a ∉ m ∧ ¬ Lv H0 a
  ma : ∀ a ∈ m, a ∈ A
  aok : AOk A H
  base : Stp m H0 H

section
variable {C : Cf} {K : PySem.W.Frag} {H0 H H' : Hp} {A m : List Addr} {M M' : Mem} {ρ : Env} {σ : L2.St} {P : List Addr}
theorem RowsR.step {B : List Addr} (ok : AOk B H) (hA : ∀ a ∈ B, a ∈ A) (s : Stp B H H') : ∀ {rows : List (List D)} {vs : List V} {P : List Addr}, (∀ a ∈ P, a ∉ B) → RowsR K A m H rows vs P → RowsR K A m H' rows vs P
  | [], _, _, _, h => h
  | row :: rows, vs, P, hP, ⟨b, ws, r, P', e, eP, hb, hr, ht⟩ =>
    ⟨b, ws, r, P', e, eP, s b _ hb (hP b (by rw [eP]; exact List.mem_cons_self)) lst_tbl, Rps.step ok hA s _ _ hr, RowsR.step ok hA s (fun a ha => hP a (by rw [eP]; exact List.mem_cons_of_mem _ ha)) ht⟩
theorem SlR.step (ok : AOk m H) (hA : ∀ a ∈ m, a ∈ A) (s : Stp m H H') : ∀ {x : Ev} {v : V} {P : List Addr}, (∀ a ∈ P, a ∉ m) → SlR K H0 A m H x v P → SlR K H0 A m H' x v P
  | .d x, v, P, hP, ⟨e, h⟩ => ⟨e, Rp.step ok hA s x v h⟩
  | .ls .pv l, v, P, hP, ⟨e, h⟩ => ⟨e, EvR.step ok hA s h⟩
  | .ls .own l, v, P, hP, ⟨a, vs, e, h, eP, r⟩ => ⟨a, vs, e, s a _ h (hP a (by rw [eP]; exact List.mem_cons_self)) lst_tbl, eP, Rps.step ok hA s _ _ r⟩
  | .rw .own rows, v, P, hP, ⟨a, vs, P', e, h, eP, r⟩ => ⟨a, vs, P', e, s a _ h (hP a (by rw [eP]; exact List.mem_cons_self)) lst_tbl, eP, RowsR.step ok hA s (fun b hb => hP b (by rw [eP]; exact List.mem_cons_of_mem _ hb)) r⟩
  | .dk .pv ks l, v, P, hP, ⟨e, h⟩ => ⟨e, EvR.step ok hA s h⟩
  | .dk .own ks l, v, P, hP, ⟨a, kvs, e, h, ek, eP, r⟩ => ⟨a, kvs, e, s a _ h (hP a (by rw [eP]; exact List.mem_cons_self)) dK_tbl, ek, eP, Rps.step ok hA s _ _ r⟩
  | .dt .pv ks l, v, P, hP, ⟨e, h⟩ => ⟨e, EvR.step ok hA s h⟩
  | .dt .own ks l, v, P, hP, ⟨a, kvs, e, h, ek, eP, r⟩ => ⟨a, kvs, e, s a _ h (hP a (by rw [eP]; exact List.mem_cons_self)) dT_tbl, ek, eP, Rps.step ok hA s _ _ r⟩
  | .ls .vw _, _, _, _, h => h.elim
  | .rw .vw _, _, _, _, h => h.elim
  | .rw .pv _, _, _, _, h => h.elim
  | .dk .vw _ _, _, _, _, h => h.elim
  | .dt .vw _ _, _, _, _, h => h.elim
theorem ER.step (ok : AOk m H) (hA : ∀ a ∈ m, a ∈ A) (s : Stp m H H') : ∀ {ρ : Env} {σ : L2.St} {P : List Addr}, (∀ a ∈ P, a ∉ m) → ER K H0 A m H ρ σ P → ER K H0 A m H' ρ σ P
  | [], _, _, _, h => h
  | none :: ρ, σ, P, hP, ⟨y, τ, e, h⟩ => ⟨y, τ, e, ER.step ok hA s hP h⟩
  | some x :: ρ, σ, P, hP, ⟨v, τ, P1, P2, e, eP, h1, h2⟩ =>
    ⟨v, τ, P1, P2, e, eP, SlR.step ok hA s (fun a ha => hP a (by rw [eP]; exact List.mem_append_left _ ha)) h1, ER.step ok hA s (fun a ha => hP a (by rw [eP]; exact List.mem_append_right _ ha)) h2⟩
theorem FR.step (F : FR C H0 A m M H ρ σ P) (s : Stp m H H') (w : WR C.K m M' H') (t : LamX.Tabs C.T H') : FR C H0 A m M' H' ρ σ P :=
  ⟨w, t, ER.step F.wr.aok F.ma s (fun a ha => (F.own a ha).2.1) F.er, F.nd, F.own, F.ma, fun a ha => by
    by_cases hm : a ∈ m
    · exact w.aok a hm
    · obtain ⟨o, e, mu⟩ := F.aok a ha
      exact ⟨o, s a o e hm (muta_tbl mu), mu⟩, F.base.trans s⟩
theorem Stp.upd {m : List Addr} {H : Hp} {p : Addr} {o : HO} (hp : H p = none) : Stp m H (upd H p o) := fun a u e _ _ => by
  rw [upd_ne (ne_of_none e hp)]; exact e
theorem WR.step (w : WR K m M H) (hk : ∀ a o, H a = some o → (∀ ps, o ≠ .tbl ps) → H' a = some o) : WR K m M H' := by
  refine ⟨w.len, w.nd, fun n a o e1 e2 => ?_⟩
  have q := w.ok n a o e1 e2
  cases o with
  | lst l =>
    obtain ⟨vs, e, b, r⟩ := q
    exact ⟨vs, hk a _ e lst_tbl, b, Rps.step (B := []) (fun _ h => nomatch h) (fun _ h => nomatch h) (fun a o e _ t => hk a o e t) _ _ r⟩
theorem WR.upd (w : WR K m M H) {p : Addr} {o : HO} (hp : H p = none) : WR K m M (upd H p o) := w.step fun a u e _ => by
  rw [upd_ne (ne_of_none e hp)]; exact e
theorem Tabs.upd {T : List (Addr × Str)} (t : LamX.Tabs T H) {p : Addr} {o : HO} (hp : H p = none) : LamX.Tabs T (upd H p o) := t.ext fun a u e => by
  rw [upd_ne (ne_of_none e hp)]; exact e
theorem FR.grow (F : FR C H0 A m M H ρ σ P) {p : Addr} {o : HO} (hp : H p = none) : FR C H0 A m M (upd H p o) ρ σ P := F.step (Stp.upd hp) (F.wr.upd hp) (Tabs.upd F.tb hp)
/-- a new address is none of those that are told -/
theorem FR.new (F : FR C H0 A m M H ρ σ P) {p : Addr} (hp : H p = none) : p ∉ A := fun h => by
  obtain ⟨o, e, _⟩ := F.aok p h
  rw [hp] at e; cases e
theorem FR.h0 (F : FR C H0 A m M H ρ σ P) {p : Addr} (hp : H p = none) : ¬ Lv H0 p := fun h => by
  obtain ⟨o, e, _⟩ := F.base.lv h (fun z => F.new hp (F.ma p z))
  rw [hp] at e; cases e
theorem SlR.get_look {x : Ev} {v : V} {P1 : List Addr} (h : SlR K H0 A m H x v P1) (ho : ∀ a ∈ P1, a ∉ m ∧ ¬ Lv H0 a) :
    EvR K H0 A m H (look x) v := by
  cases x with
  | d x => exact h.2
  | ls md l =>
    cases md with
    | vw => exact h.elim
    | pv => exact h.2
    | own =>
      obtain ⟨a, vs, e, hl, eP, r⟩ := h
      have q := ho a (by rw [eP]; exact List.mem_cons_self)
      exact ⟨a, vs, e, hl, q.1, q.2, r⟩
  | rw md l =>
    cases md with
    | vw => exact h.elim
    | pv => exact h.elim
    | own =>
      obtain ⟨a, vs, P', e, hl, eP, r⟩ := h
      have q := ho a (by rw [eP]; exact List.mem_cons_self)
      refine ⟨a, vs, e, hl, q.1, q.2, ?_⟩
      have all : ∀ {rows : List (List D)} {vs : List V} {P : List Addr}, (∀ a ∈ P, a ∉ m ∧ ¬ Lv H0 a) → RowsR K A m H rows vs P → Paired (fun row u => ∃ b ws, u = V.ref b ∧ H b = some (.lst ws) ∧ b ∉ m ∧ ¬ Lv H0 b ∧ Rps K A m H row ws) rows vs := by
        intro rows
        induction rows with
        | nil => intro vs P _ h; obtain ⟨rfl, _⟩ := h; exact .nil
        | cons row rows ih =>
          intro vs P hP h
          obtain ⟨b, ws, r, P', rfl, eP, hb, hr, ht⟩ := h
          have q := hP b (by rw [eP]; exact List.mem_cons_self)
          exact .cons ⟨b, ws, rfl, hb, q.1, q.2, hr⟩ (ih (fun a ha => hP a (by rw [eP]; exact List.mem_cons_of_mem _ ha)) ht)
      exact all (fun b hb => ho b (by rw [eP]; exact List.mem_cons_of_mem _ hb)) r
  | dk md ks l =>
    cases md with
    | vw => exact h.elim
    | pv => exact h.2
    | own =>
      obtain ⟨a, kvs, e, hl, ek, eP, r⟩ := h
      have q := ho a (by rw [eP]; exact List.mem_cons_self)
      exact ⟨a, kvs, e, hl, ek, q.1, q.2, r⟩
  | dt md ks l =>
    cases md with
    | vw => exact h.elim
    | pv => exact h.2
    | own =>
      obtain ⟨a, kvs, e, hl, ek, eP, r⟩ := h
      have q := ho a (by rw [eP]; exact List.mem_cons_self)
      exact ⟨a, kvs, e, hl, ek, q.1, q.2, r⟩
theorem ER.get : ∀ {ρ : Env} {σ : L2.St} {P : List Addr} {i : Nat} {x : Ev}, ER K H0 A m H ρ σ P → ρ[i]? = some (some x) → ∃ v P1, σ[i]? = some (some v) ∧ SlR K H0 A m H x v P1 ∧ ∀ a ∈ P1, a ∈ P
  | [], _, _, i, _, _, e => by simp at e
  | none :: ρ, σ, P, 0, x, _, e => by simp at e
  | none :: ρ, σ, P, i + 1, x, ⟨y, τ, eσ, h⟩, e => by
    obtain ⟨v, P1, q1, q2, q3⟩ := ER.get (i := i) h (by simpa using e)
    exact ⟨v, P1, by rw [eσ]; simpa using q1, q2, q3⟩
  | some z :: ρ, σ, P, 0, x, ⟨v, τ, P1, P2, eσ, eP, h1, h2⟩, e => by
    simp at e; subst e
    exact ⟨v, P1, by rw [eσ]; rfl, h1, fun a ha => by rw [eP]; exact List.mem_append_left _ ha⟩
  | some z :: ρ, σ, P, i + 1, x, ⟨v, τ, P1, P2, eσ, eP, h1, h2⟩, e => by
    obtain ⟨v, P1', q1, q2, q3⟩ := ER.get (i := i) h2 (by simpa using e)
    exact ⟨v, P1', by rw [eσ]; simpa using q1, q2, fun a ha => by rw [eP]; exact List.mem_append_right _ (q3 a ha)⟩
end
/-! ### readings -/
def PX {α β : Type} (C : Cf) (m : List Addr) (σ : L2.St) (rel : Hp → α → β → Prop) (H : Hp) (r : R α) (Q : β → Hp → Prop) : Prop := match r with
  | .ok d M' => ∀ H' v, Stp m H H' → WR C.K m M' H' → LamX.Tabs C.T H' → rel H' d v → Q v H'
  | .exc c f M' => ∀ H' cls d, Stp m H H' → WR C.K m M' H' → LamX.Tabs C.T H' → XR C.mg H' c f cls d → C.W cls d σ H'
  | .stuck => False
abbrev Rel (α β : Type) := Hp → List Addr → List Addr → Hp → α → β → Prop
def tX {α β : Type} (C : Cf) (rel : Rel α β) (f : Sm α) : L2.St → Hp → (β → Hp → Prop) → Prop := fun σ H Q =>
  ∃ H0 A m M ρ P, FR C H0 A m M H ρ σ P ∧ PX C m σ (rel H0 A m) H (f ρ M) Q
def relE (K : PySem.W.Frag) : Rel Ev V := fun H0 A m H x v => EvR K H0 A m H x v
def relL (K : PySem.W.Frag) : Rel (List Ev) (List V) := fun H0 A m H xs vs => Paired (EvR K H0 A m H) xs vs
def relB : Rel Bool Bool := fun _ _ _ _ a b => a = b
abbrev tE (C : Cf) (f : Sm Ev) : TE := tX C (relE C.K) f
abbrev tA (C : Cf) (f : Sm (List Ev)) : TA := tX C (relL C.K) f
abbrev tT (C : Cf) (f : Sm Bool) : TT := tX C relB f
section
variable {α β γ δ : Type} {C : Cf} {H0 H H' : Hp} {A m : List Addr} {M M' : Mem} {ρ : Env} {σ : L2.St} {P : List Addr} {rel : Hp → α → β → Prop}
theorem PX.step {r : R α} {Q : β → Hp → Prop} (s : Stp m H H') (h : PX C m σ rel H r Q) : PX C m σ rel H' r Q := by
  cases r with
  | ok d M' => exact fun H2 v s2 w t q => h H2 v (s.trans s2) w t q
  | exc c f M' => exact fun H2 cls d s2 w t q => h H2 cls d (s.trans s2) w t q
  | stuck => exact h
/-- a part is run, the rest behind it -/
theorem sub {rel1 : Rel α β} {rel2 : Hp → γ → δ → Prop} {f : Sm α} {k : α → Mem → R γ} {Q : δ → Hp → Prop} (F : FR C H0 A m M H ρ σ P) (h : PX C m σ rel2 H (bnd (f ρ M) k) Q) {G : β → Hp → Prop}
    (hk : ∀ d M1 H1 v, FR C H0 A m M1 H1 ρ σ P → Stp m H H1 → rel1 H0 A m H1 d v → PX C m σ rel2 H1 (k d M1) Q → G v H1) : tX C rel1 f σ H G := by
  refine ⟨H0, A, m, M, ρ, P, F, ?_⟩
  cases e : f ρ M with
  | ok d M1 =>
    rw [e] at h
    exact fun H1 v s w t q => hk d M1 H1 v (F.step s w t) s q (PX.step s h)
  | exc c g M1 => rw [e] at h; exact h
  | stuck => rw [e] at h; exact h
/-- a value is there -/
theorem PX.fin {d : α} {v : β} {Q : β → Hp → Prop} (h : PX C m σ rel H (.ok d M) Q) (F : FR C H0 A m M H ρ σ P) (r : rel H d v) : Q v H := h H v (Stp.refl m H) F.wr F.tb r
/-- a new object -/
theorem PX.made {d : α} {v : β} {Q : β → Hp → Prop} {p : Addr} {o : HO} (h : PX C m σ rel H (.ok d M) Q) (F : FR C H0 A m M H ρ σ P) (hp : H p = none) (r : rel (upd H p o) d v) : Q v (upd H p o) :=
  h _ v (Stp.upd hp) (F.wr.upd hp) (Tabs.upd F.tb hp) r
theorem Rp.grow {K : PySem.W.Frag} {d : D} {v : V} {p : Addr} {o : HO} (h : Rp K A m H d v) (hp : H p = none) : Rp K A m (upd H p o) d v :=
  Rp.step (B := []) (fun _ z => nomatch z) (fun _ z => nomatch z) (Stp.upd hp) d v h
theorem Rps.grow {K : PySem.W.Frag} {l : List D} {vs : List V} {p : Addr} {o : HO} (h : Rps K A m H l vs) (hp : H p = none) : Rps K A m (upd H p o) l vs :=
  Rps.step (B := []) (fun _ z => nomatch z) (fun _ z => nomatch z) (Stp.upd hp) l vs h
end
/-! ### expressions -/
section
variable {X : Cx} {T : List (Addr × Str)} {W : WX}
def eVar (i : Nat) : Sm Ev := fun ρ M => match ρ[i]? with
  | some (some x) => .ok (look x) M
  | _ => .stuck
theorem de_var (i : Nat) {x : Str} {pos : Pos} (hN : X.N[i]? = some x := by rfl) (hv : Vis X.env.scope x := by first | exact Or.inl rfl | exact Or.inr (Or.inl rfl) | exact Or.inr (Or.inr rfl)) (hd : (x == ("__debug__" : Str)) = false := by decide)
    (hcd : (x == ("__classdict__" : Str)) = false := by decide) : PE X (.Name x pos) (tE (cf X T W) (eVar i)) := by
  refine ⟨fun pins s σ H Q I h => (pe_var hN hv hd hcd).run pins s σ H Q I ?_⟩
  obtain ⟨H0, A, m, M, ρ, P, F, h⟩ := h
  unfold eVar at h
  cases e : ρ[i]? with
  | none => rw [e] at h; exact h.elim
  | some y =>
    cases y with
    | none => rw [e] at h; exact h.elim
    | some y =>
      rw [e] at h
      obtain ⟨v, P1, q1, q2, q3⟩ := ER.get F.er e
      exact ⟨v, q1, h.fin F (SlR.get_look q2 fun a ha => ⟨(F.own a (q3 a ha)).2.1, (F.own a (q3 a ha)).2.2⟩)⟩
def eC (x : D) : Sm Ev := fun _ M => .ok (.d x) M
theorem tE_C {x : D} {v : V} {σ : L2.St} {H : Hp} {Q : VK} (hx : ∀ A m H, Rp X.K A m H x v) (h : tE (cf X T W) (eC x) σ H Q) : Q v H := by
  obtain ⟨H0, A, m, M, ρ, P, F, h⟩ := h
  exact h.fin F (hx A m H)
theorem de_int {i j pos} : PE X (.Constant (.int i) j pos) (tE (cf X T W) (eC (.int i))) := ⟨fun pins s σ H Q I h => pe_int.run pins s σ H Q I (tE_C (x := .int i) (fun _ _ _ => rfl) h)⟩
theorem de_bl {b j pos} : PE X (.Constant (.bool b) j pos) (tE (cf X T W) (eC (.bl b))) := ⟨fun pins s σ H Q I h => pe_bl.run pins s σ H Q I (tE_C (x := .bl b) (fun _ _ _ => rfl) h)⟩
theorem de_non {j pos} : PE X (.Constant .none j pos) (tE (cf X T W) (eC .non)) := ⟨fun pins s σ H Q I h => pe_non.run pins s σ H Q I (tE_C (x := .non) (fun _ _ _ => rfl) h)⟩
theorem de_str {x j pos} : PE X (.Constant (.str x) j pos) (tE (cf X T W) (eC (.str x))) := ⟨fun pins s σ H Q I h => pe_str.run pins s σ H Q I (tE_C (x := .str x) (fun _ _ _ => rfl) h)⟩
/-- a constant of the module, a def, a class -/
theorem de_glob {x : Str} {d : D} {v : V} {u : Value} {pos : Pos} (hg : Gl X x) (hm : X.mg x = some u) (r : RelV v u) (hx : ∀ A m H, Rp X.K A m H d v) (hd : (x == ("__debug__" : Str)) = false := by decide) : PE X (.Name x pos) (tE (cf X T W) (eC d)) :=
  ⟨fun pins s σ H Q I h => (pe_glob hg hm r hd).run pins s σ H Q I (tE_C hx h)⟩
/-- a built-in class as a value -/
theorem de_ty {x : Str} {n : String} {pos : Pos} (hg : Gl X x) (hm : X.mg x = none) (hv : bootBuiltins x = some (.type n)) (hn : x ≠ "__name__" := by decide) (hd : (x == ("__debug__" : Str)) = false := by decide) : PE X (.Name x pos) (tE (cf X T W) (eC (.ty n))) :=
  ⟨fun pins s σ H Q I h => (pe_bltn (v := .ty n) hg hm hv rfl hn hd).run pins s σ H Q I (tE_C (x := .ty n) (fun _ _ _ => rfl) h)⟩
/-! two parts -/
def eBin (op : Ev → Ev → Mem → R Ev) (f g : Sm Ev) : Sm Ev := fun ρ M => bnd (f ρ M) fun a M1 => bnd (g ρ M1) fun b M2 => op a b M2
/-- what an operation asks is there -/
def OpOk (C : Cf) (op : Ev → Ev → Mem → R Ev) (r : R2) : Prop := ∀ H0 A m M H ρ σ P x y v w Q, FR C H0 A m M H ρ σ P → EvR C.K H0 A m H x v → EvR C.K H0 A m H y w → PX C m σ (EvR C.K H0 A m) H (op x y M) Q → r v w H Q
theorem tE_bin {op : Ev → Ev → Mem → R Ev} {f g : Sm Ev} {r : R2} {σ : L2.St} {H : Hp} {Q : VK} (ho : OpOk (cf X T W) op r) (h : tE (cf X T W) (eBin op f g) σ H Q) : tOp r (tE (cf X T W) f) (tE (cf X T W) g) σ H Q := by
  obtain ⟨H0, A, m, M, ρ, P, F, h⟩ := h
  refine sub F h fun a M1 H1 v F1 _ r1 h1 => ?_
  refine sub F1 h1 fun b M2 H2 w F2 s2 r2 h2 => ?_
  exact ho H0 A m M2 H2 ρ σ P a b v w Q F2 (EvR.step F1.wr.aok F1.ma s2 r1) r2 h2
end
end DL

set_option Elab.async false
set_option linter.all false
set_option maxRecDepth 100000
set_option maxHeartbeats 2000000
/-! The data layer: operators, comparisons, tests. -/
namespace DL
open PySem PySem.Spec PyProof.Rows L2
abbrev iv (i : Int) : Ev := .d (.int i)
abbrev bv (b : Bool) : Ev := .d (.bl b)
/-- a list's items -/
def lstOf : Ev → Option (List D)
  | .d (.lst l) => some l
  | .ls .own _ => none
  | .ls _ l => some l
  | _ => none
def tupOf : Ev → Option (List D)
  | .d (.tup l) => some l
  | _ => none
/-- a list's or a tuple's items -/
def seqOf : Ev → Option (List D)
  | .d (.tup l) => some l
  | .d (.lst l) => some l
  | .ls .own _ => none
  | .ls _ l => some l
  | _ => none
section
variable {K : PySem.W.Frag} {H0 H : Hp} {A m : List Addr} {x : Ev} {v : V} {l : List D}
theorem lstOf_at (h : lstOf x = some l) (r : EvR K H0 A m H x v) : ∃ a vs, v = .ref a ∧ H a = some (.lst vs) ∧ Rps K A m H l vs := by
  unfold lstOf at h
  split at h
  · cases h; obtain ⟨a, vs, e, hl, _, q⟩ := r; exact ⟨a, vs, e, hl, q⟩
  · cases h
  · rename_i md l' _
    cases h
    cases md with
    | vw => obtain ⟨a, vs, e, hl, _, _, q⟩ := r; exact ⟨a, vs, e, hl, q⟩
    | pv => obtain ⟨a, vs, e, hl, _, _, q⟩ := r; exact ⟨a, vs, e, hl, q⟩
    | own => exact r.elim
  · cases h
theorem tupOf_at (h : tupOf x = some l) (r : EvR K H0 A m H x v) : ∃ a vs, v = .ref a ∧ SqT K H a vs ∧ Rps K A m H l vs := by
  unfold tupOf at h
  split at h
  · cases h; obtain ⟨a, vs, e, hs, q⟩ := r; exact ⟨a, vs, e, SqT.of hs, q⟩
  · cases h
theorem seqOf_at (h : seqOf x = some l) (r : EvR K H0 A m H x v) : ∃ a vs, v = .ref a ∧ (SqL K H a vs ∨ SqT K H a vs) ∧ Rps K A m H l vs := by
  unfold seqOf at h
  split at h
  · cases h; obtain ⟨a, vs, e, hl, q⟩ := r; exact ⟨a, vs, e, .inr (SqT.of hl), q⟩
  · cases h; obtain ⟨a, vs, e, hl, _, q⟩ := r; exact ⟨a, vs, e, .inl (SqL.of hl), q⟩
  · cases h
  · rename_i md l' _
    cases h
    cases md with
    | vw => obtain ⟨a, vs, e, hl, _, _, q⟩ := r; exact ⟨a, vs, e, .inl (SqL.of hl), q⟩
    | pv => obtain ⟨a, vs, e, hl, _, _, q⟩ := r; exact ⟨a, vs, e, .inl (SqL.of hl), q⟩
    | own => exact r.elim
  · cases h
end
/-- as many as a list may have here -/
def most : Nat := 1000000
theorem most_line {n : Nat} (h : n ≤ most) : n ≤ sizeLine := by rw [sizeLine_eq]; unfold most at h; omega
/-- two ints -/
def opI2 (c : Int → Int → Prop) [∀ i j, Decidable (c i j)] (g : Int → Int → D) (a b : Ev) (M : Mem) : R Ev := match a, b with
  | .d (.int i), .d (.int j) => if c i j then .ok (.d (g i j)) M else .stuck
  | _, _ => .stuck
theorem opI2_ok {C : Cf} {c : Int → Int → Prop} [∀ i j, Decidable (c i j)] {g : Int → Int → D} {g' : Int → Int → V} (hg : ∀ A m H i j, Rp C.K A m H (g i j) (g' i j)) : OpOk C (opI2 c g) (rI c g') := by
  intro H0 A m M H ρ σ P x y v w Q F rx ry h
  unfold opI2 at h
  split at h
  · rename_i i j
    split at h
    · rename_i hc
      exact ⟨i, j, rx, ry, hc, h.fin F (hg A m H i j)⟩
    · exact h.elim
  · exact h.elim
theorem OpOk.orL {C : Cf} {op op' : Ev → Ev → Mem → R Ev} {r r' : R2} {p : Ev → Ev → Bool} (h : OpOk C op r) (h' : OpOk C op' r') : OpOk C (fun a b M => if p a b = true then op a b M else op' a b M) (fun x y H Q => r x y H Q ∨ r' x y H Q) := by
  intro H0 A m M H ρ σ P x y v w Q F rx ry q
  have q' : PX C m σ (EvR C.K H0 A m) H (if p x y = true then op x y M else op' x y M) Q := q
  split at q'
  · exact .inl (h H0 A m M H ρ σ P x y v w Q F rx ry q')
  · exact .inr (h' H0 A m M H ρ σ P x y v w Q F rx ry q')
theorem rI_of0 {C : Int → Int → Prop} {g : Int → Int → V} {x y : V} {H : Hp} {Q : VK} (h : rI C g x y H Q) : rI0 g x y H Q := by
  obtain ⟨i, j, e1, e2, _, q⟩ := h
  exact ⟨i, j, e1, e2, q⟩
def isI : Ev → Bool
  | .d (.int _) => true
  | _ => false
def isS : Ev → Bool
  | .d (.str _) => true
  | _ => false
def isT : Ev → Bool
  | .d (.tup _) => true
  | _ => false
/-! + -/
def opAddS (a b : Ev) (M : Mem) : R Ev := match a, b with
  | .d (.str s), .d (.str t) => if s.length + t.length ≤ most then .ok (.d (.str (s ++ t))) M else .stuck
  | _, _ => .stuck
def opAddT (a b : Ev) (M : Mem) : R Ev := match a, b with
  | .d (.tup s), .d (.tup t) => if s.length + t.length ≤ most then .ok (.d (.tup (s ++ t))) M else .stuck
  | _, _ => .stuck
def opAddL (a b : Ev) (M : Mem) : R Ev := match lstOf a, lstOf b with
  | some s, some t => if s.length + t.length ≤ most then .ok (.d (.lst (s ++ t))) M else .stuck
  | _, _ => .stuck
def opAdd (a b : Ev) (M : Mem) : R Ev := match a, b with
  | .d (.int i), .d (.int j) => .ok (iv (i + j)) M
  | .d (.str s), .d (.str t) => opAddS (.d (.str s)) (.d (.str t)) M
  | .d (.tup s), .d (.tup t) => opAddT (.d (.tup s)) (.d (.tup t)) M
  | a, b => opAddL a b M
def rAddA (K : PySem.W.Frag) : R2 := fun x y H Q => rI0 (fun i j => .int (i + j)) x y H Q ∨ (∃ i j, x = .str i ∧ y = .str j ∧ i.length + j.length ≤ sizeLine ∧ Q (.str (i ++ j)) H) ∨ rCatA K x y H Q ∨ rCat x y H Q
theorem op_addA {X : Cx} : OpR X (binaryOp .Add) (rAddA X.K) := op_add.or (op_add_str.or (op_catA.or op_cat))
theorem ok_addS {C : Cf} : OpOk C opAddS (fun x y H Q => ∃ i j, x = .str i ∧ y = .str j ∧ i.length + j.length ≤ sizeLine ∧ Q (.str (i ++ j)) H) := by
  intro H0 A m M H ρ σ P x y v w Q F rx ry h
  unfold opAddS at h
  split at h
  · rename_i s t
    split at h
    · rename_i hc
      exact ⟨s, t, rx, ry, most_line hc, h.fin F rfl⟩
    · exact h.elim
  · exact h.elim
theorem SqT.of' {K : PySem.W.Frag} {H : Hp} {p : Addr} {vs : List V} : SqT K (upd H p (.tup vs)) p vs := SqT.of upd_same
theorem ok_addT {C : Cf} : OpOk C opAddT (rCatA C.K) := by
  intro H0 A m M H ρ σ P x y v w Q F rx ry h
  unfold opAddT at h
  split at h
  · rename_i s t
    split at h
    · rename_i hc
      obtain ⟨a, vs, e, hs, r1⟩ := rx
      obtain ⟨b, ws, e2, ht, r2⟩ := ry
      refine ⟨a, b, vs, ws, e, e2, SqT.of hs, SqT.of ht, by rw [Rps.len r1, Rps.len r2]; exact most_line hc, fun z => ?_, fun _ z => ?_, fun _ _ p hp => ?_⟩
      · have q : Rps C.K A m H (s ++ t) (vs ++ ws) := Rps.app r1 r2
        rw [z, List.nil_append] at q
        exact h.fin F ⟨b, ws, rfl, ht, q⟩
      · have q : Rps C.K A m H (s ++ t) (vs ++ ws) := Rps.app r1 r2
        rw [z, List.append_nil] at q
        exact h.fin F ⟨a, vs, rfl, hs, q⟩
      · exact h.made F hp ⟨p, vs ++ ws, rfl, upd_same, (Rps.app r1 r2).grow hp⟩
    · exact h.elim
  · exact h.elim
/-- a new list that stands still -/
theorem newL {C : Cf} {H0 H : Hp} {A m : List Addr} {M : Mem} {ρ : Env} {σ : L2.St} {P : List Addr} {l : List D} {vs : List V} {p : Addr} (F : FR C H0 A m M H ρ σ P) (hp : H p = none) (r : Rps C.K A m H l vs) :
    Rp C.K A m (upd H p (.lst vs)) (.lst l) (.ref p) := ⟨p, vs, rfl, upd_same, F.new hp, r.grow hp⟩
theorem newT {C : Cf} {H : Hp} {A m : List Addr} {l : List D} {vs : List V} {p : Addr} (hp : H p = none) (r : Rps C.K A m H l vs) :
    Rp C.K A m (upd H p (.tup vs)) (.tup l) (.ref p) := ⟨p, vs, rfl, upd_same, r.grow hp⟩
theorem ok_addL {C : Cf} : OpOk C opAddL rCat := by
  intro H0 A m M H ρ σ P x y v w Q F rx ry h
  unfold opAddL at h
  cases e1 : lstOf x with
  | none => rw [e1] at h; exact h.elim
  | some s =>
    cases e2 : lstOf y with
    | none => rw [e1, e2] at h; exact h.elim
    | some t =>
      rw [e1, e2] at h
      obtain ⟨a, vs, e, hs, r1⟩ := lstOf_at e1 rx
      obtain ⟨b, ws, e', ht, r2⟩ := lstOf_at e2 ry
      have h' : PX C m σ (EvR C.K H0 A m) H (if s.length + t.length ≤ most then .ok (.d (.lst (s ++ t))) M else .stuck) Q := h
      split at h'
      · rename_i hc
        exact ⟨a, b, vs, ws, e, e', hs, ht, by rw [Rps.len r1, Rps.len r2]; exact most_line hc, fun p hp => h'.made F hp (newL F hp (Rps.app r1 r2))⟩
      · exact h'.elim
theorem ok_add {C : Cf} : OpOk C opAdd (rAddA C.K) := by
  intro H0 A m M H ρ σ P x y v w Q F rx ry h
  unfold opAdd at h
  split at h
  · rename_i i j
    exact .inl ⟨i, j, rx, ry, h.fin F rfl⟩
  · exact .inr (.inl (ok_addS H0 A m M H ρ σ P _ _ v w Q F rx ry h))
  · exact .inr (.inr (.inl (ok_addT H0 A m M H ρ σ P _ _ v w Q F rx ry h)))
  · exact .inr (.inr (.inr (ok_addL H0 A m M H ρ σ P _ _ v w Q F rx ry h)))
/-! - * // % ** << >> & | ^ -/
abbrev opSub : Ev → Ev → Mem → R Ev := opI2 (fun _ _ => True) (fun i j => .int (i - j))
theorem op_subT {X : Cx} : OpR X (binaryOp .Sub) (rI (fun _ _ => True) fun i j => .int (i - j)) := fun pins s σ H x y v u Q I rx ry h => op_sub pins s σ H x y v u Q I rx ry (rI_of0 h)
theorem ok_sub {C : Cf} : OpOk C opSub (rI (fun _ _ => True) fun i j => .int (i - j)) := opI2_ok fun _ _ _ _ _ => rfl
def cMul (i j : Int) : Prop := Builtin.Int.intBits i + Builtin.Int.intBits j ≤ 134217728
instance (i j : Int) : Decidable (cMul i j) := by unfold cMul; infer_instance
theorem op_mulI {X : Cx} : OpR X (binaryOp .Mult) (rI cMul fun i j => .int (i * j)) := fun pins s σ H x y v u Q I rx ry h => by
  obtain ⟨i, j, e1, e2, c, q⟩ := h
  refine op_mulX pins s σ H x y v u Q I rx ry ⟨i, j, e1, e2, ?_, q⟩
  unfold CMulX; unfold cMul at c; omega
/-- a list so often -/
def opMulL (a b : Ev) (M : Mem) : R Ev := match lstOf a, b with
  | some l, .d (.int k) => if -1000000 ≤ k ∧ k ≤ 1000000 ∧ l.length * k.toNat ≤ most then .ok (.d (.lst (List.replicate k.toNat l).flatten)) M else .stuck
  | _, _ => .stuck
theorem ok_mulL {C : Cf} : OpOk C opMulL rRep := by
  intro H0 A m M H ρ σ P x y v w Q F rx ry h
  unfold opMulL at h
  split at h
  · rename_i l k e1
    obtain ⟨a, vs, e, hs, r1⟩ := lstOf_at e1 rx
    split at h
    · rename_i hc
      exact ⟨a, k, vs, e, ry, hs, by omega, by omega, by rw [Rps.len r1]; exact most_line hc.2.2, fun p hp => h.made F hp (newL F hp (Rps.rep r1 _))⟩
    · exact h.elim
  · exact h.elim
def opMul (a b : Ev) (M : Mem) : R Ev := match a, b with
  | .d (.int i), .d (.int j) => if cMul i j then .ok (iv (i * j)) M else .stuck
  | a, b => opMulL a b M
theorem op_mulA {X : Cx} : OpR X (binaryOp .Mult) (fun x y H Q => rI cMul (fun i j => .int (i * j)) x y H Q ∨ rRep x y H Q) := op_mulI.or op_rep
theorem ok_mul {C : Cf} : OpOk C opMul (fun x y H Q => rI cMul (fun i j => .int (i * j)) x y H Q ∨ rRep x y H Q) := by
  intro H0 A m M H ρ σ P x y v w Q F rx ry h
  unfold opMul at h
  split at h
  · rename_i i j
    split at h
    · rename_i hc
      exact .inl ⟨i, j, rx, ry, hc, h.fin F rfl⟩
    · exact h.elim
  · exact .inr (ok_mulL H0 A m M H ρ σ P _ _ v w Q F rx ry h)
def cDiv (_ j : Int) : Prop := 0 < j ∧ j.natAbs.log2 < 9000
instance (i j : Int) : Decidable (cDiv i j) := by unfold cDiv; infer_instance
def cDivN (_ j : Int) : Prop := j < 0 ∧ j.natAbs < 1073741824
instance (i j : Int) : Decidable (cDivN i j) := by unfold cDivN; infer_instance
def opDiv (a b : Ev) (M : Mem) : R Ev := match a, b with
  | .d (.int i), .d (.int j) => if cDiv i j then .ok (iv (i / j)) M else if cDivN i j then .ok (iv (i.fdiv j)) M else .stuck
  | _, _ => .stuck
theorem op_divA {X : Cx} : OpR X (binaryOp .FloorDiv) (fun x y H Q => rI CDivW (fun i j => .int (i / j)) x y H Q ∨ rI CDivN (fun i j => .int (i.fdiv j)) x y H Q) := op_fdivW.or op_fdivN
theorem ok_div {C : Cf} : OpOk C opDiv (fun x y H Q => rI CDivW (fun i j => .int (i / j)) x y H Q ∨ rI CDivN (fun i j => .int (i.fdiv j)) x y H Q) := by
  intro H0 A m M H ρ σ P x y v w Q F rx ry h
  unfold opDiv at h
  split at h
  · rename_i i j
    split at h
    · rename_i hc
      exact .inl ⟨i, j, rx, ry, hc, h.fin F rfl⟩
    · split at h
      · rename_i hc
        exact .inr ⟨i, j, rx, ry, ⟨by unfold cDivN at hc; omega, hc.2⟩, h.fin F rfl⟩
      · exact h.elim
  · exact h.elim
def opMod (a b : Ev) (M : Mem) : R Ev := match a, b with
  | .d (.int i), .d (.int j) => if 0 < j then .ok (iv (i % j)) M else if j ≠ 0 then .ok (iv (i.fmod j)) M else .stuck
  | _, _ => .stuck
theorem op_modA {X : Cx} : OpR X (binaryOp .Mod) (fun x y H Q => rI (fun _ j => 0 < j) (fun i j => .int (i % j)) x y H Q ∨ rI (fun _ j => j ≠ 0) (fun i j => .int (i.fmod j)) x y H Q) := op_mod.or op_modN
theorem ok_mod {C : Cf} : OpOk C opMod (fun x y H Q => rI (fun _ j => 0 < j) (fun i j => .int (i % j)) x y H Q ∨ rI (fun _ j => j ≠ 0) (fun i j => .int (i.fmod j)) x y H Q) := by
  intro H0 A m M H ρ σ P x y v w Q F rx ry h
  unfold opMod at h
  split at h
  · rename_i i j
    split at h
    · rename_i hc
      exact .inl ⟨i, j, rx, ry, hc, h.fin F rfl⟩
    · split at h
      · rename_i hc
        exact .inr ⟨i, j, rx, ry, hc, h.fin F rfl⟩
      · exact h.elim
  · exact h.elim
instance (i j : Int) : Decidable (CPow i j) := by unfold CPow; infer_instance
abbrev opPow : Ev → Ev → Mem → R Ev := opI2 CPow (fun i j => .int (i ^ j.toNat))
theorem ok_pow {C : Cf} : OpOk C opPow (rI CPow fun i j => .int (i ^ j.toNat)) := opI2_ok fun _ _ _ _ _ => rfl
instance (i j : Int) : Decidable (CShl i j) := by unfold CShl; infer_instance
abbrev opShl : Ev → Ev → Mem → R Ev := opI2 CShl (fun i j => .int (i * 2 ^ j.toNat))
theorem ok_shl {C : Cf} : OpOk C opShl (rI CShl fun i j => .int (i * 2 ^ j.toNat)) := opI2_ok fun _ _ _ _ _ => rfl
abbrev opShr : Ev → Ev → Mem → R Ev := opI2 (fun _ j => 0 ≤ j) (fun i j => .int (i / 2 ^ j.toNat))
theorem ok_shr {C : Cf} : OpOk C opShr (rI (fun _ j => 0 ≤ j) fun i j => .int (i / 2 ^ j.toNat)) := opI2_ok fun _ _ _ _ _ => rfl
abbrev opAnd : Ev → Ev → Mem → R Ev := opI2 (fun _ _ => True) (fun i j => .int (Builtin.bitAnd i j))
abbrev opOr : Ev → Ev → Mem → R Ev := opI2 (fun _ _ => True) (fun i j => .int (Builtin.bitOr i j))
abbrev opXor : Ev → Ev → Mem → R Ev := opI2 (fun _ _ => True) (fun i j => .int (Builtin.bitXor i j))
theorem op_of0 {X : Cx} {f : Value → Value → Sem Value} {g : Int → Int → V} (h : OpR X f (rI0 g)) : OpR X f (rI (fun _ _ => True) g) := fun pins s σ H x y v u Q I rx ry q => h pins s σ H x y v u Q I rx ry (rI_of0 q)
theorem ok_and {C : Cf} : OpOk C opAnd (rI (fun _ _ => True) fun i j => .int (Builtin.bitAnd i j)) := opI2_ok fun _ _ _ _ _ => rfl
theorem ok_or {C : Cf} : OpOk C opOr (rI (fun _ _ => True) fun i j => .int (Builtin.bitOr i j)) := opI2_ok fun _ _ _ _ _ => rfl
theorem ok_xor {C : Cf} : OpOk C opXor (rI (fun _ _ => True) fun i j => .int (Builtin.bitXor i j)) := opI2_ok fun _ _ _ _ _ => rfl
section
variable {X : Cx} {T : List (Addr × Str)} {W : WX} {a b c : Expr} {f g h : Sm Ev} {pos : Pos}
theorem de_op {op : Operator} {o : Ev → Ev → Mem → R Ev} {r : R2} (h1 : OpR X (binaryOp op) r) (h2 : OpOk (cf X T W) o r) (ha : PE X a (tE (cf X T W) f)) (hb : PE X b (tE (cf X T W) g)) : PE X (.BinOp a op b pos) (tE (cf X T W) (eBin o f g)) :=
  ⟨fun pins s σ H Q I q => (pe_op h1 ha hb).run pins s σ H Q I (tE_bin h2 q)⟩
theorem de_add (ha : PE X a (tE (cf X T W) f)) (hb : PE X b (tE (cf X T W) g)) : PE X (.BinOp a .Add b pos) (tE (cf X T W) (eBin opAdd f g)) := de_op op_addA ok_add ha hb
theorem de_sub (ha : PE X a (tE (cf X T W) f)) (hb : PE X b (tE (cf X T W) g)) : PE X (.BinOp a .Sub b pos) (tE (cf X T W) (eBin opSub f g)) := de_op op_subT ok_sub ha hb
theorem de_mul (ha : PE X a (tE (cf X T W) f)) (hb : PE X b (tE (cf X T W) g)) : PE X (.BinOp a .Mult b pos) (tE (cf X T W) (eBin opMul f g)) := de_op op_mulA ok_mul ha hb
theorem de_div (ha : PE X a (tE (cf X T W) f)) (hb : PE X b (tE (cf X T W) g)) : PE X (.BinOp a .FloorDiv b pos) (tE (cf X T W) (eBin opDiv f g)) := de_op op_divA ok_div ha hb
theorem de_mod (ha : PE X a (tE (cf X T W) f)) (hb : PE X b (tE (cf X T W) g)) : PE X (.BinOp a .Mod b pos) (tE (cf X T W) (eBin opMod f g)) := de_op op_modA ok_mod ha hb
theorem de_pow (ha : PE X a (tE (cf X T W) f)) (hb : PE X b (tE (cf X T W) g)) : PE X (.BinOp a .Pow b pos) (tE (cf X T W) (eBin opPow f g)) := de_op op_pow ok_pow ha hb
theorem de_shl (ha : PE X a (tE (cf X T W) f)) (hb : PE X b (tE (cf X T W) g)) : PE X (.BinOp a .LShift b pos) (tE (cf X T W) (eBin opShl f g)) := de_op op_shlW ok_shl ha hb
theorem de_shr (ha : PE X a (tE (cf X T W) f)) (hb : PE X b (tE (cf X T W) g)) : PE X (.BinOp a .RShift b pos) (tE (cf X T W) (eBin opShr f g)) := de_op op_shr ok_shr ha hb
theorem de_band (ha : PE X a (tE (cf X T W) f)) (hb : PE X b (tE (cf X T W) g)) : PE X (.BinOp a .BitAnd b pos) (tE (cf X T W) (eBin opAnd f g)) := de_op (op_of0 op_and) ok_and ha hb
theorem de_bor (ha : PE X a (tE (cf X T W) f)) (hb : PE X b (tE (cf X T W) g)) : PE X (.BinOp a .BitOr b pos) (tE (cf X T W) (eBin opOr f g)) := de_op (op_of0 op_or) ok_or ha hb
theorem de_bxor (ha : PE X a (tE (cf X T W) f)) (hb : PE X b (tE (cf X T W) g)) : PE X (.BinOp a .BitXor b pos) (tE (cf X T W) (eBin opXor f g)) := de_op (op_of0 op_xor) ok_xor ha hb
/-! -a, ~a -/
def eUn (o : Ev → Mem → R Ev) (f : Sm Ev) : Sm Ev := fun ρ M => bnd (f ρ M) fun a M1 => o a M1
def unNeg (a : Ev) (M : Mem) : R Ev := match a with
  | .d (.int i) => .ok (iv (-i)) M
  | _ => .stuck
def unInv (a : Ev) (M : Mem) : R Ev := match a with
  | .d (.int i) => .ok (iv (Builtin.bitNot i)) M
  | _ => .stuck
theorem de_neg (ha : PE X a (tE (cf X T W) f)) : PE X (.UnaryOp .USub a pos) (tE (cf X T W) (eUn unNeg f)) := by
  refine ⟨fun pins s σ H Q I q => (pe_un un_neg ha).run pins s σ H Q I ?_⟩
  obtain ⟨H0, A, m, M, ρ, P, F, h⟩ := q
  refine sub F h fun a M1 H1 v F1 _ r1 h1 => ?_
  unfold unNeg at h1
  split at h1
  · rename_i i; exact ⟨i, r1, h1.fin F1 rfl⟩
  · exact h1.elim
theorem de_inv (ha : PE X a (tE (cf X T W) f)) : PE X (.UnaryOp .Invert a pos) (tE (cf X T W) (eUn unInv f)) := by
  refine ⟨fun pins s σ H Q I q => (pe_un un_inv ha).run pins s σ H Q I ?_⟩
  obtain ⟨H0, A, m, M, ρ, P, F, h⟩ := q
  refine sub F h fun a M1 H1 v F1 _ r1 h1 => ?_
  unfold unInv at h1
  split at h1
  · rename_i i; exact ⟨i, r1, h1.fin F1 rfl⟩
  · exact h1.elim
end
end DL

set_option Elab.async false
set_option linter.all false
set_option maxRecDepth 100000
set_option maxHeartbeats 2000000
/-! The data layer: comparisons, tests, and, or, not. -/
namespace DL
open PySem PySem.Spec PyProof.Rows L2
/-! ### a value as plain data -/
mutual
def D.py : D → PyData
  | .non => .none
  | .bl b => .bool b
  | .int i => .int i
  | .str s => .str s
  | .tup l => .tuple (D.pyL l)
  | .lst l => .list (D.pyL l)
  | _ => .dict []
def D.pyL : List D → List PyData
  | [] => []
  | d :: l => D.py d :: D.pyL l
end
def Ev.py : Ev → PyData
  | .d x => x.py
  | .ls _ l => .list (D.pyL l)
  | _ => .dict []
section
variable {K : PySem.W.Frag} {H0 H : Hp} {A m : List Addr}
mutual
theorem dp_of : ∀ (d : D) (v : V), d.py.canLay0 = true → Rp K A m H d v → Dp K H v d.py
  | .non, _, _, h => by cases (show _ = V.non from h); exact .non
  | .bl b, _, _, h => by cases (show _ = V.bl b from h); exact .bl b
  | .int i, _, _, h => by cases (show _ = V.int i from h); exact .int i
  | .str s, _, _, h => by cases (show _ = V.str s from h); exact .str s
  | .tup l, _, c, ⟨a, vs, e, hs, r⟩ => by cases e; exact .tup (SqT.of hs) (dp_ofL l vs c r)
  | .lst l, _, c, ⟨a, vs, e, hs, _, r⟩ => by cases e; exact .lst (SqL.of hs) (dp_ofL l vs c r)
  | .ty _, _, c, _ => by cases c
  | .at _, _, c, _ => by cases c
  | .ob _, _, c, _ => by cases c
  | .sc _, _, c, _ => by cases c
  | .dK _ _, _, c, _ => by cases c
  | .dT _ _, _, c, _ => by cases c
theorem dp_ofL : ∀ (l : List D) (vs : List V), PyData.canLayAll0 (D.pyL l) = true → Rps K A m H l vs → DpAll K H vs (D.pyL l)
  | [], _, _, h => by cases (show _ = [] from h); exact .nil
  | d :: l, _, c, ⟨v, r, e, h1, h2⟩ => by
    cases e
    have c' : (d.py.canLay0 && PyData.canLayAll0 (D.pyL l)) = true := c
    rw [Bool.and_eq_true] at c'
    exact .cons (dp_of d v c'.1 h1) (dp_ofL l r c'.2 h2)
end
theorem dp_ofE {x : Ev} {v : V} (c : x.py.canLay0 = true) (r : EvR K H0 A m H x v) : Dp K H v x.py := by
  cases x with
  | d x => exact dp_of x v c r
  | ls md l =>
    cases md with
    | vw => obtain ⟨a, vs, e, hl, _, _, q⟩ := r; cases e; exact .lst (SqL.of hl) (dp_ofL l vs c q)
    | pv => obtain ⟨a, vs, e, hl, _, _, q⟩ := r; cases e; exact .lst (SqL.of hl) (dp_ofL l vs c q)
    | own => exact r.elim
  | rw _ _ => cases c
  | dk _ _ _ => cases c
  | dt _ _ _ => cases c
end
/-! ### ==, != -/
def eqR (a b : Ev) : Option Bool := match a, b with
  | .d (.int i), .d (.int j) => some (decide (i = j))
  | .d (.str i), .d (.str j) => some (decide (i = j))
  | a, b => if SeqAt.shaped a.py = true ∧ SeqAt.shaped b.py = true then some (PyData.eqv a.py b.py) else none
def opEq (neg : Bool) (a b : Ev) (M : Mem) : R Ev := match eqR a b with
  | some k => .ok (bv (if neg then !k else k)) M
  | none => .stuck
theorem ok_eq {C : Cf} : OpOk C (opEq false) (fun x y H Q => rEq x y H Q ∨ rEqD C.K x y H Q) := by
  intro H0 A m M H ρ σ P x y v w Q F rx ry h
  unfold opEq eqR at h
  split at h
  · rename_i k hk
    split at hk
    · rename_i i j
      cases hk
      cases (show v = V.int i from rx); cases (show w = V.int j from ry)
      refine .inl ⟨rfl, ?_⟩
      have e : decide ((V.int i) = V.int j) = decide (i = j) := by simp
      rw [e]; exact h.fin F rfl
    · rename_i i j
      cases hk
      cases (show v = V.str i from rx); cases (show w = V.str j from ry)
      refine .inl ⟨rfl, ?_⟩
      have e : decide ((V.str i) = V.str j) = decide (i = j) := by simp
      rw [e]; exact h.fin F rfl
    · split at hk
      · rename_i hc
        cases hk
        exact .inr ⟨_, _, dp_ofE (SeqAt.canLay_of_shaped hc.1) rx, dp_ofE (SeqAt.canLay_of_shaped hc.2) ry, hc.1, hc.2, h.fin F rfl⟩
      · cases hk
  · exact h.elim
theorem ok_ne {C : Cf} : OpOk C (opEq true) (fun x y H Q => rNe x y H Q ∨ rNeD C.K x y H Q) := by
  intro H0 A m M H ρ σ P x y v w Q F rx ry h
  unfold opEq eqR at h
  split at h
  · rename_i k hk
    split at hk
    · rename_i i j
      cases hk
      cases (show v = V.int i from rx); cases (show w = V.int j from ry)
      refine .inl ⟨rfl, ?_⟩
      have e : (!decide ((V.int i) = V.int j)) = (!decide (i = j)) := by simp
      rw [e]; exact h.fin F rfl
    · rename_i i j
      cases hk
      cases (show v = V.str i from rx); cases (show w = V.str j from ry)
      refine .inl ⟨rfl, ?_⟩
      have e : (!decide ((V.str i) = V.str j)) = (!decide (i = j)) := by simp
      rw [e]; exact h.fin F rfl
    · split at hk
      · rename_i hc
        cases hk
        exact .inr ⟨_, _, dp_ofE (SeqAt.canLay_of_shaped hc.1) rx, dp_ofE (SeqAt.canLay_of_shaped hc.2) ry, hc.1, hc.2, h.fin F rfl⟩
      · cases hk
  · exact h.elim
/-! ### < <= > >= -/
def toInts : List D → Option (List Int)
  | [] => some []
  | .int i :: l => (toInts l).map (i :: ·)
  | _ => none
theorem toInts_map : ∀ {l : List D} {ns : List Int}, toInts l = some ns → l = ns.map D.int
  | [], _, h => by cases h; rfl
  | .int i :: l, ns, h => by
    unfold toInts at h
    cases e : toInts l with
    | none => rw [e] at h; cases h
    | some r => rw [e] at h; cases h; rw [toInts_map e]; rfl
  | .non :: _, _, h => by cases h
  | .bl _ :: _, _, h => by cases h
  | .str _ :: _, _, h => by cases h
  | .ty _ :: _, _, h => by cases h
  | .at _ :: _, _, h => by cases h
  | .ob _ :: _, _, h => by cases h
  | .sc _ :: _, _, h => by cases h
  | .tup _ :: _, _, h => by cases h
  | .lst _ :: _, _, h => by cases h
  | .dK _ _ :: _, _, h => by cases h
  | .dT _ _ :: _, _, h => by cases h
theorem toInts_ints : ∀ (ns : List Int), toInts (ns.map D.int) = some ns
  | [] => rfl
  | n :: ns => by rw [List.map_cons]; unfold toInts; rw [toInts_ints ns]; rfl
def opLt (a b : Ev) (M : Mem) : R Ev := match a, b with
  | .d (.int i), .d (.int j) => .ok (bv (decide (i < j))) M
  | .d (.str i), .d (.str j) => .ok (bv (decide (i.cps.toList < j.cps.toList))) M
  | .d (.tup s), .d (.tup t) => match toInts s, toInts t with
    | some ns, some ms => .ok (bv (HT.lexLt ns ms)) M
    | _, _ => .stuck
  | _, _ => .stuck
theorem ok_lt {C : Cf} : OpOk C opLt (fun x y H Q => rI0 (fun i j => .bl (decide (i < j))) x y H Q ∨ (∃ i j, x = .str i ∧ y = .str j ∧ Q (.bl (decide (i.cps.toList < j.cps.toList))) H) ∨ rLtT C.K x y H Q) := by
  intro H0 A m M H ρ σ P x y v w Q F rx ry h
  unfold opLt at h
  split at h
  · rename_i i j; exact .inl ⟨i, j, rx, ry, h.fin F rfl⟩
  · rename_i i j; exact .inr (.inl ⟨i, j, rx, ry, h.fin F rfl⟩)
  · rename_i s t
    split at h
    · rename_i ns ms e1 e2
      have es := toInts_map e1
      have et := toInts_map e2
      subst es; subst et
      obtain ⟨a, vs, e, hs, r1⟩ := rx
      obtain ⟨b, ws, e', ht, r2⟩ := ry
      rw [Rps.ints r1] at hs
      rw [Rps.ints r2] at ht
      exact .inr (.inr ⟨a, b, ns, ms, e, e', SqT.of hs, SqT.of ht, h.fin F rfl⟩)
    · exact h.elim
  · exact h.elim
abbrev opLe : Ev → Ev → Mem → R Ev := opI2 (fun _ _ => True) (fun i j => .bl (decide (i ≤ j)))
abbrev opGt : Ev → Ev → Mem → R Ev := opI2 (fun _ _ => True) (fun i j => .bl (decide (j < i)))
abbrev opGe : Ev → Ev → Mem → R Ev := opI2 (fun _ _ => True) (fun i j => .bl (decide (j ≤ i)))
theorem ok_le {C : Cf} : OpOk C opLe (rI (fun _ _ => True) fun i j => .bl (decide (i ≤ j))) := opI2_ok fun _ _ _ _ _ => rfl
theorem ok_gt {C : Cf} : OpOk C opGt (rI (fun _ _ => True) fun i j => .bl (decide (j < i))) := opI2_ok fun _ _ _ _ _ => rfl
theorem ok_ge {C : Cf} : OpOk C opGe (rI (fun _ _ => True) fun i j => .bl (decide (j ≤ i))) := opI2_ok fun _ _ _ _ _ => rfl
/-! ### is None, is True -/
def isNon : Ev → Bool
  | .d .non => true
  | _ => false
def isB : Ev → Option Bool
  | .d (.bl b) => some b
  | _ => none
def opIs (neg : Bool) (a b : Ev) (M : Mem) : R Ev := match b with
  | .d .non => .ok (bv (if neg then !isNon a else isNon a)) M
  | .d (.bl c) => match isB a with
    | some k => .ok (bv (if neg then !decide (k = c) else decide (k = c))) M
    | none => .stuck
  | _ => .stuck
theorem isNon_rel {K : PySem.W.Frag} {H0 H : Hp} {A m : List Addr} {x : Ev} {v : V} (r : EvR K H0 A m H x v) : decide (v = V.non) = isNon x := by
  cases x with
  | d x =>
    cases x with
    | non => cases (show v = V.non from r); rfl
    | bl b => cases (show v = V.bl b from r); rfl
    | int b => cases (show v = V.int b from r); rfl
    | str b => cases (show v = V.str b from r); rfl
    | ty b => cases (show v = V.ty b from r); rfl
    | «at» b => cases (show v = V.ref b from r); rfl
    | ob b => obtain ⟨a, _, e⟩ := r; cases e; rfl
    | sc b => obtain ⟨a, e, _⟩ := r; cases e; rfl
    | tup l => obtain ⟨a, vs, e, _⟩ := r; cases e; rfl
    | lst l => obtain ⟨a, vs, e, _⟩ := r; cases e; rfl
    | dK ks l => obtain ⟨a, vs, e, _⟩ := r; cases e; rfl
    | dT ks l => obtain ⟨a, vs, e, _⟩ := r; cases e; rfl
  | ls md l => cases md <;> first | exact r.elim | (obtain ⟨a, vs, e, _⟩ := r; cases e; rfl)
  | rw md l => cases md <;> first | exact r.elim | (obtain ⟨a, vs, e, _⟩ := r; cases e; rfl)
  | dk md ks l => cases md <;> first | exact r.elim | (obtain ⟨a, vs, e, _⟩ := r; cases e; rfl)
  | dt md ks l => cases md <;> first | exact r.elim | (obtain ⟨a, vs, e, _⟩ := r; cases e; rfl)
theorem isB_rel {K : PySem.W.Frag} {H0 H : Hp} {A m : List Addr} {x : Ev} {v : V} {k : Bool} (e : isB x = some k) (r : EvR K H0 A m H x v) : v = .bl k := by
  unfold isB at e
  split at e
  · cases e; exact r
  · cases e
def rIs : R2 := fun x y H Q => (y = .non ∧ Q (.bl (decide (x = .non))) H) ∨ rIsB x y H Q
def rIsNot : R2 := fun x y H Q => (y = .non ∧ Q (.bl (!decide (x = .non))) H) ∨ rNotB x y H Q
theorem op_isA {X : Cx} : OpR X (compareOp .Is) rIs := op_isN.or op_isBl
theorem op_isnotA {X : Cx} : OpR X (compareOp .IsNot) rIsNot := op_notN.or op_notBl
theorem ok_is {C : Cf} : OpOk C (opIs false) rIs := by
  intro H0 A m M H ρ σ P x y v w Q F rx ry h
  unfold opIs at h
  split at h
  · refine .inl ⟨ry, ?_⟩
    rw [isNon_rel rx]; exact h.fin F rfl
  · rename_i c
    split at h
    · rename_i k hk
      exact .inr ⟨k, c, isB_rel hk rx, ry, h.fin F rfl⟩
    · exact h.elim
  · exact h.elim
theorem ok_isnot {C : Cf} : OpOk C (opIs true) rIsNot := by
  intro H0 A m M H ρ σ P x y v w Q F rx ry h
  unfold opIs at h
  split at h
  · refine .inl ⟨ry, ?_⟩
    rw [isNon_rel rx]; exact h.fin F rfl
  · rename_i c
    split at h
    · rename_i k hk
      exact .inr ⟨k, c, isB_rel hk rx, ry, h.fin F rfl⟩
    · exact h.elim
  · exact h.elim
/-! ### the comparisons as values, as tests -/
section
variable {X : Cx} {T : List (Addr × Str)} {W : WX} {a b c : Expr} {f g h : Sm Ev} {pos : Pos}
theorem de_cmpR {op : CmpOp} {o : Ev → Ev → Mem → R Ev} {r : R2} (h1 : OpR X (compareOp op) r) (h2 : OpOk (cf X T W) o r) (ha : PE X a (tE (cf X T W) f)) (hb : PE X b (tE (cf X T W) g)) (hm : behindInMarks op b = false) : PE X (.Compare a [op] [b] pos) (tE (cf X T W) (eBin o f g)) :=
  ⟨fun pins s σ H Q I q => (pe_cmpR h1 ha hb hm).run pins s σ H Q I (tE_bin h2 q)⟩
/-- a value that is a truth, as one -/
def asB (r : R Ev) : R Bool := bnd r fun x M => match x with
  | .d (.bl b) => .ok b M
  | _ => .stuck
theorem bnd_bnd {α β γ : Type} (r : R α) (k : α → Mem → R β) (k' : β → Mem → R γ) : bnd (bnd r k) k' = bnd r fun a M => bnd (k a M) k' := by cases r <;> rfl
def tCmpE (o : Ev → Ev → Mem → R Ev) (f g : Sm Ev) : Sm Bool := fun ρ M => asB (eBin o f g ρ M)
theorem asB_run {C : Cf} {H0 H : Hp} {A m : List Addr} {M : Mem} {ρ : Env} {σ : L2.St} {P : List Addr} {f : Sm Ev} {Q : Bool → Hp → Prop} (F : FR C H0 A m M H ρ σ P) (h : PX C m σ (relB H0 A m) H (asB (f ρ M)) Q) :
    tE C f σ H fun x H1 => ∃ k, x = .bl k ∧ Q k H1 := by
  refine sub F h fun d M1 H1 v F1 _ r1 h1 => ?_
  split at h1
  · rename_i b; exact ⟨b, r1, h1.fin F1 rfl⟩
  · exact h1.elim
theorem dt_cmpR {op : CmpOp} {o : Ev → Ev → Mem → R Ev} {r : R2} (h1 : OpR X (compareOp op) r) (h2 : OpOk (cf X T W) o r) (ha : PE X a (tE (cf X T W) f)) (hb : PE X b (tE (cf X T W) g)) (hm : behindInMarks op b = false) : PT X (.Compare a [op] [b] pos) (tT (cf X T W) (tCmpE o f g)) := by
  refine ⟨fun pins s σ H Q I q => (pt_cmpR h1 ha hb hm).run pins s σ H Q I ?_⟩
  obtain ⟨H0, A, m, M, ρ, P, F, q⟩ := q
  exact tE_bin h2 (asB_run F q)
variable (hu : X.A.units + 64 < cLine)
include hu in
theorem op_eqA : OpR X (compareOp .Eq) (fun x y H Q => rEq x y H Q ∨ rEqD X.K x y H Q) := op_eq.or (op_eqD hu)
include hu in
theorem op_neA : OpR X (compareOp .NotEq) (fun x y H Q => rNe x y H Q ∨ rNeD X.K x y H Q) := op_ne.or (op_neD hu)
include hu in
theorem op_ltA : OpR X (compareOp .Lt) (fun x y H Q => rI0 (fun i j => .bl (decide (i < j))) x y H Q ∨ (∃ i j, x = .str i ∧ y = .str j ∧ Q (.bl (decide (i.cps.toList < j.cps.toList))) H) ∨ rLtT X.K x y H Q) := op_lt.or (op_lt_str.or (op_ltT (by omega)))
/-- what a comparison is worth -/
structure CmpIs (X : Cx) (T : List (Addr × Str)) (W : WX) (op : CmpOp) (o : Ev → Ev → Mem → R Ev) : Prop where
  ex : ∃ r, OpR X (compareOp op) r ∧ OpOk (cf X T W) o r
include hu in
theorem ci_eq : CmpIs X T W .Eq (opEq false) := ⟨_, op_eqA hu, ok_eq⟩
include hu in
theorem ci_ne : CmpIs X T W .NotEq (opEq true) := ⟨_, op_neA hu, ok_ne⟩
include hu in
theorem ci_lt : CmpIs X T W .Lt opLt := ⟨_, op_ltA hu, ok_lt⟩
theorem ci_le : CmpIs X T W .LtE opLe := ⟨_, op_of0 op_le, ok_le⟩
theorem ci_gt : CmpIs X T W .Gt opGt := ⟨_, op_of0 op_gt, ok_gt⟩
theorem ci_ge : CmpIs X T W .GtE opGe := ⟨_, op_of0 op_ge, ok_ge⟩
theorem ci_is : CmpIs X T W .Is (opIs false) := ⟨_, op_isA, ok_is⟩
theorem ci_isnot : CmpIs X T W .IsNot (opIs true) := ⟨_, op_isnotA, ok_isnot⟩
theorem de_cmp {op : CmpOp} {o : Ev → Ev → Mem → R Ev} (ci : CmpIs X T W op o) (ha : PE X a (tE (cf X T W) f)) (hb : PE X b (tE (cf X T W) g)) (hm : behindInMarks op b = false := by exact nomark _) : PE X (.Compare a [op] [b] pos) (tE (cf X T W) (eBin o f g)) := by
  obtain ⟨r, h1, h2⟩ := ci.ex
  exact de_cmpR h1 h2 ha hb hm
theorem dt_cmp {op : CmpOp} {o : Ev → Ev → Mem → R Ev} (ci : CmpIs X T W op o) (ha : PE X a (tE (cf X T W) f)) (hb : PE X b (tE (cf X T W) g)) (hm : behindInMarks op b = false := by exact nomark _) : PT X (.Compare a [op] [b] pos) (tT (cf X T W) (tCmpE o f g)) := by
  obtain ⟨r, h1, h2⟩ := ci.ex
  exact dt_cmpR h1 h2 ha hb hm
/-! a op1 b op2 c -/
def eChain (o o' : Ev → Ev → Mem → R Ev) (f g h : Sm Ev) : Sm Ev := fun ρ M => bnd (f ρ M) fun a M1 => bnd (g ρ M1) fun b M2 => bnd (o a b M2) fun z M3 => match z with
  | .d (.bl true) => bnd (h ρ M3) fun c M4 => o' b c M4
  | .d (.bl false) => .ok (bv false) M3
  | _ => .stuck
theorem OpOk.bnd {C : Cf} {o : Ev → Ev → Mem → R Ev} {r : R2} (h2 : OpOk C o r) {H0 H : Hp} {A m : List Addr} {M : Mem} {ρ : Env} {σ : L2.St} {P : List Addr} {x y : Ev} {v w : V} {k : Ev → Mem → R Ev} {Q G : VK} (F : FR C H0 A m M H ρ σ P) (rx : EvR C.K H0 A m H x v) (ry : EvR C.K H0 A m H y w)
    (h : PX C m σ (EvR C.K H0 A m) H (bnd (o x y M) k) Q) (hk : ∀ z M1 H1 u, FR C H0 A m M1 H1 ρ σ P → Stp m H H1 → EvR C.K H0 A m H1 z u → PX C m σ (EvR C.K H0 A m) H1 (k z M1) Q → G u H1) : r v w H G := by
  refine h2 H0 A m M H ρ σ P x y v w G F rx ry ?_
  cases e : o x y M with
  | ok d M1 =>
    rw [e] at h
    exact fun H1 u s w t q => hk d M1 H1 u (F.step s w t) s q (PX.step s h)
  | exc c g M1 => rw [e] at h; exact h
  | stuck => rw [e] at h; exact h
theorem chain_run {op op' : CmpOp} {o o' : Ev → Ev → Mem → R Ev} {r r' : R2} (h2 : OpOk (cf X T W) o r) (h2' : OpOk (cf X T W) o' r') {σ : L2.St} {H : Hp} {Q : VK} (q : tE (cf X T W) (eChain o o' f g h) σ H Q) :
    tChain r r' (tE (cf X T W) f) (tE (cf X T W) g) (tE (cf X T W) h) σ H Q := by
  obtain ⟨H0, A, m, M, ρ, P, F, q⟩ := q
  refine sub F q fun x M1 H1 v F1 _ r1 q1 => ?_
  refine sub F1 q1 fun y M2 H2 w F2 s2 r2 q2 => ?_
  refine h2.bnd F2 (EvR.step F1.wr.aok F1.ma s2 r1) r2 q2 fun z M3 H3 u F3 s3 r3 q3 => ?_
  split at q3
  · refine ⟨true, r3, ?_⟩
    rw [if_pos rfl]
    refine sub F3 q3 fun c M4 H4 w' F4 s4 r4 q4 => ?_
    exact h2' H0 A m M4 H4 ρ σ P _ _ w w' Q F4 (EvR.step F3.wr.aok F3.ma s4 (EvR.step F2.wr.aok F2.ma s3 r2)) r4 q4
  · refine ⟨false, r3, ?_⟩
    rw [if_neg (by decide)]
    exact q3.fin F3 rfl
  · exact q3.elim
theorem de_chain {op op' : CmpOp} {o o' : Ev → Ev → Mem → R Ev} (ci : CmpIs X T W op o) (ci' : CmpIs X T W op' o') (ha : PE X a (tE (cf X T W) f)) (hb : PE X b (tE (cf X T W) g)) (hc : PE X c (tE (cf X T W) h))
    (hm : lastMarks [op, op'] [b, c] = false := by with_unfolding_all rfl) : PE X (.Compare a [op, op'] [b, c] pos) (tE (cf X T W) (eChain o o' f g h)) := by
  obtain ⟨r, h1, h2⟩ := ci.ex
  obtain ⟨r', h1', h2'⟩ := ci'.ex
  exact ⟨fun pins s σ H Q I q => (pe_chain h1 h1' ha hb hc hm).run pins s σ H Q I (chain_run (op := op) (op' := op') h2 h2' q)⟩
def tChainE (o o' : Ev → Ev → Mem → R Ev) (f g h : Sm Ev) : Sm Bool := fun ρ M => asB (eChain o o' f g h ρ M)
theorem dt_chain {op op' : CmpOp} {o o' : Ev → Ev → Mem → R Ev} (ci : CmpIs X T W op o) (ci' : CmpIs X T W op' o') (ha : PE X a (tE (cf X T W) f)) (hb : PE X b (tE (cf X T W) g)) (hc : PE X c (tE (cf X T W) h))
    (hm : lastMarks [op, op'] [b, c] = false := by with_unfolding_all rfl) : PT X (.Compare a [op, op'] [b, c] pos) (tT (cf X T W) (tChainE o o' f g h)) := by
  obtain ⟨r, h1, h2⟩ := ci.ex
  obtain ⟨r', h1', h2'⟩ := ci'.ex
  refine ⟨fun pins s σ H Q I q => (pt_chain h1 h1' ha hb hc hm).run pins s σ H Q I ?_⟩
  obtain ⟨H0, A, m, M, ρ, P, F, q⟩ := q
  exact chain_run (op := op) (op' := op') h2 h2' (asB_run F q)
/-! ### truth -/
def truth : Ev → Option Bool
  | .d .non => some false
  | .d (.bl b) => some b
  | .d (.int i) => some (i != 0)
  | .d (.str s) => if s.length ≤ most then some ((s.length : Int) != 0) else none
  | .d (.tup l) => some (!l.isEmpty)
  | .d (.lst l) => some (!l.isEmpty)
  | .ls .own _ => none
  | .ls _ l => some (!l.isEmpty)
  | .d (.dK _ l) => some (!l.isEmpty)
  | _ => none
theorem Rps.emp {K : PySem.W.Frag} {A m : List Addr} {H : Hp} : ∀ {l : List D} {vs : List V}, Rps K A m H l vs → l.isEmpty = vs.isEmpty
  | [], _, h => by cases (show _ = [] from h); rfl
  | _ :: _, _, ⟨_, _, e, _⟩ => by cases e; rfl
theorem truth_rel {K : PySem.W.Frag} {H0 H : Hp} {A m : List Addr} {x : Ev} {v : V} {k : Bool} (e : truth x = some k) (r : EvR K H0 A m H x v) : TruV K v H k := by
  unfold truth at e
  split at e
  · cases e; cases (show v = V.non from r); rfl
  · cases e; cases (show v = V.bl k from r); rfl
  · cases e; rename_i i; cases (show v = V.int i from r); rfl
  · rename_i s
    split at e
    · rename_i hc; cases e; cases (show v = V.str s from r); exact ⟨most_line hc, rfl⟩
    · cases e
  · cases e; obtain ⟨a, vs, e, hs, q⟩ := r; cases e; exact .inr (.inl ⟨vs, SqT.of hs, by rw [Rps.emp q]⟩)
  · cases e; obtain ⟨a, vs, e, hs, _, q⟩ := r; cases e; exact .inl ⟨vs, SqL.of hs, by rw [Rps.emp q]⟩
  · cases e
  · rename_i md l hmd
    cases e
    cases md with
    | vw => obtain ⟨a, vs, e, hs, _, _, q⟩ := r; cases e; exact .inl ⟨vs, SqL.of hs, by rw [Rps.emp q]⟩
    | pv => obtain ⟨a, vs, e, hs, _, _, q⟩ := r; cases e; exact .inl ⟨vs, SqL.of hs, by rw [Rps.emp q]⟩
    | own => exact r.elim
  · cases e; obtain ⟨a, kvs, e, hs, _, _, q⟩ := r; cases e
    refine .inr (.inr ⟨kvs, hs, ?_⟩)
    rw [Rps.emp q]; cases kvs <;> rfl
  · cases e
def truB (r : R Ev) : R Bool := bnd r fun x M => match truth x with
  | some b => .ok b M
  | none => .stuck
def tTru (f : Sm Ev) : Sm Bool := fun ρ M => truB (f ρ M)
theorem dt_val (ha : PE X a (tE (cf X T W) f)) (he : ∀ whole, isTrue a X.env whole = (do let v ← whole; standAt a.pos; holding [v] (truthy v)) := by intro _; rfl) : PT X a (tT (cf X T W) (tTru f)) := by
  refine ⟨fun pins s σ H Q I q => (pt_truth ha he).run pins s σ H Q I ?_⟩
  obtain ⟨H0, A, m, M, ρ, P, F, q⟩ := q
  refine sub F q fun x M1 H1 v F1 _ r1 q1 => ?_
  split at q1
  · rename_i k hk; exact ⟨k, truth_rel hk r1, q1.fin F1 rfl⟩
  · exact q1.elim
/-! ### tests put together -/
variable {tf tg : Sm Bool} {rest : List Expr}
def bAnd (f g : Sm Bool) : Sm Bool := fun ρ M => bnd (f ρ M) fun b M1 => if b = true then g ρ M1 else .ok false M1
def bOr (f g : Sm Bool) : Sm Bool := fun ρ M => bnd (f ρ M) fun b M1 => if b = true then .ok true M1 else g ρ M1
def bNot (f : Sm Bool) : Sm Bool := fun ρ M => bnd (f ρ M) fun b M1 => .ok (!b) M1
theorem dw_and1 (ha : PT X a (tT (cf X T W) tf)) : PW X (.BoolOp .And [a] pos) (tT (cf X T W) tf) := pw_and1 ha
theorem dw_or1 (ha : PT X a (tT (cf X T W) tf)) : PW X (.BoolOp .Or [a] pos) (tT (cf X T W) tf) := pw_or1 ha
theorem dw_and (ha : PT X a (tT (cf X T W) tf)) (hb : PW X (.BoolOp .And (b :: rest) pos) (tT (cf X T W) tg)) : PW X (.BoolOp .And (a :: b :: rest) pos) (tT (cf X T W) (bAnd tf tg)) := by
  refine ⟨fun wh pins s σ H Q I q => (pw_and ha hb).run wh pins s σ H Q I ?_⟩
  obtain ⟨H0, A, m, M, ρ, P, F, q⟩ := q
  refine sub F q fun x M1 H1 v F1 _ r1 q1 => ?_
  cases (show x = v from r1)
  cases x with
  | true => exact ⟨H0, A, m, M1, ρ, P, F1, q1⟩
  | false => exact q1.fin F1 rfl
theorem dw_or (ha : PT X a (tT (cf X T W) tf)) (hb : PW X (.BoolOp .Or (b :: rest) pos) (tT (cf X T W) tg)) : PW X (.BoolOp .Or (a :: b :: rest) pos) (tT (cf X T W) (bOr tf tg)) := by
  refine ⟨fun wh pins s σ H Q I q => (pw_or ha hb).run wh pins s σ H Q I ?_⟩
  obtain ⟨H0, A, m, M, ρ, P, F, q⟩ := q
  refine sub F q fun x M1 H1 v F1 _ r1 q1 => ?_
  cases (show x = v from r1)
  cases x with
  | true => exact q1.fin F1 rfl
  | false => exact ⟨H0, A, m, M1, ρ, P, F1, q1⟩
theorem dt_not (ha : PT X a (tT (cf X T W) tf)) : PT X (.UnaryOp .Not a pos) (tT (cf X T W) (bNot tf)) := by
  refine ⟨fun pins s σ H Q I q => (pt_not ha).run pins s σ H Q I ?_⟩
  obtain ⟨H0, A, m, M, ρ, P, F, q⟩ := q
  refine sub F q fun x M1 H1 v F1 _ r1 q1 => ?_
  cases (show x = v from r1)
  exact q1.fin F1 rfl
/-! and, or, not as values -/
def eAnd (f g : Sm Ev) : Sm Ev := fun ρ M => bnd (f ρ M) fun x M1 => match truth x with
  | some true => g ρ M1
  | some false => .ok x M1
  | none => .stuck
def eOr (f g : Sm Ev) : Sm Ev := fun ρ M => bnd (f ρ M) fun x M1 => match truth x with
  | some true => .ok x M1
  | some false => g ρ M1
  | none => .stuck
def eNot (f : Sm Ev) : Sm Ev := fun ρ M => bnd (f ρ M) fun x M1 => match truth x with
  | some b => .ok (bv (!b)) M1
  | none => .stuck
theorem de_one {op} (h : PE X a (tE (cf X T W) f)) : PE X (.BoolOp op [a] pos) (tE (cf X T W) f) := pe_one h
theorem de_and (ha : PE X a (tE (cf X T W) f)) (hb : PE X (.BoolOp .And (b :: rest) pos) (tE (cf X T W) g)) : PE X (.BoolOp .And (a :: b :: rest) pos) (tE (cf X T W) (eAnd f g)) := by
  refine ⟨fun pins s σ H Q I q => (pe_andT ha hb).run pins s σ H Q I ?_⟩
  obtain ⟨H0, A, m, M, ρ, P, F, q⟩ := q
  refine sub F q fun x M1 H1 v F1 _ r1 q1 => ?_
  split at q1
  · rename_i hk; exact ⟨true, truth_rel hk r1, by rw [if_pos rfl]; exact ⟨H0, A, m, M1, ρ, P, F1, q1⟩⟩
  · rename_i hk; exact ⟨false, truth_rel hk r1, by rw [if_neg (by decide)]; exact q1.fin F1 r1⟩
  · exact q1.elim
theorem de_or (ha : PE X a (tE (cf X T W) f)) (hb : PE X (.BoolOp .Or (b :: rest) pos) (tE (cf X T W) g)) : PE X (.BoolOp .Or (a :: b :: rest) pos) (tE (cf X T W) (eOr f g)) := by
  refine ⟨fun pins s σ H Q I q => (pe_orT ha hb).run pins s σ H Q I ?_⟩
  obtain ⟨H0, A, m, M, ρ, P, F, q⟩ := q
  refine sub F q fun x M1 H1 v F1 _ r1 q1 => ?_
  split at q1
  · rename_i hk; exact ⟨true, truth_rel hk r1, by rw [if_pos rfl]; exact q1.fin F1 r1⟩
  · rename_i hk; exact ⟨false, truth_rel hk r1, by rw [if_neg (by decide)]; exact ⟨H0, A, m, M1, ρ, P, F1, q1⟩⟩
  · exact q1.elim
theorem de_not (ha : PE X a (tE (cf X T W) f)) : PE X (.UnaryOp .Not a pos) (tE (cf X T W) (eNot f)) := by
  refine ⟨fun pins s σ H Q I q => (pe_notT ha).run pins s σ H Q I ?_⟩
  obtain ⟨H0, A, m, M, ρ, P, F, q⟩ := q
  refine sub F q fun x M1 H1 v F1 _ r1 q1 => ?_
  split at q1
  · rename_i k hk; exact ⟨k, truth_rel hk r1, q1.fin F1 rfl⟩
  · exact q1.elim
/-- a if t else b -/
def eIf (t : Sm Bool) (f g : Sm Ev) : Sm Ev := fun ρ M => bnd (t ρ M) fun k M1 => if k = true then f ρ M1 else g ρ M1
theorem de_if (hc : PT X c (tT (cf X T W) tf)) (ha : PE X a (tE (cf X T W) f)) (hb : PE X b (tE (cf X T W) g)) : PE X (.IfExp c a b pos) (tE (cf X T W) (eIf tf f g)) := by
  refine ⟨fun pins s σ H Q I q => (pe_ifExp hc ha hb).run pins s σ H Q I ?_⟩
  obtain ⟨H0, A, m, M, ρ, P, F, q⟩ := q
  refine sub F q fun x M1 H1 v F1 _ r1 q1 => ?_
  cases (show x = v from r1)
  cases x with
  | true => exact ⟨H0, A, m, M1, ρ, P, F1, q1⟩
  | false => exact ⟨H0, A, m, M1, ρ, P, F1, q1⟩
end
end DL

set_option Elab.async false
set_option linter.all false
set_option maxRecDepth 100000
set_option maxHeartbeats 2000000
/-! The data layer: arguments, displays, calls of built-ins, subscripts, slices. -/
namespace DL
open PySem PySem.Spec PyProof.Rows L2
abbrev EvL (K : PySem.W.Frag) (H0 : Hp) (A m : List Addr) (H : Hp) (xs : List Ev) (vs : List V) : Prop := Paired (EvR K H0 A m H) xs vs
section
variable {K : PySem.W.Frag} {H0 H H' : Hp} {A m : List Addr}
theorem EvL.step (ok : AOk m H) (hA : ∀ a ∈ m, a ∈ A) (s : Stp m H H') {xs : List Ev} {vs : List V} (h : EvL K H0 A m H xs vs) : EvL K H0 A m H' xs vs := Paired.mapP h fun _ _ r => EvR.step ok hA s r
/-- plain data all -/
def datas : List Ev → Option (List D)
  | [] => some []
  | .d x :: r => (datas r).map (x :: ·)
  | _ => none
theorem datas_at : ∀ {xs : List Ev} {vs : List V} {l : List D}, datas xs = some l → EvL K H0 A m H xs vs → Rps K A m H l vs
  | [], _, _, h, r => by cases h; cases r; rfl
  | .d x :: xs, _, l, h, r => by
    cases r with
    | cons r1 r2 =>
      unfold datas at h
      cases e : datas xs with
      | none => rw [e] at h; cases h
      | some q => rw [e] at h; cases h; exact ⟨_, _, rfl, r1, datas_at e r2⟩
  | .ls _ _ :: _, _, _, h, _ => by cases h
  | .rw _ _ :: _, _, _, h, _ => by cases h
  | .dk _ _ _ :: _, _, _, h, _ => by cases h
  | .dt _ _ _ :: _, _, _, h, _ => by cases h
end
section
variable {X : Cx} {T : List (Addr × Str)} {W : WX} {a b c e : Expr} {es : List Expr} {f g h : Sm Ev} {fs : Sm (List Ev)} {pos p : Pos} {x : Str}
def aNil : Sm (List Ev) := fun _ M => .ok [] M
def aCons (f : Sm Ev) (g : Sm (List Ev)) : Sm (List Ev) := fun ρ M => bnd (f ρ M) fun x M1 => bnd (g ρ M1) fun xs M2 => .ok (x :: xs) M2
theorem da_nil : PA X [] (tA (cf X T W) aNil) := by
  refine ⟨fun pos pins s σ H Q I q => pa_nil.run pos pins s σ H Q I ?_⟩
  obtain ⟨H0, A, m, M, ρ, P, F, q⟩ := q
  exact q.fin F .nil
theorem da_cons (ha : PE X e (tE (cf X T W) f)) (hr : PA X es (tA (cf X T W) fs)) (hs : starEach (e :: es) X.env = (false, eval e X.env) :: starEach es X.env := by rfl) : PA X (e :: es) (tA (cf X T W) (aCons f fs)) := by
  refine ⟨fun pos pins s σ H Q I q => (pa_cons ha hr hs).run pos pins s σ H Q I ?_⟩
  obtain ⟨H0, A, m, M, ρ, P, F, q⟩ := q
  refine sub F q fun x M1 H1 v F1 _ r1 q1 => ?_
  refine sub F1 q1 fun xs M2 H2 vs F2 s2 r2 q2 => ?_
  exact q2.fin F2 (.cons (EvR.step F1.wr.aok F1.ma s2 r1) r2)
/-! ### displays -/
def eTup (fs : Sm (List Ev)) : Sm Ev := fun ρ M => bnd (fs ρ M) fun xs M1 => match datas xs with
  | some l => if l.length ≤ most then .ok (.d (.tup l)) M1 else .stuck
  | none => .stuck
def eLst (fs : Sm (List Ev)) : Sm Ev := fun ρ M => bnd (fs ρ M) fun xs M1 => match datas xs with
  | some l => if l.length ≤ most then .ok (.d (.lst l)) M1 else .stuck
  | none => .stuck
theorem de_tup {k} (ha : PA X es (tA (cf X T W) fs)) : PE X (.Tuple es k pos) (tE (cf X T W) (eTup fs)) := by
  refine ⟨fun pins s σ H Q I q => (pe_tup ha).run pins s σ H Q I ?_⟩
  obtain ⟨H0, A, m, M, ρ, P, F, q⟩ := q
  refine sub F q fun xs M1 H1 vs F1 _ r1 q1 => ?_
  split at q1
  · rename_i l hl
    have r := datas_at hl r1
    split at q1
    · rename_i hc
      exact ⟨by rw [Rps.len r]; exact most_line hc, fun p hp => q1.made F1 hp (newT (C := cf X T W) hp r)⟩
    · exact q1.elim
  · exact q1.elim
theorem de_lst (ha : PA X es (tA (cf X T W) fs)) : PE X (.List es pos) (tE (cf X T W) (eLst fs)) := by
  refine ⟨fun pins s σ H Q I q => (pe_lst ha).run pins s σ H Q I ?_⟩
  obtain ⟨H0, A, m, M, ρ, P, F, q⟩ := q
  refine sub F q fun xs M1 H1 vs F1 _ r1 q1 => ?_
  split at q1
  · rename_i l hl
    have r := datas_at hl r1
    split at q1
    · rename_i hc
      exact ⟨by rw [Rps.len r]; exact most_line hc, fun p hp => q1.made F1 hp (newL F1 hp r)⟩
    · exact q1.elim
  · exact q1.elim
/-! ### built-ins by their names -/
def BOk (C : Cf) (op : List Ev → Mem → R Ev) (r : List V → Hp → VK → Prop) : Prop := ∀ H0 A m M H ρ σ P xs vs Q, FR C H0 A m M H ρ σ P → EvL C.K H0 A m H xs vs → PX C m σ (EvR C.K H0 A m) H (op xs M) Q → r vs H Q
def eB (op : List Ev → Mem → R Ev) (fs : Sm (List Ev)) : Sm Ev := fun ρ M => bnd (fs ρ M) fun xs M1 => op xs M1
/-- a built-in function -/
structure BIs (X : Cx) (T : List (Addr × Str)) (W : WX) (v : Value) (op : List Ev → Mem → R Ev) : Prop where
  ex : ∃ r, CallR X v r ∧ BOk (cf X T W) op r
theorem tE_B {op : List Ev → Mem → R Ev} {r : List V → Hp → VK → Prop} {σ : L2.St} {H : Hp} {Q : VK} (ho : BOk (cf X T W) op r) (q : tE (cf X T W) (eB op fs) σ H Q) : tCB r (tA (cf X T W) fs) σ H Q := by
  obtain ⟨H0, A, m, M, ρ, P, F, q⟩ := q
  refine sub F q fun xs M1 H1 vs F1 _ r1 q1 => ?_
  exact ho H0 A m M1 H1 ρ σ P xs vs Q F1 r1 q1
theorem de_B {id : String} {op : List Ev → Mem → R Ev} (bi : BIs X T W (.builtin id) op) (hg : Gl X x) (hm : X.mg x = none) (hv : bootBuiltins x = some (.builtin id)) (ha : PA X (e :: es) (tA (cf X T W) fs)) (hn : x ≠ "__name__" := by decide) (hdb : (x == ("__debug__" : Str)) = false := by decide)
    (he : starEach (e :: es) X.env = (false, eval e X.env) :: starEach es X.env := by rfl) (hpl : (backTo pos (starEach es X.env)).any (·.1) = false := by rfl) : PE X (.Call (.Name x p) (e :: es) [] pos) (tE (cf X T W) (eB op fs)) := by
  obtain ⟨r, h1, h2⟩ := bi.ex
  exact ⟨fun pins s σ H Q I q => (pe_callB h1 hg hm hv ha hn hdb he hpl).run pins s σ H Q I (tE_B h2 q)⟩
theorem de_BT {n : String} {op : List Ev → Mem → R Ev} (bi : BIs X T W (.type n) op) (hg : Gl X x) (hm : X.mg x = none) (hv : bootBuiltins x = some (.type n)) (ha : PA X (e :: es) (tA (cf X T W) fs)) (hn : x ≠ "__name__" := by decide) (hdb : (x == ("__debug__" : Str)) = false := by decide)
    (he : starEach (e :: es) X.env = (false, eval e X.env) :: starEach es X.env := by rfl) (hpl : (backTo pos (starEach es X.env)).any (·.1) = false := by rfl) : PE X (.Call (.Name x p) (e :: es) [] pos) (tE (cf X T W) (eB op fs)) := by
  obtain ⟨r, h1, h2⟩ := bi.ex
  exact ⟨fun pins s σ H Q I q => (pe_callTy h1 hg hm hv ha hn hdb he hpl).run pins s σ H Q I (tE_B h2 q)⟩
/-- len -/
theorem FR.obj {C : Cf} {H0 H : Hp} {A m : List Addr} {M : Mem} {ρ : Env} {σ : L2.St} {P : List Addr} (F : FR C H0 A m M H ρ σ P) {n : Nat} {l : List D} {v : V} (hM : M[n]? = some (.lst l)) (r : Rp C.K A m H (.ob n) v) :
    ∃ a vs, v = .ref a ∧ m[n]? = some a ∧ H a = some (.lst vs) ∧ Rps C.K A m H l vs := by
  obtain ⟨a, e, rfl⟩ := r
  obtain ⟨vs, h1, h2, h3⟩ := F.wr.ok n a _ e hM
  exact ⟨a, vs, rfl, e, h1, Rps.bare _ _ h2 h3⟩
def bLen (xs : List Ev) (M : Mem) : R Ev := match xs with
  | [.d (.ob n)] => match M[n]? with
    | some (.lst l) => .ok (iv l.length) M
    | none => .stuck
  | [.d (.str s)] => if s.length ≤ most then .ok (iv s.length) M else .stuck
  | [.rw .vw rows] => .ok (iv rows.length) M
  | [.d (.dK _ l)] => .ok (iv l.length) M
  | [.dk .vw _ l] => .ok (iv l.length) M
  | [.dk .pv _ l] => .ok (iv l.length) M
  | [x] => match seqOf x with
    | some l => .ok (iv l.length) M
    | none => .stuck
  | _ => .stuck
def rLenA (K : PySem.W.Frag) : List V → Hp → VK → Prop := fun xs H Q => (∃ x n, xs = [x] ∧ LenV K x H n ∧ Q (.int n) H) ∨ ∃ p kvs, xs = [V.ref p] ∧ H p = some (.dK kvs) ∧ Q (.int kvs.length) H
theorem Paired.one {α β : Type} {G : α → β → Prop} {x : α} {vs : List β} (h : Paired G [x] vs) : ∃ v, vs = [v] ∧ G x v := by
  cases h with
  | cons a b => cases b; exact ⟨_, rfl, a⟩
theorem Paired.two {α β : Type} {G : α → β → Prop} {x y : α} {vs : List β} (h : Paired G [x, y] vs) : ∃ v w, vs = [v, w] ∧ G x v ∧ G y w := by
  cases h with
  | cons a b => cases b with
    | cons c d => cases d; exact ⟨_, _, rfl, a, c⟩
theorem call_lenA : CallR X (.builtin "len") (rLenA X.K) := by
  intro pins s σ H xs us Q I r h
  rcases h with h | ⟨p, kvs, rfl, hk, q⟩
  · exact call_len pins s σ H xs us Q I r h
  · obtain ⟨u, rfl, ru⟩ := vals1 r
    cases ru
    exact d_len I (.inl hk) fun t s' I' => ⟨.int _, H, I', ⟨_, rfl⟩, q⟩
theorem bi_len : BIs X T W (.builtin "len") bLen := by
  refine ⟨_, call_lenA, ?_⟩
  intro H0 A m M H ρ σ P xs vs Q F ra h
  unfold bLen at h
  split at h
  · rename_i n
    obtain ⟨v, rfl, r⟩ := Paired.one ra
    split at h
    · rename_i l hM
      obtain ⟨a, vs, e, _, hs, q⟩ := F.obj hM r
      exact .inl ⟨v, l.length, rfl, by rw [e]; exact .inl ⟨vs, SqL.of hs, (Rps.len q).symm⟩, h.fin F rfl⟩
    · exact h.elim
  · rename_i s
    obtain ⟨v, rfl, r⟩ := Paired.one ra
    split at h
    · rename_i hc
      exact .inl ⟨v, s.length, rfl, by rw [show v = V.str s from r]; exact ⟨most_line hc, rfl⟩, h.fin F rfl⟩
    · exact h.elim
  · rename_i rows
    obtain ⟨v, rfl, r⟩ := Paired.one ra
    obtain ⟨a, vs, e, hs, _, _, q⟩ := r
    refine .inl ⟨v, rows.length, rfl, by rw [e]; exact .inl ⟨vs, SqL.of hs, Paired.length q⟩, h.fin F rfl⟩
  · rename_i ks l
    obtain ⟨v, rfl, r⟩ := Paired.one ra
    obtain ⟨a, kvs, e, hs, _, _, q⟩ := r
    refine .inr ⟨a, kvs, by rw [e], hs, ?_⟩
    have e2 : kvs.length = l.length := by have := Rps.len q; simpa using this
    rw [e2]; exact h.fin F rfl
  · rename_i ks l
    obtain ⟨v, rfl, r⟩ := Paired.one ra
    obtain ⟨a, kvs, e, hs, _, _, _, q⟩ := r
    refine .inr ⟨a, kvs, by rw [e], hs, ?_⟩
    have e2 : kvs.length = l.length := by have := Rps.len q; simpa using this
    rw [e2]; exact h.fin F rfl
  · rename_i ks l
    obtain ⟨v, rfl, r⟩ := Paired.one ra
    obtain ⟨a, kvs, e, hs, _, _, _, q⟩ := r
    refine .inr ⟨a, kvs, by rw [e], hs, ?_⟩
    have e2 : kvs.length = l.length := by have := Rps.len q; simpa using this
    rw [e2]; exact h.fin F rfl
  · rename_i x _ _ _ _ _ _
    obtain ⟨v, rfl, r⟩ := Paired.one ra
    split at h
    · rename_i l hl
      obtain ⟨a, vs, e, hs, q⟩ := seqOf_at hl r
      refine .inl ⟨v, l.length, rfl, ?_, h.fin F rfl⟩
      rw [e]
      rcases hs with hs | hs
      · exact .inl ⟨vs, hs, (Rps.len q).symm⟩
      · exact .inr ⟨vs, hs, (Rps.len q).symm⟩
    · exact h.elim
  · exact h.elim
/-- abs, int, bool of an int -/
def bAbs (xs : List Ev) (M : Mem) : R Ev := match xs with
  | [.d (.int i)] => .ok (iv (if i < 0 then -i else i)) M
  | _ => .stuck
theorem bi_abs : BIs X T W (.builtin "abs") bAbs := by
  refine ⟨_, call_abs, ?_⟩
  intro H0 A m M H ρ σ P xs vs Q F ra h
  unfold bAbs at h
  split at h
  · rename_i i
    obtain ⟨v, rfl, r⟩ := Paired.one ra
    exact ⟨i, by rw [show v = V.int i from r], h.fin F rfl⟩
  · exact h.elim
def bInt (xs : List Ev) (M : Mem) : R Ev := match xs with
  | [.d (.int i)] => .ok (iv i) M
  | [.d (.bl b)] => .ok (iv (if b then 1 else 0)) M
  | _ => .stuck
theorem bi_int : BIs X T W (.type "int") bInt := by
  refine ⟨_, call_int1, ?_⟩
  intro H0 A m M H ρ σ P xs vs Q F ra h
  unfold bInt at h
  split at h
  · rename_i i
    obtain ⟨v, rfl, r⟩ := Paired.one ra
    exact .inl ⟨i, by rw [show v = V.int i from r], h.fin F rfl⟩
  · rename_i i
    obtain ⟨v, rfl, r⟩ := Paired.one ra
    exact .inr ⟨i, by rw [show v = V.bl i from r], h.fin F rfl⟩
  · exact h.elim
/-- the greatest, the least of two, of a list -/
def maxL : List Int → Int
  | [] => 0
  | [x] => x
  | x :: r => if x < maxL r then maxL r else x
def minL : List Int → Int
  | [] => 0
  | [x] => x
  | x :: r => if minL r < x then minL r else x
theorem maxL_is : ∀ {ns : List Int}, 0 < ns.length → maxL ns ∈ ns ∧ ∀ y ∈ ns, y ≤ maxL ns
  | [x], _ => ⟨List.mem_cons_self, fun y hy => by rw [List.mem_singleton.mp hy]; exact Int.le_refl _⟩
  | x :: y :: r, _ => by
    have ih := maxL_is (ns := y :: r) (by simp)
    have e : maxL (x :: y :: r) = if x < maxL (y :: r) then maxL (y :: r) else x := rfl
    rw [e]
    by_cases hc : x < maxL (y :: r)
    · rw [if_pos hc]
      refine ⟨List.mem_cons_of_mem _ ih.1, fun z hz => ?_⟩
      rcases List.mem_cons.mp hz with rfl | hz
      · exact Int.le_of_lt hc
      · exact ih.2 z hz
    · rw [if_neg hc]
      refine ⟨List.mem_cons_self, fun z hz => ?_⟩
      rcases List.mem_cons.mp hz with rfl | hz
      · exact Int.le_refl _
      · have := ih.2 z hz; omega
theorem minL_is : ∀ {ns : List Int}, 0 < ns.length → minL ns ∈ ns ∧ ∀ y ∈ ns, minL ns ≤ y
  | [x], _ => ⟨List.mem_cons_self, fun y hy => by rw [List.mem_singleton.mp hy]; exact Int.le_refl _⟩
  | x :: y :: r, _ => by
    have ih := minL_is (ns := y :: r) (by simp)
    have e : minL (x :: y :: r) = if minL (y :: r) < x then minL (y :: r) else x := rfl
    rw [e]
    by_cases hc : minL (y :: r) < x
    · rw [if_pos hc]
      refine ⟨List.mem_cons_of_mem _ ih.1, fun z hz => ?_⟩
      rcases List.mem_cons.mp hz with rfl | hz
      · exact Int.le_of_lt hc
      · exact ih.2 z hz
    · rw [if_neg hc]
      refine ⟨List.mem_cons_self, fun z hz => ?_⟩
      rcases List.mem_cons.mp hz with rfl | hz
      · exact Int.le_refl _
      · have := ih.2 z hz; omega
def intsOf (x : Ev) : Option (List Int) := (lstOf x).bind toInts
theorem intsOf_at {K : PySem.W.Frag} {H0 H : Hp} {A m : List Addr} {x : Ev} {v : V} {ns : List Int} (h : intsOf x = some ns) (r : EvR K H0 A m H x v) : ∃ a, v = .ref a ∧ H a = some (.lst (ns.map V.int)) := by
  unfold intsOf at h
  cases e : lstOf x with
  | none => rw [e] at h; cases h
  | some l =>
    rw [e] at h
    obtain ⟨a, vs, ev, hs, q⟩ := lstOf_at e r
    have el := toInts_map (show toInts l = some ns from h)
    subst el
    exact ⟨a, ev, by rw [hs, Rps.ints q]⟩
def bMax (xs : List Ev) (M : Mem) : R Ev := match xs with
  | [.d (.int i), .d (.int j)] => .ok (iv (if j > i then j else i)) M
  | [x] => match intsOf x with
    | some (n :: ns) => .ok (iv (maxL (n :: ns))) M
    | _ => .stuck
  | _ => .stuck
theorem bi_max (hc : X.calm = true) : BIs X T W (.builtin "max") bMax := by
  refine ⟨_, (call_max2 hc).or (cr_max hc), ?_⟩
  intro H0 A m M H ρ σ P xs vs Q F ra h
  unfold bMax at h
  split at h
  · rename_i i j
    obtain ⟨v, w, rfl, r1, r2⟩ := Paired.two ra
    exact .inl ⟨i, j, by rw [show v = V.int i from r1, show w = V.int j from r2], h.fin F rfl⟩
  · rename_i x
    obtain ⟨v, rfl, r⟩ := Paired.one ra
    split at h
    · rename_i n ns hl
      obtain ⟨a, e, hs⟩ := intsOf_at hl r
      refine .inr ⟨a, n :: ns, by rw [e], SqL.of hs, by simp, fun k h1 h2 => ?_⟩
      have q := maxL_is (ns := n :: ns) (by simp)
      have e : k = maxL (n :: ns) := by have := h2 _ q.1; have := q.2 _ h1; omega
      rw [e]; exact h.fin F rfl
    · exact h.elim
  · exact h.elim
def bMin (xs : List Ev) (M : Mem) : R Ev := match xs with
  | [.d (.int i), .d (.int j)] => .ok (iv (if j < i then j else i)) M
  | [x] => match intsOf x with
    | some (n :: ns) => .ok (iv (minL (n :: ns))) M
    | _ => .stuck
  | _ => .stuck
theorem bi_min (hc : X.calm = true) : BIs X T W (.builtin "min") bMin := by
  refine ⟨_, (call_min2 hc).or (cr_min hc), ?_⟩
  intro H0 A m M H ρ σ P xs vs Q F ra h
  unfold bMin at h
  split at h
  · rename_i i j
    obtain ⟨v, w, rfl, r1, r2⟩ := Paired.two ra
    exact .inl ⟨i, j, by rw [show v = V.int i from r1, show w = V.int j from r2], h.fin F rfl⟩
  · rename_i x
    obtain ⟨v, rfl, r⟩ := Paired.one ra
    split at h
    · rename_i n ns hl
      obtain ⟨a, e, hs⟩ := intsOf_at hl r
      refine .inr ⟨a, n :: ns, by rw [e], SqL.of hs, by simp, fun k h1 h2 => ?_⟩
      have q := minL_is (ns := n :: ns) (by simp)
      have e : k = minL (n :: ns) := by have := h2 _ q.1; have := q.2 _ h1; omega
      rw [e]; exact h.fin F rfl
    · exact h.elim
  · exact h.elim
def bSum (xs : List Ev) (M : Mem) : R Ev := match xs with
  | [x] => match intsOf x with
    | some ns => .ok (iv ns.sum) M
    | _ => .stuck
  | _ => .stuck
theorem bi_sum (hc : X.calm = true) : BIs X T W (.builtin "sum") bSum := by
  refine ⟨_, cr_sum hc, ?_⟩
  intro H0 A m M H ρ σ P xs vs Q F ra h
  unfold bSum at h
  split at h
  · rename_i x
    obtain ⟨v, rfl, r⟩ := Paired.one ra
    split at h
    · rename_i ns hl
      obtain ⟨a, e, hs⟩ := intsOf_at hl r
      exact ⟨a, ns, by rw [e], SqL.of hs, h.fin F rfl⟩
    · exact h.elim
  · exact h.elim
/-- all, any of a list of truths -/
def toBls : List D → Option (List Bool)
  | [] => some []
  | .bl i :: l => (toBls l).map (i :: ·)
  | _ => none
theorem toBls_rps {K : PySem.W.Frag} {A m : List Addr} {H : Hp} : ∀ {l : List D} {bs : List Bool} {vs : List V}, toBls l = some bs → Rps K A m H l vs → vs = bs.map V.bl
  | [], _, _, h, r => by cases h; exact r
  | .bl i :: l, bs, _, h, ⟨v, r, e, h1, h2⟩ => by
    unfold toBls at h
    cases e2 : toBls l with
    | none => rw [e2] at h; cases h
    | some q => rw [e2] at h; cases h; rw [e, show v = V.bl i from h1, toBls_rps e2 h2]; rfl
  | .non :: _, _, _, h, _ => by cases h
  | .int _ :: _, _, _, h, _ => by cases h
  | .str _ :: _, _, _, h, _ => by cases h
  | .ty _ :: _, _, _, h, _ => by cases h
  | .at _ :: _, _, _, h, _ => by cases h
  | .ob _ :: _, _, _, h, _ => by cases h
  | .sc _ :: _, _, _, h, _ => by cases h
  | .tup _ :: _, _, _, h, _ => by cases h
  | .lst _ :: _, _, _, h, _ => by cases h
  | .dK _ _ :: _, _, _, h, _ => by cases h
  | .dT _ _ :: _, _, _, h, _ => by cases h
def blsOf (x : Ev) : Option (List Bool) := (lstOf x).bind toBls
theorem blsOf_at {K : PySem.W.Frag} {H0 H : Hp} {A m : List Addr} {x : Ev} {v : V} {ns : List Bool} (h : blsOf x = some ns) (r : EvR K H0 A m H x v) : ∃ a, v = .ref a ∧ H a = some (.lst (ns.map V.bl)) := by
  unfold blsOf at h
  cases e : lstOf x with
  | none => rw [e] at h; cases h
  | some l =>
    rw [e] at h
    obtain ⟨a, vs, ev, hs, q⟩ := lstOf_at e r
    exact ⟨a, ev, by rw [hs, toBls_rps (show toBls l = some ns from h) q]⟩
def bAll (xs : List Ev) (M : Mem) : R Ev := match xs with
  | [x] => match blsOf x with
    | some ns => .ok (bv (ns.all id)) M
    | _ => .stuck
  | _ => .stuck
def bAny (xs : List Ev) (M : Mem) : R Ev := match xs with
  | [x] => match blsOf x with
    | some ns => .ok (bv (ns.any id)) M
    | _ => .stuck
  | _ => .stuck
theorem bi_all (hc : X.calm = true) : BIs X T W (.builtin "all") bAll := by
  refine ⟨_, cr_all hc, ?_⟩
  intro H0 A m M H ρ σ P xs vs Q F ra h
  unfold bAll at h
  split at h
  · rename_i x
    obtain ⟨v, rfl, r⟩ := Paired.one ra
    split at h
    · rename_i ns hl
      obtain ⟨a, e, hs⟩ := blsOf_at hl r
      exact ⟨a, ns, by rw [e], SqL.of hs, h.fin F rfl⟩
    · exact h.elim
  · exact h.elim
theorem bi_any (hc : X.calm = true) : BIs X T W (.builtin "any") bAny := by
  refine ⟨_, cr_any hc, ?_⟩
  intro H0 A m M H ρ σ P xs vs Q F ra h
  unfold bAny at h
  split at h
  · rename_i x
    obtain ⟨v, rfl, r⟩ := Paired.one ra
    split at h
    · rename_i ns hl
      obtain ⟨a, e, hs⟩ := blsOf_at hl r
      exact ⟨a, ns, by rw [e], SqL.of hs, h.fin F rfl⟩
    · exact h.elim
  · exact h.elim
/-- tuple(x), list(x) of a list or a tuple -/
def bTup (xs : List Ev) (M : Mem) : R Ev := match xs with
  | [.d (.tup l)] => .ok (.d (.tup l)) M
  | [x] => match lstOf x with
    | some l => .ok (.d (.tup l)) M
    | none => .stuck
  | _ => .stuck
def bLst (xs : List Ev) (M : Mem) : R Ev := match xs with
  | [x] => match seqOf x with
    | some l => .ok (.d (.lst l)) M
    | none => .stuck
  | _ => .stuck
theorem bi_tup : BIs X T W (.type "tuple") bTup := by
  refine ⟨_, call_tuple_of, ?_⟩
  intro H0 A m M H ρ σ P xs vs Q F ra h
  unfold bTup at h
  split at h
  · obtain ⟨v, rfl, r⟩ := Paired.one ra
    obtain ⟨a, vs, e, hs, q⟩ := r
    exact ⟨a, vs, by rw [e], .inr ⟨SqT.of hs, h.fin F ⟨a, vs, rfl, hs, q⟩⟩⟩
  · rename_i x _
    obtain ⟨v, rfl, r⟩ := Paired.one ra
    split at h
    · rename_i l hl
      obtain ⟨a, vs, e, hs, q⟩ := lstOf_at hl r
      exact ⟨a, vs, by rw [e], .inl ⟨SqL.of hs, fun p hp => h.made F hp (newT (C := cf X T W) hp q)⟩⟩
    · exact h.elim
  · exact h.elim
theorem bi_lst : BIs X T W (.type "list") bLst := by
  refine ⟨_, call_list_of, ?_⟩
  intro H0 A m M H ρ σ P xs vs Q F ra h
  unfold bLst at h
  split at h
  · rename_i x
    obtain ⟨v, rfl, r⟩ := Paired.one ra
    split at h
    · rename_i l hl
      obtain ⟨a, vs, e, hs, q⟩ := seqOf_at hl r
      exact ⟨a, vs, by rw [e], hs, fun p hp => h.made F hp (newL F hp q)⟩
    · exact h.elim
  · exact h.elim
/-! ### isinstance -/
def tyN : Ev → Option String
  | .d .non => some "NoneType"
  | .d (.bl _) => some "bool"
  | .d (.int _) => some "int"
  | .d (.str _) => some "str"
  | .d (.tup _) => some "tuple"
  | .d (.lst _) => some "list"
  | .d (.dK _ _) => some "dict"
  | .ls .vw _ => some "list"
  | .ls .pv _ => some "list"
  | .rw .vw _ => some "list"
  | .dk .vw _ _ => some "dict"
  | .dk .pv _ _ => some "dict"
  | .dt .vw _ _ => some "dict"
  | .dt .pv _ _ => some "dict"
  | _ => none
def tyNs : List String := ["NoneType", "bool", "int", "str", "tuple", "list", "dict"]
def clNs : List String := ["bool", "int", "str", "tuple", "list", "dict"]
def isOf (a b : String) : Bool := a == b || (a == "bool" && b == "int")
theorem kit_all : ∀ a ∈ tyNs, ∀ b ∈ clNs, kitB a b = some (isOf a b) := by
  have h : (tyNs.all fun a => clNs.all fun b => decide (kitB a b = some (isOf a b))) = true := by decide +kernel
  intro a ha b hb
  have h1 := List.all_eq_true.mp h a ha
  exact of_decide_eq_true (List.all_eq_true.mp h1 b hb)
theorem tyN_mem {x : Ev} {a : String} (h : tyN x = some a) : a ∈ tyNs := by
  unfold tyN at h
  split at h <;> cases h <;> simp [tyNs]
theorem tyN_at {K : PySem.W.Frag} {H0 H : Hp} {A m : List Addr} {x : Ev} {v : V} {a : String} (h : tyN x = some a) (r : EvR K H0 A m H x v) : TyX K H v (.type a) := by
  unfold tyN at h
  split at h
  · cases h; cases (show v = V.non from r); exact .base .non
  · cases h; rename_i b; have e : v = V.bl b := r; subst e; exact .base (.bl _)
  · cases h; rename_i b; have e : v = V.int b := r; subst e; exact .base (.int _)
  · cases h; rename_i b; have e : v = V.str b := r; subst e; exact .base (.str _)
  · cases h
    obtain ⟨p, vs, e, hs, q⟩ := r
    subst e
    exact .base (.tup hs)
  · cases h; obtain ⟨p, vs, e, hs, q⟩ := r; subst e; exact .base (.lst hs)
  · cases h; obtain ⟨p, vs, e, hs, q⟩ := r; subst e; exact .base (.dK hs)
  · cases h; obtain ⟨p, vs, e, hs, q⟩ := r; subst e; exact .base (.lst hs)
  · cases h; obtain ⟨p, vs, e, hs, q⟩ := r; subst e; exact .base (.lst hs)
  · cases h; obtain ⟨p, vs, e, hs, q⟩ := r; subst e; exact .base (.lst hs)
  · cases h; obtain ⟨p, vs, e, hs, q⟩ := r; subst e; exact .base (.dK hs)
  · cases h; obtain ⟨p, vs, e, hs, q⟩ := r; subst e; exact .base (.dK hs)
  · cases h; obtain ⟨p, vs, e, hs, q⟩ := r; subst e; exact .base (.dT hs)
  · cases h; obtain ⟨p, vs, e, hs, q⟩ := r; subst e; exact .base (.dT hs)
  · cases h
def toTys : List D → Option (List String)
  | [] => some []
  | .ty n :: l => if n ∈ clNs then (toTys l).map (n :: ·) else none
  | _ => none
def bIsi (xs : List Ev) (M : Mem) : R Ev := match xs with
  | [x, .d (.ty b)] => match tyN x with
    | some a => if b ∈ clNs then .ok (bv (isOf a b)) M else .stuck
    | none => .stuck
  | [x, .d (.tup l)] => match tyN x, toTys l with
    | some a, some bs => .ok (bv (bs.any (isOf a))) M
    | _, _ => .stuck
  | _ => .stuck
theorem kitAny_of {K : PySem.W.Frag} {a : String} (ha : a ∈ tyNs) : ∀ {bs : List String}, (∀ b ∈ bs, b ∈ clNs) → PySem.W.kitAny K (.type a) (bs.map Value.type) = some (bs.any (isOf a))
  | [], _ => kitAny_nil
  | b :: bs, h => by
    have k := kit_ty (K := K) (kit_all a ha b (h b List.mem_cons_self))
    have ih := kitAny_of ha (K := K) (bs := bs) (fun c hc => h c (List.mem_cons_of_mem _ hc))
    refine kitAny_cons k (fun e => ?_) (fun e => ?_)
    · rw [ih, List.any_cons, e]; rfl
    · rw [List.any_cons, e]; rfl
theorem toTys_at {K : PySem.W.Frag} {A m : List Addr} {H : Hp} : ∀ {l : List D} {bs : List String} {vs : List V}, toTys l = some bs → Rps K A m H l vs → vs = bs.map V.ty ∧ ∀ b ∈ bs, b ∈ clNs
  | [], _, _, h, r => by cases h; exact ⟨r, by simp⟩
  | .ty n :: l, bs, _, h, ⟨v, r, e, h1, h2⟩ => by
    unfold toTys at h
    split at h
    · rename_i hn
      cases e2 : toTys l with
      | none => rw [e2] at h; cases h
      | some q =>
        rw [e2] at h; cases h
        have ih := toTys_at e2 h2
        refine ⟨by rw [e, show v = V.ty n from h1, ih.1]; rfl, fun b hb => ?_⟩
        rcases List.mem_cons.mp hb with rfl | hb
        · exact hn
        · exact ih.2 b hb
    · cases h
  | .non :: _, _, _, h, _ => by cases h
  | .int _ :: _, _, _, h, _ => by cases h
  | .str _ :: _, _, _, h, _ => by cases h
  | .bl _ :: _, _, _, h, _ => by cases h
  | .at _ :: _, _, _, h, _ => by cases h
  | .ob _ :: _, _, _, h, _ => by cases h
  | .sc _ :: _, _, _, h, _ => by cases h
  | .tup _ :: _, _, _, h, _ => by cases h
  | .lst _ :: _, _, _, h, _ => by cases h
  | .dK _ _ :: _, _, _, h, _ => by cases h
  | .dT _ _ :: _, _, _, h, _ => by cases h
theorem clsV_tys : ∀ (bs : List String), Paired ClsV (bs.map V.ty) (bs.map Value.type)
  | [] => .nil
  | b :: bs => .cons (.ty b) (clsV_tys bs)
/-- isinstance(x, (c1, c2)) -/
def rIsiTS (K : PySem.W.Frag) : List V → Hp → VK → Prop := fun xs H Q => ∃ (x : V) (tp : Addr) (cs : List String) (t : Value) (b : Bool), xs = [x, .ref tp] ∧ SqT K H tp (cs.map V.ty) ∧ TyX K H x t ∧ PySem.W.kitAny K t (cs.map Value.type) = some b ∧ Q (.bl b) H
theorem call_isiTS : CallR X (.builtin "isinstance") (rIsiTS X.K) := by
  intro pins s σ H xs us Q I r h
  obtain ⟨x, tp, cs, t, b, rfl, hT, ty, e, q⟩ := h
  obtain ⟨u1, u2, rfl, r1, r2⟩ := vals2 r
  cases (show u2 = Value.ref tp from r2)
  obtain ⟨P, Z, p, hx⟩ := kit_of I r1 ty
  obtain ⟨its, rv, ⟨o, h1, h2, n, h3⟩, _⟩ := I.tuple hT
  have e3 := ClsV.all (clsV_tys cs) rv
  subst e3
  obtain ⟨oc, od, dt, sl⟩ := o
  simp only at h2 h3
  subst h2 h3
  exact PySem.W.kia_tup Z I.kIn p h1 e hx fun tk => ⟨.bl b, H, I.tok tk, rfl, q⟩
theorem bi_isi : BIs X T W (.builtin "isinstance") bIsi := by
  refine ⟨_, call_isi.or call_isiTS, ?_⟩
  intro H0 A m M H ρ σ P xs vs Q F ra h
  unfold bIsi at h
  split at h
  · rename_i x b
    obtain ⟨v, w, rfl, r1, r2⟩ := Paired.two ra
    split at h
    · rename_i a ha
      split at h
      · rename_i hb
        exact .inl ⟨v, w, .type a, .type b, isOf a b, rfl, by rw [show w = V.ty b from r2]; exact .ty b, tyN_at ha r1, kit_ty (kit_all a (tyN_mem ha) b hb), h.fin F rfl⟩
      · exact h.elim
    · exact h.elim
  · rename_i x l
    obtain ⟨v, w, rfl, r1, r2⟩ := Paired.two ra
    split at h
    · rename_i a bs ha hb
      obtain ⟨p, vs, e, hs, q⟩ := r2
      have z := toTys_at hb q
      refine .inr ⟨v, p, bs, .type a, bs.any (isOf a), by rw [e], by rw [← z.1]; exact SqT.of hs, tyN_at ha r1, kitAny_of (tyN_mem ha) z.2, h.fin F rfl⟩
    · exact h.elim
  · exact h.elim
/-! ### subscripts -/
def ixOf (l : List D) (i : Int) : Option D := atI l i
theorem atI_rps {K : PySem.W.Frag} {A m : List Addr} {H : Hp} {l : List D} {vs : List V} {i : Int} {d : D} (r : Rps K A m H l vs) (h : atI l i = some d) : ∃ v, atI vs i = some v ∧ Rp K A m H d v := by
  unfold atI at h ⊢
  rw [Rps.len r]
  cases e : ixN l.length i with
  | none => rw [e] at h; cases h
  | some j =>
    rw [e] at h
    obtain ⟨v, e1, e2⟩ := Rps.get r (show l[j]? = some d from h)
    exact ⟨v, e1, e2⟩
theorem paired_at {α β : Type} {G : α → β → Prop} {l : List α} {vs : List β} {i : Int} {d : α} (r : Paired G l vs) (h : atI l i = some d) : ∃ v, atI vs i = some v ∧ G d v := by
  unfold atI at h ⊢
  rw [← Paired.length r]
  cases e : ixN l.length i with
  | none => rw [e] at h; cases h
  | some j =>
    rw [e] at h
    exact paired_get r (show l[j]? = some d from h)
/-- the place of a key, its value -/
def keyOf : D → Option Key
  | .int i => some (.inl i)
  | .str s => some (.inr s)
  | _ => none
def keysOf : List D → Option (List Key)
  | [] => some []
  | d :: l => match keyOf d, keysOf l with
    | some k, some r => some (k :: r)
    | _, _ => none
def vAt {κ : Type} [DecidableEq κ] : List κ → List D → κ → Option D
  | k :: ks, d :: l, j => if k = j then some d else vAt ks l j
  | _, _, _ => none
def opIx (a b : Ev) (M : Mem) : R Ev := match a, b with
  | .d (.ob n), .d (.int i) => match M[n]? with
    | some (.lst l) => match atI l i with
      | some d => .ok (.d d) M
      | none => .stuck
    | none => .stuck
  | .d (.str s), .d (.int i) => if s.length ≤ most then match atI s.cps.toList i with
    | some c => .ok (.d (.str ⟨#[c]⟩)) M
    | none => .stuck
    else .stuck
  | .rw .vw rows, .d (.int i) => match atI rows i with
    | some row => .ok (.ls .vw row) M
    | none => .stuck
  | a, .d (.int i) => match seqOf a with
    | some l => match atI l i with
      | some d => .ok (.d d) M
      | none => .stuck
    | none => .stuck
  | _, _ => .stuck
theorem ok_ix : OpOk (cf X T W) opIx (rIx X.K) := by
  intro H0 A m M H ρ σ P x y v w Q F rx ry h
  unfold opIx at h
  split at h
  · rename_i n i
    split at h
    · rename_i l hM
      split at h
      · rename_i d hi
        obtain ⟨a, vs, e, _, hs, q⟩ := F.obj hM rx
        obtain ⟨u, e1, e2⟩ := atI_rps q hi
        exact .inl ⟨a, vs, i, u, e, ry, SqL.of hs, e1, h.fin F e2⟩
      · exact h.elim
    · exact h.elim
  · rename_i s i
    split at h
    · rename_i hc
      split at h
      · rename_i c hi
        exact .inr (.inr ⟨s, i, c, rx, ry, most_line hc, hi, h.fin F rfl⟩)
      · exact h.elim
    · exact h.elim
  · rename_i rows i
    split at h
    · rename_i row hi
      obtain ⟨a, vs, e, hs, hm, h0, q⟩ := rx
      obtain ⟨u, e1, b, ws, e2, e3, e4, e5, e6⟩ := paired_at q hi
      exact .inl ⟨a, vs, i, u, e, ry, SqL.of hs, e1, h.fin F ⟨b, ws, e2, e3, e4, e5, e6⟩⟩
    · exact h.elim
  · rename_i i _ _ _
    split at h
    · rename_i l hl
      split at h
      · rename_i d hi
        obtain ⟨a, vs, e, hs, q⟩ := seqOf_at hl rx
        obtain ⟨u, e1, e2⟩ := atI_rps q hi
        rcases hs with hs | hs
        · exact .inl ⟨a, vs, i, u, e, ry, hs, e1, h.fin F e2⟩
        · exact .inr (.inl ⟨a, vs, i, u, e, ry, hs, e1, h.fin F e2⟩)
      · exact h.elim
    · exact h.elim
  · exact h.elim
theorem de_ix (ha : PE X a (tE (cf X T W) f)) (hb : PE X b (tE (cf X T W) g)) (hs : PlainIx b := by exact fun _ _ => rfl) : PE X (.Subscript a b pos) (tE (cf X T W) (eBin opIx f g)) :=
  ⟨fun pins s σ H Q I q => (pe_ix ix_seq ha hb hs).run pins s σ H Q I (tE_bin ok_ix q)⟩
/-! d[k] -/
def dval {κ : Type} [DecidableEq κ] (ks : List κ) (l : List D) (k : κ) (M : Mem) : R Ev := match vAt ks l k with
  | some d => .ok (.d d) M
  | none => .stuck
def opDix (a b : Ev) (M : Mem) : R Ev := match a, b with
  | .d (.dK ks l), .d x => match keyOf x with
    | some k => dval ks l k M
    | none => .stuck
  | .dk .vw ks l, .d x => match keyOf x with
    | some k => dval ks l k M
    | none => .stuck
  | .dk .pv ks l, .d x => match keyOf x with
    | some k => dval ks l k M
    | none => .stuck
  | .d (.dT ks l), .d (.tup x) => match keysOf x with
    | some k => dval ks l k M
    | none => .stuck
  | .dt .vw ks l, .d (.tup x) => match keysOf x with
    | some k => dval ks l k M
    | none => .stuck
  | .dt .pv ks l, .d (.tup x) => match keysOf x with
    | some k => dval ks l k M
    | none => .stuck
  | _, _ => .stuck
theorem keyOf_at {K : PySem.W.Frag} {A m : List Addr} {H : Hp} {d : D} {v : V} {k : Key} (h : keyOf d = some k) (r : Rp K A m H d v) : v = kV k := by
  unfold keyOf at h
  split at h
  · cases h; exact r
  · cases h; exact r
  · cases h
theorem keysOf_at {K : PySem.W.Frag} {A m : List Addr} {H : Hp} : ∀ {l : List D} {vs : List V} {ks : List Key}, keysOf l = some ks → Rps K A m H l vs → vs = ks.map kV
  | [], _, _, h, r => by cases h; exact r
  | d :: l, _, _, h, ⟨v, r, e, h1, h2⟩ => by
    unfold keysOf at h
    split at h
    · rename_i k q e1 e2
      cases h
      rw [e, keyOf_at e1 h1, keysOf_at e2 h2]; rfl
    · cases h
theorem vAt_val {κ : Type} [DecidableEq κ] {K : PySem.W.Frag} {A m : List Addr} {H : Hp} {k : κ} {d : D} : ∀ {kvs : List (κ × V)} {l : List D}, vAt (kvs.map (·.1)) l k = some d → Rps K A m H l (kvs.map (·.2)) → ∃ v, valV kvs k = some v ∧ Rp K A m H d v
  | [], l, h, _ => by cases l <;> cases h
  | p :: kvs, [], h, _ => by cases h
  | p :: kvs, x :: l, h, ⟨v, r, e, h1, h2⟩ => by
    rw [List.map_cons] at e
    cases e
    rw [List.map_cons] at h
    unfold vAt at h
    split at h
    · rename_i hk
      cases h
      exact ⟨p.2, valV_pos hk, h1⟩
    · rename_i hk
      rw [valV_neg hk]
      exact vAt_val h h2
theorem vAt_none {κ : Type} [DecidableEq κ] {K : PySem.W.Frag} {A m : List Addr} {H : Hp} {k : κ} : ∀ {kvs : List (κ × V)} {l : List D}, vAt (kvs.map (·.1)) l k = none → Rps K A m H l (kvs.map (·.2)) → valV kvs k = none
  | [], l, h, _ => valV_nil
  | p :: kvs, [], h, r => by cases (show _ = [] from r)
  | p :: kvs, x :: l, h, ⟨v, r, e, h1, h2⟩ => by
    rw [List.map_cons] at e
    cases e
    rw [List.map_cons] at h
    unfold vAt at h
    split at h
    · cases h
    · rename_i hk
      rw [valV_neg hk]
      exact vAt_none h h2
def OptR (K : PySem.W.Frag) (A m : List Addr) (H : Hp) (o : Option D) (u : Option V) : Prop := match o with
  | some d => ∃ v, u = some v ∧ Rp K A m H d v
  | none => u = none
/-- what a dict has at a key, in the heap -/
def dictIx (a b : Ev) : Option (Option D) := match a, b with
  | .d (.dK ks l), .d x => (keyOf x).map (vAt ks l)
  | .dk .vw ks l, .d x => (keyOf x).map (vAt ks l)
  | .dk .pv ks l, .d x => (keyOf x).map (vAt ks l)
  | .d (.dT ks l), .d (.tup x) => (keysOf x).map (vAt ks l)
  | .dt .vw ks l, .d (.tup x) => (keysOf x).map (vAt ks l)
  | .dt .pv ks l, .d (.tup x) => (keysOf x).map (vAt ks l)
  | _, _ => none
theorem dict_k {K : PySem.W.Frag} {A m : List Addr} {H : Hp} {a : Addr} {kvs : List (Key × V)} {l : List D} {x : D} {w : V} {o : Option D} (hs : H a = some (.dK kvs)) (q : Rps K A m H l (kvs.map (·.2))) (r : Rp K A m H x w)
    (h : (keyOf x).map (vAt (kvs.map (·.1)) l) = some o) : ∃ u, DGet H a w u ∧ OptR K A m H o u := by
  cases e : keyOf x with
  | none => rw [e] at h; cases h
  | some k =>
    rw [e] at h
    have ew := keyOf_at e r
    subst ew
    refine ⟨valV kvs k, .k hs, ?_⟩
    have eo : vAt (kvs.map (·.1)) l k = o := by simpa using h
    cases o with
    | some d => exact vAt_val eo q
    | none => exact vAt_none eo q
theorem dict_t {K : PySem.W.Frag} {A m : List Addr} {H : Hp} {a : Addr} {kvs : List (List Key × V)} {l : List D} {x : List D} {w : V} {o : Option D} (hs : Rd H a (.dT kvs)) (q : Rps K A m H l (kvs.map (·.2))) (r : Rp K A m H (.tup x) w)
    (h : (keysOf x).map (vAt (kvs.map (·.1)) l) = some o) : ∃ u, DGet H a w u ∧ OptR K A m H o u := by
  cases e : keysOf x with
  | none => rw [e] at h; cases h
  | some k =>
    rw [e] at h
    obtain ⟨b, vs, ew, hb, rb⟩ := r
    have ev := keysOf_at e rb
    subst ev
    subst ew
    refine ⟨valV kvs k, .inr ⟨kvs, k, b, hs, rfl, hb, rfl⟩, ?_⟩
    have eo : vAt (kvs.map (·.1)) l k = o := by simpa using h
    cases o with
    | some d => exact vAt_val eo q
    | none => exact vAt_none eo q
theorem dictIx_at {K : PySem.W.Frag} {H0 H : Hp} {A m : List Addr} {x y : Ev} {v w : V} {o : Option D} (h : dictIx x y = some o) (r1 : EvR K H0 A m H x v) (r2 : EvR K H0 A m H y w) :
    ∃ a u, v = .ref a ∧ DGet H a w u ∧ OptR K A m H o u := by
  unfold dictIx at h
  split at h
  · obtain ⟨a, kvs, e, hs, ek, _, q⟩ := r1; subst ek; obtain ⟨u, q1, q2⟩ := dict_k hs q r2 h; exact ⟨a, u, e, q1, q2⟩
  · obtain ⟨a, kvs, e, hs, ek, _, _, q⟩ := r1; subst ek; obtain ⟨u, q1, q2⟩ := dict_k hs q r2 h; exact ⟨a, u, e, q1, q2⟩
  · obtain ⟨a, kvs, e, hs, ek, _, _, q⟩ := r1; subst ek; obtain ⟨u, q1, q2⟩ := dict_k hs q r2 h; exact ⟨a, u, e, q1, q2⟩
  · obtain ⟨a, kvs, e, hs, ek, _, q⟩ := r1; subst ek; obtain ⟨u, q1, q2⟩ := dict_t (.inr hs) q r2 h; exact ⟨a, u, e, q1, q2⟩
  · obtain ⟨a, kvs, e, hs, ek, _, _, q⟩ := r1; subst ek; obtain ⟨u, q1, q2⟩ := dict_t (.inl hs) q r2 h; exact ⟨a, u, e, q1, q2⟩
  · obtain ⟨a, kvs, e, hs, ek, _, _, q⟩ := r1; subst ek; obtain ⟨u, q1, q2⟩ := dict_t (.inl hs) q r2 h; exact ⟨a, u, e, q1, q2⟩
  · cases h
/-- o[i], o a dict -/
def opDget (a b : Ev) (M : Mem) : R Ev := match dictIx a b with
  | some (some d) => .ok (.d d) M
  | _ => .stuck
theorem de_dget (hu : X.A.units + 1 < cLine) (ha : PE X a (tE (cf X T W) f)) (hb : PE X b (tE (cf X T W) g)) (hs : NoSl b := by exact fun _ _ => rfl) : PE X (.Subscript a b pos) (tE (cf X T W) (eBin opDget f g)) := by
  refine ⟨fun pins s σ H Q I q => (pe_dget hu ha hb hs).run pins s σ H Q I ?_⟩
  obtain ⟨H0, A, m, M, ρ, P, F, q⟩ := q
  refine sub F q fun x M1 H1 v F1 _ r1 q1 => ?_
  refine sub F1 q1 fun y M2 H2 w F2 s2 r2 q2 => ?_
  unfold opDget at q2
  split at q2
  · rename_i d hd
    obtain ⟨a, u, e, g, z, e2, r⟩ := dictIx_at hd (EvR.step F1.wr.aok F1.ma s2 r1) r2
    subst e2
    exact ⟨a, z, e, g, q2.fin F2 r⟩
  · exact q2.elim
/-- k in d, k not in d -/
def opDin (neg : Bool) (a b : Ev) (M : Mem) : R Ev := match dictIx b a with
  | some o => .ok (bv (if neg then !o.isSome else o.isSome)) M
  | none => .stuck
theorem isSome_of {K : PySem.W.Frag} {A m : List Addr} {H : Hp} {o : Option D} {u : Option V} (h : OptR K A m H o u) : u.isSome = o.isSome := by
  cases o with
  | some d => obtain ⟨v, e, _⟩ := h; rw [e]; rfl
  | none => rw [show u = none from h]; rfl
theorem dc_din (hu : X.A.units + 1 < cLine) (ha : PE X a (tE (cf X T W) f)) (hb : PE X b (tE (cf X T W) g)) : PC X .In a b (tE (cf X T W) (eBin (opDin false) f g)) := by
  refine ⟨fun pins s σ H Q I q => (pc_din hu ha hb).run pins s σ H Q I ?_⟩
  obtain ⟨H0, A, m, M, ρ, P, F, q⟩ := q
  refine sub F q fun x M1 H1 v F1 _ r1 q1 => ?_
  refine sub F1 q1 fun y M2 H2 w F2 s2 r2 q2 => ?_
  unfold opDin at q2
  split at q2
  · rename_i o hd
    obtain ⟨a, u, e, g, z⟩ := dictIx_at hd r2 (EvR.step F1.wr.aok F1.ma s2 r1)
    refine ⟨a, u, e, g, ?_⟩
    rw [isSome_of z]; exact q2.fin F2 rfl
  · exact q2.elim
theorem dc_dnotin (hu : X.A.units + 1 < cLine) (ha : PE X a (tE (cf X T W) f)) (hb : PE X b (tE (cf X T W) g)) : PC X .NotIn a b (tE (cf X T W) (eBin (opDin true) f g)) := by
  refine ⟨fun pins s σ H Q I q => (pc_dnotin hu ha hb).run pins s σ H Q I ?_⟩
  obtain ⟨H0, A, m, M, ρ, P, F, q⟩ := q
  refine sub F q fun x M1 H1 v F1 _ r1 q1 => ?_
  refine sub F1 q1 fun y M2 H2 w F2 s2 r2 q2 => ?_
  unfold opDin at q2
  split at q2
  · rename_i o hd
    obtain ⟨a, u, e, g, z⟩ := dictIx_at hd r2 (EvR.step F1.wr.aok F1.ma s2 r1)
    refine ⟨a, u, e, g, ?_⟩
    rw [isSome_of z]; exact q2.fin F2 rfl
  · exact q2.elim
theorem de_pc {op : CmpOp} {o : Sm Ev} (h : PC X op a b (tE (cf X T W) o)) (h1 : behindInMarks op b = false := by first | exact nobehind _ (by decide) (by decide) | rfl) : PE X (.Compare a [op] [b] pos) (tE (cf X T W) o) := pe_cmp h h1
theorem dt_pc {op : CmpOp} {o : Sm Ev} (h : PC X op a b (tE (cf X T W) o)) (h1 : behindInMarks op b = false := by first | exact nobehind _ (by decide) (by decide) | rfl) : PT X (.Compare a [op] [b] pos) (tT (cf X T W) fun ρ M => asB (o ρ M)) := by
  refine ⟨fun pins s σ H Q I q => (pt_cmp h h1).run pins s σ H Q I ?_⟩
  obtain ⟨H0, A, m, M, ρ, P, F, q⟩ := q
  exact asB_run F q
/-! ### x in l, l a list or tuple of flat things -/
def flatD : D → Bool
  | .non => true
  | .bl _ => true
  | .int _ => true
  | .str _ => true
  | _ => false
def flatE : Ev → Bool
  | .d x => flatD x
  | _ => false
def eqD1 : D → D → Bool
  | .non, .non => true
  | .bl a, .bl b => a == b
  | .bl a, .int b => (if a then 1 else 0) == b
  | .int a, .bl b => a == (if b then 1 else 0)
  | .int a, .int b => a == b
  | .str a, .str b => a == b
  | _, _ => false
theorem flat_at {K : PySem.W.Frag} {A m : List Addr} {H : Hp} {x : D} {v : V} (h : flatD x = true) (r : Rp K A m H x v) : flatV v = true ∧ scV x = some v := by
  cases x <;> first | (cases (show v = _ from r); exact ⟨rfl, rfl⟩) | cases h
theorem eqD1_at {x y : D} {v w : V} (h1 : scV x = some v) (h2 : scV y = some w) : eqV v w = eqD1 x y := by
  cases x <;> cases h1 <;> cases y <;> cases h2 <;> rfl
def inD (x : D) (l : List D) : Bool := l.any fun y => eqD1 y x
theorem inD_at {K : PySem.W.Frag} {A m : List Addr} {H : Hp} {x : D} {v : V} (h1 : scV x = some v) : ∀ {l : List D} {vs : List V}, l.all flatD = true → Rps K A m H l vs → vs.all flatV = true ∧ inV v vs = inD x l
  | [], _, _, r => by cases (show _ = [] from r); exact ⟨rfl, rfl⟩
  | y :: l, _, h, ⟨w, r, e, q1, q2⟩ => by
    subst e
    rw [List.all_cons, Bool.and_eq_true] at h
    have a := flat_at h.1 q1
    have ih := inD_at h1 h.2 q2
    refine ⟨by rw [List.all_cons, a.1, ih.1]; rfl, ?_⟩
    show (eqV w v || inV v r) = (eqD1 y x || inD x l)
    rw [eqD1_at a.2 h1, ih.2]
def opIn (neg : Bool) (a b : Ev) (M : Mem) : R Ev := match a, seqOf b with
  | .d x, some l => if flatD x = true ∧ l.all flatD = true then .ok (bv (if neg then !inD x l else inD x l)) M else .stuck
  | _, _ => .stuck
theorem ok_in {neg : Bool} : OpOk (cf X T W) (opIn neg) (rIn X.K neg) := by
  intro H0 A m M H ρ σ P x y v w Q F rx ry h
  unfold opIn at h
  split at h
  · rename_i x' l hl
    split at h
    · rename_i hc
      obtain ⟨a, vs, e, hs, q⟩ := seqOf_at hl ry
      have f := flat_at hc.1 (show Rp _ _ _ _ x' v from rx)
      have z := inD_at f.2 hc.2 q
      refine ⟨a, vs, e, hs, f.1, z.1, ?_⟩
      rw [z.2]; exact h.fin F rfl
    · exact h.elim
  · exact h.elim
theorem ci_in : CmpIs X T W .In (opIn false) := ⟨_, op_in_seq, ok_in⟩
theorem ci_notin : CmpIs X T W .NotIn (opIn true) := ⟨_, op_notIn_seq, ok_in⟩
/-! ### slices -/
def SOk (C : Cf) (op : Ev → Option Int → Option Int → Mem → R Ev) (r : V → Option Int → Option Int → Hp → VK → Prop) : Prop := ∀ H0 A m M H ρ σ P x v lo hi Q, FR C H0 A m M H ρ σ P → EvR C.K H0 A m H x v → PX C m σ (EvR C.K H0 A m) H (op x lo hi M) Q → r v lo hi H Q
def cutD {α : Type} (xs : List α) (lo hi : Option Int) : List α := (xs.drop (HT.sIx xs.length 0 lo)).take (HT.sIx xs.length xs.length hi - HT.sIx xs.length 0 lo)
theorem cutD_rps {K : PySem.W.Frag} {A m : List Addr} {H : Hp} {l : List D} {vs : List V} (r : Rps K A m H l vs) (lo hi : Option Int) : Rps K A m H (cutD l lo hi) (cutV vs lo hi) := by
  unfold cutD cutV
  rw [Rps.len r]
  exact Rps.take _ (Rps.drop _ r)
def opSl (x : Ev) (lo hi : Option Int) (M : Mem) : R Ev := match x with
  | .d (.tup l) => .ok (.d (.tup (cutD l lo hi))) M
  | .d (.sc ns) => .ok (.d (.lst (cutD (ns.map D.int) lo hi))) M
  | x => match lstOf x with
    | some l => .ok (.d (.lst (cutD l lo hi))) M
    | none => .stuck
theorem cutD_all {α : Type} {xs : List α} {lo hi : Option Int} (h : HT.sIx xs.length 0 lo = 0 ∧ HT.sIx xs.length xs.length hi = xs.length) : cutD xs lo hi = xs := by
  unfold cutD
  rw [h.1, h.2]
  simp
theorem sl_A : L2.SlR X (fun x lo hi H Q => rSlL X.K x lo hi H Q ∨ rSlA X.K x lo hi H Q) := sl_list.or sl_tupA
theorem ok_sl : SOk (cf X T W) opSl (fun x lo hi H Q => rSlL X.K x lo hi H Q ∨ rSlA X.K x lo hi H Q) := by
  intro H0 A m M H ρ σ P x v lo hi Q F r h
  unfold opSl at h
  split at h
  · rename_i l
    obtain ⟨a, vs, e, hs, q⟩ := r
    refine .inr ⟨a, vs, e, SqT.of hs, fun z => ?_, fun _ p hp => h.made F hp (newT (C := cf X T W) hp (cutD_rps q lo hi))⟩
    rw [Rps.len q] at z
    rw [cutD_all z] at h
    exact h.fin F ⟨a, vs, rfl, hs, q⟩
  · rename_i ns
    obtain ⟨a, e, hs⟩ := r
    have hq : SqL X.K H a (ns.map V.int) := hs.elim (fun h => .inl (.inr h)) .inr
    exact .inl ⟨a, ns.map V.int, e, hq, fun p hp => h.made F hp (newL (C := cf X T W) F hp (cutD_rps (Rps.of_ints ns) lo hi))⟩
  · split at h
    · rename_i l hl
      obtain ⟨a, vs, e, hs, q⟩ := lstOf_at hl r
      exact .inl ⟨a, vs, e, SqL.of hs, fun p hp => h.made F hp (newL F hp (cutD_rps q lo hi))⟩
    · exact h.elim
/-- a part of a slice -/
def relO : Rel (Option Int) (Option Int) := fun _ _ _ _ a b => a = b
abbrev tOI (C : Cf) (f : Sm (Option Int)) : TO := tX C relO f
def oNone : Sm (Option Int) := fun _ M => .ok none M
def oSome (f : Sm Ev) : Sm (Option Int) := fun ρ M => bnd (f ρ M) fun x M1 => match x with
  | .d (.int i) => .ok (some i) M1
  | _ => .stuck
theorem do_none : PO X none (tOI (cf X T W) oNone) := by
  refine ⟨fun pins s σ H Q I q => po_none.run pins s σ H Q I ?_⟩
  obtain ⟨H0, A, m, M, ρ, P, F, q⟩ := q
  exact q.fin F rfl
theorem do_some (ha : PE X a (tE (cf X T W) f)) : PO X (some a) (tOI (cf X T W) (oSome f)) := by
  refine ⟨fun pins s σ H Q I q => (po_some ha).run pins s σ H Q I ?_⟩
  obtain ⟨H0, A, m, M, ρ, P, F, q⟩ := q
  refine sub F q fun x M1 H1 v F1 _ r1 q1 => ?_
  split at q1
  · rename_i i; exact ⟨i, r1, q1.fin F1 rfl⟩
  · exact q1.elim
def eSl (f : Sm Ev) (lo hi : Sm (Option Int)) : Sm Ev := fun ρ M => bnd (f ρ M) fun x M1 => bnd (lo ρ M1) fun i M2 => bnd (hi ρ M2) fun j M3 => opSl x i j M3
theorem de_sl {lo hi : Option Expr} {ol oh : Sm (Option Int)} {p2 : Pos} (ha : PE X a (tE (cf X T W) f)) (hl : PO X lo (tOI (cf X T W) ol)) (hh : PO X hi (tOI (cf X T W) oh)) : PE X (.Subscript a (.Slice lo hi none p2) pos) (tE (cf X T W) (eSl f ol oh)) := by
  refine ⟨fun pins s σ H Q I q => (pe_slice sl_A ha hl hh).run pins s σ H Q I ?_⟩
  obtain ⟨H0, A, m, M, ρ, P, F, q⟩ := q
  refine sub F q fun x M1 H1 v F1 _ r1 q1 => ?_
  refine sub F1 q1 fun i M2 H2 i' F2 s2 r2 q2 => ?_
  refine sub F2 q2 fun j M3 H3 j' F3 s3 r3 q3 => ?_
  cases (show i = i' from r2)
  cases (show j = j' from r3)
  exact ok_sl H0 A m M3 H3 ρ σ P x v i j Q F3 (EvR.step F2.wr.aok F2.ma s3 (EvR.step F1.wr.aok F1.ma s2 r1)) q3
end
end DL

set_option Elab.async false
set_option linter.all false
set_option maxRecDepth 100000
set_option maxHeartbeats 2000000
/-! The data layer: frames that grow, are written; statements. -/
namespace DL
open PySem PySem.Spec PyProof.Rows L2
theorem not_lv_of {H : Hp} {a : Addr} (h : H a = none) : ¬ Lv H a := fun ⟨o, e, _⟩ => by rw [h] at e; cases e
/-- what a statement may do: write within A, lay new things -/
structure Ext (H0 : Hp) (A : List Addr) (H : Hp) (A' : List Addr) (H' : Hp) : Prop where
  sub : ∀ a ∈ A, Lv H0 a → a ∈ A'
  new : ∀ a ∈ A', a ∈ A ∨ ¬ Lv H a
  keep : Stp A H H'
theorem Ext.refl {H0 : Hp} {A : List Addr} {H : Hp} : Ext H0 A H A H := ⟨fun _ h _ => h, fun _ h => .inl h, Stp.refl _ _⟩
theorem Ext.trans {H0 : Hp} {A A1 A2 : List Addr} {H H1 H2 : Hp} (a : Ext H0 A H A1 H1) (b : Ext H0 A1 H1 A2 H2) : Ext H0 A H A2 H2 :=
  ⟨fun x h z => b.sub x (a.sub x h z) z, fun x h => by
    rcases b.new x h with h | h
    · exact a.new x h
    · by_cases hx : x ∈ A
      · exact .inl hx
      · exact .inr fun z => h (a.keep.lv z hx),
   fun x o e n t => b.keep x o (a.keep x o e n t) (fun z => (a.new x z).elim n fun q => q ⟨o, e, t⟩) t⟩
theorem Ext.step {H0 : Hp} {A m : List Addr} {H H' : Hp} (s : Stp m H H') (hm : ∀ a ∈ m, a ∈ A) : Ext H0 A H A H' := ⟨fun _ h _ => h, fun _ h => .inl h, s.mono hm⟩
/-- fewer addresses are avoided -/
theorem Ext.less {H0 : Hp} {A A' : List Addr} {H : Hp} (h : ∀ a ∈ A', a ∈ A) (k : ∀ a ∈ A, Lv H0 a → a ∈ A') : Ext H0 A H A' H := ⟨k, fun a ha => .inl (h a ha), Stp.refl _ _⟩
theorem Rp.ext {K : PySem.W.Frag} {H0 : Hp} {A A' m : List Addr} {H H' : Hp} (e : Ext H0 A H A' H') (ok : AOk A H) {d : D} {v : V} (h : Rp K A m H d v) : Rp K A' m H' d v :=
  Rp.avoid (fun a ha => .inl (List.mem_append_right _ ha)) d v (Rp.step (A := A ++ A') (B := A) ok (fun a ha => List.mem_append_left _ ha) e.keep d v (Rp.avoid (fun a ha => (List.mem_append.mp ha).elim .inl (e.new a)) d v h))
theorem Rps.ext {K : PySem.W.Frag} {H0 : Hp} {A A' m : List Addr} {H H' : Hp} (e : Ext H0 A H A' H') (ok : AOk A H) {l : List D} {vs : List V} (h : Rps K A m H l vs) : Rps K A' m H' l vs :=
  Rps.avoid (fun a ha => .inl (List.mem_append_right _ ha)) l vs (Rps.step (A := A ++ A') (B := A) ok (fun a ha => List.mem_append_left _ ha) e.keep l vs (Rps.avoid (fun a ha => (List.mem_append.mp ha).elim .inl (e.new a)) l vs h))
section
variable {C : Cf} {K : PySem.W.Frag} {H0 H H' : Hp} {A A' m B : List Addr} {M M' : Mem} {ρ : Env} {σ : L2.St} {P : List Addr}
/-- writes at addresses that are no caller's: the slots whose own addresses are others stay -/
theorem EvR.pvO (ok : AOk B H) (hA : ∀ a ∈ B, a ∈ A) (h0 : ∀ a ∈ B, ¬ Lv H0 a) (s : Stp B H H') : ∀ {x : Ev} {v : V}, (match x with | .ls .pv _ => True | .dk .pv _ _ => True | .dt .pv _ _ => True | _ => False) → EvR K H0 A m H x v → EvR K H0 A m H' x v
  | .ls .pv l, v, _, ⟨a, vs, e, h, n, z, r⟩ => ⟨a, vs, e, s a _ h (fun hb => h0 a hb z) lst_tbl, n, z, Rps.step ok hA s _ _ r⟩
  | .dk .pv ks l, v, _, ⟨a, vs, e, h, ek, n, z, r⟩ => ⟨a, vs, e, s a _ h (fun hb => h0 a hb z) dK_tbl, ek, n, z, Rps.step ok hA s _ _ r⟩
  | .dt .pv ks l, v, _, ⟨a, vs, e, h, ek, n, z, r⟩ => ⟨a, vs, e, s a _ h (fun hb => h0 a hb z) dT_tbl, ek, n, z, Rps.step ok hA s _ _ r⟩
theorem SlR.stepO (ok : AOk B H) (hA : ∀ a ∈ B, a ∈ A) (h0 : ∀ a ∈ B, ¬ Lv H0 a) (s : Stp B H H') : ∀ {x : Ev} {v : V} {P : List Addr}, (∀ a ∈ P, a ∉ B) → SlR K H0 A m H x v P → SlR K H0 A m H' x v P
  | .d x, v, P, hP, ⟨e, h⟩ => ⟨e, Rp.step ok hA s x v h⟩
  | .ls .pv l, v, P, hP, ⟨e, h⟩ => ⟨e, EvR.pvO ok hA h0 s trivial h⟩
  | .ls .own l, v, P, hP, ⟨a, vs, e, h, eP, r⟩ => ⟨a, vs, e, s a _ h (hP a (by rw [eP]; exact List.mem_cons_self)) lst_tbl, eP, Rps.step ok hA s _ _ r⟩
  | .rw .own rows, v, P, hP, ⟨a, vs, P', e, h, eP, r⟩ => ⟨a, vs, P', e, s a _ h (hP a (by rw [eP]; exact List.mem_cons_self)) lst_tbl, eP, RowsR.step ok hA s (fun b hb => hP b (by rw [eP]; exact List.mem_cons_of_mem _ hb)) r⟩
  | .dk .pv ks l, v, P, hP, ⟨e, h⟩ => ⟨e, EvR.pvO ok hA h0 s trivial h⟩
  | .dk .own ks l, v, P, hP, ⟨a, kvs, e, h, ek, eP, r⟩ => ⟨a, kvs, e, s a _ h (hP a (by rw [eP]; exact List.mem_cons_self)) dK_tbl, ek, eP, Rps.step ok hA s _ _ r⟩
  | .dt .pv ks l, v, P, hP, ⟨e, h⟩ => ⟨e, EvR.pvO ok hA h0 s trivial h⟩
  | .dt .own ks l, v, P, hP, ⟨a, kvs, e, h, ek, eP, r⟩ => ⟨a, kvs, e, s a _ h (hP a (by rw [eP]; exact List.mem_cons_self)) dT_tbl, ek, eP, Rps.step ok hA s _ _ r⟩
  | .ls .vw _, _, _, _, h => h.elim
  | .rw .vw _, _, _, _, h => h.elim
  | .rw .pv _, _, _, _, h => h.elim
  | .dk .vw _ _, _, _, _, h => h.elim
  | .dt .vw _ _, _, _, _, h => h.elim
theorem ER.stepO (ok : AOk B H) (hA : ∀ a ∈ B, a ∈ A) (h0 : ∀ a ∈ B, ¬ Lv H0 a) (s : Stp B H H') : ∀ {ρ : Env} {σ : L2.St} {P : List Addr}, (∀ a ∈ P, a ∉ B) → ER K H0 A m H ρ σ P → ER K H0 A m H' ρ σ P
  | [], _, _, _, h => h
  | none :: ρ, σ, P, hP, ⟨y, τ, e, h⟩ => ⟨y, τ, e, ER.stepO ok hA h0 s hP h⟩
  | some x :: ρ, σ, P, hP, ⟨v, τ, P1, P2, e, eP, h1, h2⟩ =>
    ⟨v, τ, P1, P2, e, eP, SlR.stepO ok hA h0 s (fun a ha => hP a (by rw [eP]; exact List.mem_append_left _ ha)) h1, ER.stepO ok hA h0 s (fun a ha => hP a (by rw [eP]; exact List.mem_append_right _ ha)) h2⟩
/-- more addresses are avoided: new ones -/
theorem RowsR.avoid (hA : ∀ a ∈ A', a ∈ A ∨ ¬ Lv H a) : ∀ {rows : List (List D)} {vs : List V} {P : List Addr}, RowsR K A m H rows vs P → RowsR K A' m H rows vs P
  | [], _, _, h => h
  | row :: rows, vs, P, ⟨b, ws, r, P', e, eP, hb, hr, ht⟩ => ⟨b, ws, r, P', e, eP, hb, Rps.avoid hA _ _ hr, RowsR.avoid hA ht⟩
theorem SlR.avoid (hA : ∀ a ∈ A', a ∈ A ∨ ¬ Lv H a) : ∀ {x : Ev} {v : V} {P : List Addr}, SlR K H0 A m H x v P → SlR K H0 A' m H x v P
  | .d x, v, P, ⟨e, h⟩ => ⟨e, Rp.avoid hA x v h⟩
  | .ls .pv l, v, P, ⟨e, a, vs, e1, h, n, z, r⟩ => ⟨e, a, vs, e1, h, n, z, Rps.avoid hA _ _ r⟩
  | .ls .own l, v, P, ⟨a, vs, e, h, eP, r⟩ => ⟨a, vs, e, h, eP, Rps.avoid hA _ _ r⟩
  | .rw .own rows, v, P, ⟨a, vs, P', e, h, eP, r⟩ => ⟨a, vs, P', e, h, eP, RowsR.avoid hA r⟩
  | .dk .pv ks l, v, P, ⟨e, a, vs, e1, h, ek, n, z, r⟩ => ⟨e, a, vs, e1, h, ek, n, z, Rps.avoid hA _ _ r⟩
  | .dk .own ks l, v, P, ⟨a, kvs, e, h, ek, eP, r⟩ => ⟨a, kvs, e, h, ek, eP, Rps.avoid hA _ _ r⟩
  | .dt .pv ks l, v, P, ⟨e, a, vs, e1, h, ek, n, z, r⟩ => ⟨e, a, vs, e1, h, ek, n, z, Rps.avoid hA _ _ r⟩
  | .dt .own ks l, v, P, ⟨a, kvs, e, h, ek, eP, r⟩ => ⟨a, kvs, e, h, ek, eP, Rps.avoid hA _ _ r⟩
  | .ls .vw _, _, _, h => h.elim
  | .rw .vw _, _, _, h => h.elim
  | .rw .pv _, _, _, h => h.elim
  | .dk .vw _ _, _, _, h => h.elim
  | .dt .vw _ _, _, _, h => h.elim
theorem ER.avoid (hA : ∀ a ∈ A', a ∈ A ∨ ¬ Lv H a) : ∀ {ρ : Env} {σ : L2.St} {P : List Addr}, ER K H0 A m H ρ σ P → ER K H0 A' m H ρ σ P
  | [], _, _, h => h
  | none :: ρ, σ, P, ⟨y, τ, e, h⟩ => ⟨y, τ, e, ER.avoid hA h⟩
  | some x :: ρ, σ, P, ⟨v, τ, P1, P2, e, eP, h1, h2⟩ => ⟨v, τ, P1, P2, e, eP, SlR.avoid hA h1, ER.avoid hA h2⟩
theorem Tabs.mut {T : List (Addr × Str)} (t : LamX.Tabs T H) {a : Addr} {o o' : HO} (h : H a = some o) (mu : muta o) : LamX.Tabs T (L2.upd H a o') := by
  intro p hp
  obtain ⟨ps, e, ok, hc⟩ := t p hp
  have ne : p.1 ≠ a := ne_of e h (fun z => by rw [← z] at mu; exact mu)
  refine ⟨ps, by rw [upd_ne ne]; exact e, ok, fun pos cv q => ?_⟩
  obtain ⟨c, e1, e2⟩ := hc pos cv q
  refine ⟨c, e1, ?_⟩
  rw [upd_ne (ne_of e2 h (fun z => by rw [← z] at mu; exact mu))]
  exact e2
theorem WR.mut (w : WR K m M H) {a : Addr} {o o' : HO} (hm : a ∉ m) (h : H a = some o) (mu : muta o) : WR K m M (L2.upd H a o') := by
  refine ⟨w.len, w.nd, fun n b ob e1 e2 => ?_⟩
  have q := w.ok n b ob e1 e2
  have nb : b ≠ a := fun z => hm (by rw [← z]; exact List.mem_of_getElem? e1)
  cases ob with
  | lst l =>
    obtain ⟨vs, e, bl, r⟩ := q
    refine ⟨vs, by rw [upd_ne nb]; exact e, bl, ?_⟩
    have r1 : Rps K [a] m H l vs := Rps.bare l vs bl r
    have r2 : Rps K [a] m (L2.upd H a o') l vs := Rps.step (B := [a]) (fun x hx => by rw [List.mem_singleton.mp hx]; exact ⟨o, h, mu⟩) (fun _ z => z) (fun x u e n _ => by rw [upd_ne (fun z => n (by rw [z]; exact List.mem_singleton_self _))]; exact e) l vs r1
    exact Rps.bare l vs bl r2
theorem stp_upd {a : Addr} {o' : HO} : Stp [a] H (upd H a o') := fun x u e n _ => by rw [upd_ne (fun z => n (by rw [z]; exact List.mem_singleton_self _))]; exact e
theorem aok_one {a : Addr} {o : HO} (h : H a = some o) (mu : muta o) : AOk [a] H := fun x hx => by rw [List.mem_singleton.mp hx]; exact ⟨o, h, mu⟩
/-- an own address that no slot holds is written -/
theorem FR.write (F : FR C H0 A m M H ρ σ P) {a : Addr} {o o' : HO} (ha : a ∈ A) (hm : a ∉ m) (hP : a ∉ P) (h0 : ¬ Lv H0 a) (h : H a = some o) (mu : muta o) (mu' : muta o') : FR C H0 A m M (upd H a o') ρ σ P :=
  ⟨F.wr.mut hm h mu, Tabs.mut F.tb h mu, ER.stepO (B := [a]) (aok_one h mu) (fun x hx => by rw [List.mem_singleton.mp hx]; exact ha) (fun x hx => by rw [List.mem_singleton.mp hx]; exact h0) stp_upd (fun x hx z => hP (by rw [← List.mem_singleton.mp z]; exact hx)) F.er,
    F.nd, F.own, F.ma, fun x hx => by
      by_cases e : x = a
      · subst e; exact ⟨o', upd_same, mu'⟩
      · obtain ⟨u, e1, e2⟩ := F.aok x hx; exact ⟨u, by rw [upd_ne e]; exact e1, e2⟩,
    fun x u e n t => by
      have q := F.base x u e n t
      by_cases ex : x = a
      · subst ex; exact absurd ⟨u, e, t⟩ h0
      · rw [upd_ne ex]; exact q⟩
/-- a new list or dict that is avoided from now on -/
theorem FR.more (F : FR C H0 A m M H ρ σ P) {p : Addr} {o : HO} (hp : H p = none) (mu : muta o) : FR C H0 (p :: A) m M (upd H p o) ρ σ P := by
  have G := F.grow (o := o) hp
  refine ⟨G.wr, G.tb, ?_, F.nd, fun a ha => ⟨List.mem_cons_of_mem _ (F.own a ha).1, (F.own a ha).2⟩, fun a ha => List.mem_cons_of_mem _ (F.ma a ha), fun x hx => ?_, G.base⟩
  · have e1 : ER C.K H0 (p :: A) m H ρ σ P := ER.avoid (fun a ha => (List.mem_cons.mp ha).elim (fun z => .inr (by rw [z]; exact not_lv_of hp)) .inl) F.er
    exact ER.step F.wr.aok (fun a ha => List.mem_cons_of_mem _ (F.ma a ha)) (Stp.upd hp) (fun a ha => (F.own a ha).2.1) e1
  · rcases List.mem_cons.mp hx with rfl | hx
    · exact ⟨o, upd_same, mu⟩
    · exact G.aok x hx
theorem Ext.more {p : Addr} {o : HO} (hp : H p = none) : Ext H0 A H (p :: A) (upd H p o) :=
  ⟨fun a h _ => List.mem_cons_of_mem _ h, fun a h => (List.mem_cons.mp h).elim (fun z => .inr (by rw [z]; exact not_lv_of hp)) .inl, Stp.upd hp⟩
theorem Ext.write {a : Addr} {o' : HO} (ha : a ∈ A) : Ext H0 A H A (upd H a o') := ⟨fun _ h _ => h, fun _ h => .inl h, stp_upd.mono fun x hx => by rw [List.mem_singleton.mp hx]; exact ha⟩
/-! ### slots -/
theorem ER.len : ∀ {ρ : Env} {σ : L2.St} {P : List Addr}, ER K H0 A m H ρ σ P → σ.length = ρ.length
  | [], _, _, h => by rw [h.1]; rfl
  | none :: ρ, _, _, ⟨y, τ, e, h⟩ => by rw [e, List.length_cons, List.length_cons, ER.len h]
  | some x :: ρ, _, _, ⟨v, τ, P1, P2, e, eP, h1, h2⟩ => by rw [e, List.length_cons, List.length_cons, ER.len h2]
/-- a slot takes another thing: its own addresses P1 among those of the others -/
theorem ER.set {x : Ev} {v : V} {P1 : List Addr} (hx : SlR K H0 A m H x v P1) : ∀ {ρ : Env} {σ : L2.St} {P : List Addr} (i : Nat), ER K H0 A m H ρ σ P → i < ρ.length →
    ∃ L R, ER K H0 A m H (ρ.set i (some x)) (σ.set i (some v)) (L ++ P1 ++ R) ∧ (L ++ R).Sublist P
  | [], _, _, _, _, hi => absurd hi (Nat.not_lt_zero _)
  | none :: ρ, σ, P, 0, ⟨y, τ, e, h⟩, _ => ⟨[], P, ⟨v, τ, P1, P, by rw [e]; rfl, rfl, hx, h⟩, List.Sublist.refl _⟩
  | some z :: ρ, σ, P, 0, ⟨w, τ, Q1, Q2, e, eP, h1, h2⟩, _ => ⟨[], Q2, ⟨v, τ, P1, Q2, by rw [e]; rfl, rfl, hx, h2⟩, by rw [eP]; exact List.sublist_append_right _ _⟩
  | none :: ρ, σ, P, i + 1, ⟨y, τ, e, h⟩, hi => by
    obtain ⟨L, R, q, s⟩ := ER.set hx i h (Nat.lt_of_succ_lt_succ hi)
    exact ⟨L, R, ⟨y, τ.set i (some v), by rw [e]; rfl, q⟩, s⟩
  | some z :: ρ, σ, P, i + 1, ⟨w, τ, Q1, Q2, e, eP, h1, h2⟩, hi => by
    obtain ⟨L, R, q, s⟩ := ER.set hx i h2 (Nat.lt_of_succ_lt_succ hi)
    refine ⟨Q1 ++ L, R, ⟨w, τ.set i (some v), Q1, L ++ P1 ++ R, by rw [e]; rfl, by simp, h1, q⟩, ?_⟩
    rw [eP, List.append_assoc]
    exact List.Sublist.append (List.Sublist.refl _) s
/-- a slot takes a thing without own addresses -/
theorem FR.set (F : FR C H0 A m M H ρ σ P) {x : Ev} {v : V} {i : Nat} (hx : SlR C.K H0 A m H x v []) (hi : i < ρ.length) : ∃ P', FR C H0 A m M H (ρ.set i (some x)) (σ.set i (some v)) P' := by
  obtain ⟨L, R, q, s⟩ := ER.set hx i F.er hi
  refine ⟨L ++ R, F.wr, F.tb, by simpa using q, s.nodup F.nd, fun a ha => F.own a (s.subset ha), F.ma, F.aok, F.base⟩
/-- a slot takes a new list or dict of its own -/
theorem FR.setNew (F : FR C H0 A m M H ρ σ P) {x : Ev} {p : Addr} {i : Nat} (hA : p ∈ A) (hP : p ∉ P) (hm : p ∉ m) (h0 : ¬ Lv H0 p) (hx : SlR C.K H0 A m H x (.ref p) [p]) (hi : i < ρ.length) : ∃ P', FR C H0 A m M H (ρ.set i (some x)) (σ.set i (some (.ref p))) P' := by
  obtain ⟨L, R, q, s⟩ := ER.set hx i F.er hi
  refine ⟨L ++ [p] ++ R, F.wr, F.tb, q, ?_, fun a ha => ?_, F.ma, F.aok, F.base⟩
  · have nd := s.nodup F.nd
    rw [List.append_assoc]
    rw [List.nodup_append] at nd ⊢
    refine ⟨nd.1, ?_, ?_⟩
    · rw [List.singleton_append, List.nodup_cons]
      exact ⟨fun z => hP (s.subset (List.mem_append_right _ z)), nd.2.1⟩
    · intro a ha b hb
      rcases List.mem_append.mp hb with hb | hb
      · rw [List.mem_singleton.mp hb]
        exact fun z => hP (s.subset (List.mem_append_left _ (by rw [← z]; exact ha)))
      · exact nd.2.2 a ha b hb
  · rcases List.mem_append.mp ha with ha | ha
    · rcases List.mem_append.mp ha with ha | ha
      · exact F.own a (s.subset (List.mem_append_left _ ha))
      · rw [List.mem_singleton.mp ha]; exact ⟨hA, hm, h0⟩
    · exact F.own a (s.subset (List.mem_append_right _ ha))
/-- an own thing of a slot is written -/
theorem ER.mut {x x' : Ev} {v : V} {a : Addr} (ok : AOk [a] H) (ha : a ∈ A) (h0 : ¬ Lv H0 a) (s : Stp [a] H H')
    (hx : ∀ P1, SlR K H0 A m H x v P1 → P1.Nodup → SlR K H0 A m H' x' v P1) (hy : ∀ P1, SlR K H0 A m H x v P1 → a ∈ P1) : ∀ {ρ : Env} {σ : L2.St} {P : List Addr} {i : Nat}, P.Nodup → ER K H0 A m H ρ σ P → ρ[i]? = some (some x) → σ[i]? = some (some v) → ER K H0 A m H' (ρ.set i (some x')) σ P
  | [], _, _, i, _, _, e, _ => by simp at e
  | none :: ρ, _, _, 0, _, _, e, _ => by simp at e
  | some z :: ρ, σ, P, 0, nd, ⟨w, τ, Q1, Q2, eσ, eP, h1, h2⟩, e, e2 => by
    simp at e
    subst e
    rw [eσ] at e2
    have ew : w = v := by simpa using e2
    rw [eP, List.nodup_append] at nd
    subst ew
    have q1 := hx Q1 h1 nd.1
    have q2 := hy Q1 h1
    refine ⟨w, τ, Q1, Q2, eσ, eP, q1, ER.stepO ok (fun x hx => by rw [List.mem_singleton.mp hx]; exact ha) (fun x hx => by rw [List.mem_singleton.mp hx]; exact h0) s (fun b hb z => ?_) h2⟩
    rw [List.mem_singleton.mp z] at hb
    exact nd.2.2 a q2 a hb rfl
  | none :: ρ, σ, P, i + 1, nd, ⟨y, τ, eσ, h⟩, e, e2 => ⟨y, τ, eσ, ER.mut ok ha h0 s hx hy nd h (by simpa using e) (by rw [eσ] at e2; simpa using e2)⟩
  | some z :: ρ, σ, P, i + 1, nd, ⟨w, τ, Q1, Q2, eσ, eP, h1, h2⟩, e, e2 => by
    rw [eσ] at e2
    rw [eP, List.nodup_append] at nd
    have e' : ρ[i]? = some (some x) := by simpa using e
    have e2' : τ[i]? = some (some v) := by simpa using e2
    obtain ⟨w', P1, q1, q2, q3⟩ := ER.get h2 e'
    have ew : w' = v := by rw [e2'] at q1; cases q1; rfl
    subst ew
    have ha2 : a ∈ Q2 := q3 a (hy P1 q2)
    refine ⟨w, τ, Q1, Q2, eσ, eP, SlR.stepO ok (fun x hx => by rw [List.mem_singleton.mp hx]; exact ha) (fun x hx => by rw [List.mem_singleton.mp hx]; exact h0) s (fun b hb z => ?_) h1, ER.mut ok ha h0 s hx hy nd.2.1 h2 e' e2'⟩
    rw [List.mem_singleton.mp z] at hb
    exact nd.2.2 a hb a ha2 rfl
end
end DL

set_option Elab.async false
set_option linter.all false
set_option maxRecDepth 100000
set_option maxHeartbeats 2000000
/-! The data layer: statements, loops, targets. -/
namespace DL
open PySem PySem.Spec PyProof.Rows L2
inductive SR where
  | nx (ρ : Env) (M : Mem)
  | rt (d : D) (M : Mem)
  | bk (ρ : Env) (M : Mem)
  | ct (ρ : Env) (M : Mem)
  | exc (c : Str) (f : Option (Str × D)) (ρ : Env) (M : Mem)
  | stuck
abbrev Ss := Env → Mem → SR
/-- what is wanted of a statement's end -/
def PZ (C : Cf) (H0 : Hp) (A m : List Addr) (H : Hp) (r : SR) (D : Ends) : Prop := match r with
  | .nx ρ' M' => ∀ A' H' σ' P', Ext H0 A H A' H' → FR C H0 A' m M' H' ρ' σ' P' → D.nx σ' H'
  | .bk ρ' M' => ∀ A' H' σ' P', Ext H0 A H A' H' → FR C H0 A' m M' H' ρ' σ' P' → D.bk σ' H'
  | .ct ρ' M' => ∀ A' H' σ' P', Ext H0 A H A' H' → FR C H0 A' m M' H' ρ' σ' P' → D.ct σ' H'
  | .rt d M' => ∀ H' v, WR C.K m M' H' → LamX.Tabs C.T H' → Stp m H0 H' → (∀ B : List Addr, (∀ a ∈ B, a ∈ A ∧ Lv H0 a) → Rp C.K B m H' d v) → D.rt v H'
  | .exc c f ρ' M' => ∀ A' H' σ' P' cls d, Ext H0 A H A' H' → FR C H0 A' m M' H' ρ' σ' P' → XR C.mg H' c f cls d → C.W cls d σ' H'
  | .stuck => False
def tS (C : Cf) (f : Ss) : TS := fun D σ H => ∃ H0 A m M ρ P, FR C H0 A m M H ρ σ P ∧ PZ C H0 A m H (f ρ M) D
/-- the ends but what follows are as before -/
theorem PZ.step {C : Cf} {H0 H H' : Hp} {A A' m : List Addr} {r : SR} {D : Ends} (e : Ext H0 A H A' H') (h : PZ C H0 A m H r D) : PZ C H0 A' m H' r D := by
  cases r with
  | nx ρ M => exact fun A2 H2 σ2 P2 e2 F => h A2 H2 σ2 P2 (e.trans e2) F
  | bk ρ M => exact fun A2 H2 σ2 P2 e2 F => h A2 H2 σ2 P2 (e.trans e2) F
  | ct ρ M => exact fun A2 H2 σ2 P2 e2 F => h A2 H2 σ2 P2 (e.trans e2) F
  | rt d M => exact fun H2 v w t s q => h H2 v w t s fun B hB => q B fun a ha => ⟨e.sub a (hB a ha).1 (hB a ha).2, (hB a ha).2⟩
  | exc c f ρ M => exact fun A2 H2 σ2 P2 cls d e2 F x => h A2 H2 σ2 P2 cls d (e.trans e2) F x
  | stuck => exact h
/-- an expression within a statement -/
def sE {α : Type} (r : R α) (ρ : Env) (k : α → Mem → SR) : SR := match r with
  | .ok a M => k a M
  | .exc c f M => .exc c f ρ M
  | .stuck => .stuck
theorem subS {α β : Type} {C : Cf} {H0 H : Hp} {A m : List Addr} {M : Mem} {ρ : Env} {σ : L2.St} {P : List Addr} {rel : Rel α β} {f : Sm α} {k : α → Mem → SR} {D : Ends} (F : FR C H0 A m M H ρ σ P) (h : PZ C H0 A m H (sE (f ρ M) ρ k) D) {G : β → Hp → Prop}
    (hk : ∀ d M1 H1 v, FR C H0 A m M1 H1 ρ σ P → Stp m H H1 → rel H0 A m H1 d v → PZ C H0 A m H1 (k d M1) D → G v H1) : tX C rel f σ H G := by
  refine ⟨H0, A, m, M, ρ, P, F, ?_⟩
  cases e : f ρ M with
  | ok d M1 =>
    rw [e] at h
    exact fun H1 v s w t q => hk d M1 H1 v (F.step s w t) s q (PZ.step (Ext.step s F.ma) h)
  | exc c g M1 =>
    rw [e] at h
    exact fun H1 cls d s w t x => h A H1 σ P cls d (Ext.step s F.ma) (F.step s w t) x
  | stuck => rw [e] at h; exact h.elim
section
variable {X : Cx} {T : List (Addr × Str)} {W : WX} {st : Stmt} {rest : List Stmt} {a b c e : Expr} {pos : Pos} {f g : Ss} {fe ge : Sm Ev} {tc : Sm Bool}
def sNext : Ss := fun ρ M => .nx ρ M
def sSeq (f g : Ss) : Ss := fun ρ M => match f ρ M with
  | .nx ρ' M' => g ρ' M'
  | r => r
theorem dss_nil : PSs X [] (tS (cf X T W) sNext) := by
  refine ⟨fun pins s σ H D I q => pss_nil.run pins s σ H D I ?_⟩
  obtain ⟨H0, A, m, M, ρ, P, F, q⟩ := q
  exact q A H σ P Ext.refl F
theorem dss_one (h : PS X st (tS (cf X T W) f)) : PSs X [st] (tS (cf X T W) f) := pss_one h
theorem seq_run {C : Cf} {H0 H : Hp} {A m : List Addr} {M : Mem} {ρ : Env} {D : Ends} (q : PZ C H0 A m H (sSeq f g ρ M) D) : PZ C H0 A m H (f ρ M) { D with nx := tS C g D } := by
  unfold sSeq at q
  cases e : f ρ M with
  | nx ρ' M' => rw [e] at q; exact fun A' H' σ' P' x F => ⟨H0, A', m, M', ρ', P', F, PZ.step x q⟩
  | bk ρ' M' => rw [e] at q; exact q
  | ct ρ' M' => rw [e] at q; exact q
  | rt d M' => rw [e] at q; exact q
  | exc c g ρ' M' => rw [e] at q; exact q
  | stuck => rw [e] at q; exact q
theorem dss_cons (h1 : PS X st (tS (cf X T W) f)) (h2 : PSs X rest (tS (cf X T W) g)) : PSs X (st :: rest) (tS (cf X T W) (sSeq f g)) := by
  refine ⟨fun pins s σ H D I q => (pss_cons h1 h2).run pins s σ H D I ?_⟩
  obtain ⟨H0, A, m, M, ρ, P, F, q⟩ := q
  exact ⟨H0, A, m, M, ρ, P, F, seq_run q⟩
theorem ds_pass : PS X (.Pass pos) (tS (cf X T W) sNext) := by
  refine ⟨fun pins s σ H D I q => ps_pass.run pins s σ H D I ?_⟩
  obtain ⟨H0, A, m, M, ρ, P, F, q⟩ := q
  exact q A H σ P Ext.refl F
def sBreak : Ss := fun ρ M => .bk ρ M
def sCont : Ss := fun ρ M => .ct ρ M
theorem ds_break : PS X (.Break pos) (tS (cf X T W) sBreak) := by
  refine ⟨fun pins s σ H D I q => ps_break.run pins s σ H D I ?_⟩
  obtain ⟨H0, A, m, M, ρ, P, F, q⟩ := q
  exact q A H σ P Ext.refl F
theorem ds_continue : PS X (.Continue pos) (tS (cf X T W) sCont) := by
  refine ⟨fun pins s σ H D I q => ps_continue.run pins s σ H D I ?_⟩
  obtain ⟨H0, A, m, M, ρ, P, F, q⟩ := q
  exact q A H σ P Ext.refl F
/-- an expression whose value is dropped -/
def sDrop (fe : Sm Ev) : Ss := fun ρ M => sE (fe ρ M) ρ fun _ M1 => .nx ρ M1
theorem ds_expr (he : PE X e (tE (cf X T W) fe)) (hs : swapsWith e none pos.line X.env = pure false := by rfl) : PS X (.Expr e pos) (tS (cf X T W) (sDrop fe)) := by
  refine ⟨fun pins s σ H D I q => (ps_expr he hs).run pins s σ H D I ?_⟩
  obtain ⟨H0, A, m, M, ρ, P, F, q⟩ := q
  refine subS F q fun x M1 H1 v F1 _ r1 q1 => ?_
  exact q1 A H1 σ P Ext.refl F1
/-- what is handed back -/
def retD : Ev → Option D
  | .d x => some x
  | .ls .vw l => some (.lst l)
  | .dk .vw ks l => some (.dK ks l)
  | .rw .vw rows => some (.lst (rows.map D.lst))
  | _ => none
def sRet (fe : Sm Ev) : Ss := fun ρ M => sE (fe ρ M) ρ fun x M1 => match retD x with
  | some d => .rt d M1
  | none => .stuck
theorem retD_at {K : PySem.W.Frag} {H0 H : Hp} {A B m : List Addr} {x : Ev} {d : D} {v : V} (h : retD x = some d) (r : EvR K H0 A m H x v) (hB : ∀ a ∈ B, a ∈ A ∧ Lv H0 a) : Rp K B m H d v := by
  have av : ∀ a ∈ B, a ∈ A ∨ ¬ Lv H a := fun a ha => .inl (hB a ha).1
  unfold retD at h
  split at h
  · cases h; exact Rp.avoid av _ _ r
  · cases h; obtain ⟨a, vs, e, hl, _, z, q⟩ := r; exact ⟨a, vs, e, hl, fun w => z (hB a w).2, Rps.avoid av _ _ q⟩
  · cases h; obtain ⟨a, vs, e, hl, ek, _, z, q⟩ := r; exact ⟨a, vs, e, hl, ek, fun w => z (hB a w).2, Rps.avoid av _ _ q⟩
  · cases h
    rename_i rows
    obtain ⟨a, vs, e, hl, _, z, q⟩ := r
    refine ⟨a, vs, e, hl, fun w => z (hB a w).2, ?_⟩
    have all : ∀ {rows : List (List D)} {vs : List V}, Paired (fun row u => ∃ b ws, u = V.ref b ∧ H b = some (.lst ws) ∧ b ∉ m ∧ ¬ Lv H0 b ∧ Rps K A m H row ws) rows vs → Rps K B m H (rows.map D.lst) vs := by
      intro rows vs h
      induction h with
      | nil => exact rfl
      | cons h1 h2 ih =>
        obtain ⟨b, ws, e1, e2, e3, e4, e5⟩ := h1
        exact ⟨_, _, rfl, ⟨b, ws, e1, e2, fun w => e4 (hB b w).2, Rps.avoid av _ _ e5⟩, ih⟩
    exact all q
  · cases h
theorem ds_ret (he : PE X e (tE (cf X T W) fe)) : PS X (.Return (some e) pos) (tS (cf X T W) (sRet fe)) := by
  refine ⟨fun pins s σ H D I q => (ps_ret he).run pins s σ H D I ?_⟩
  obtain ⟨H0, A, m, M, ρ, P, F, q⟩ := q
  refine subS F q fun x M1 H1 v F1 _ r1 q1 => ?_
  split at q1
  · rename_i d hd
    exact q1 H1 v F1.wr F1.tb F1.base fun B hB => retD_at hd r1 hB
  · exact q1.elim
def sRetN : Ss := fun _ M => .rt .non M
theorem ds_retN : PS X (.Return none pos) (tS (cf X T W) sRetN) := by
  refine ⟨fun pins s σ H D I q => ps_retN.run pins s σ H D I ?_⟩
  obtain ⟨H0, A, m, M, ρ, P, F, q⟩ := q
  exact q H .non F.wr F.tb F.base fun B hB => rfl
/-- if -/
def sIf (tc : Sm Bool) (f g : Ss) : Ss := fun ρ M => sE (tc ρ M) ρ fun k M1 => if k = true then f ρ M1 else g ρ M1
theorem ds_if {p q : List Stmt} (hc : PT X c (tT (cf X T W) tc)) (ha : PSs X p (tS (cf X T W) f)) (hb : PSs X q (tS (cf X T W) g)) : PS X (.If c p q pos) (tS (cf X T W) (sIf tc f g)) := by
  refine ⟨fun pins s σ H D I w => (ps_if hc ha hb).run pins s σ H D I ?_⟩
  obtain ⟨H0, A, m, M, ρ, P, F, w⟩ := w
  refine subS F w fun x M1 H1 v F1 _ r1 q1 => ?_
  cases (show x = v from r1)
  cases x with
  | true => exact ⟨H0, A, m, M1, ρ, P, F1, q1⟩
  | false => exact ⟨H0, A, m, M1, ρ, P, F1, q1⟩
/-- name = e -/
def stor : Ev → Option Ev
  | .d x => some (.d x)
  | .ls .pv l => some (.ls .pv l)
  | .dk .pv ks l => some (.dk .pv ks l)
  | .dt .pv ks l => some (.dt .pv ks l)
  | _ => none
theorem stor_at {K : PySem.W.Frag} {H0 H : Hp} {A m : List Addr} {x y : Ev} {v : V} (h : stor x = some y) (r : EvR K H0 A m H x v) : SlR K H0 A m H y v [] := by
  unfold stor at h
  split at h <;> cases h
  · exact ⟨rfl, r⟩
  · exact ⟨rfl, r⟩
  · exact ⟨rfl, r⟩
  · exact ⟨rfl, r⟩
def sAsg (i : Nat) (fe : Sm Ev) : Ss := fun ρ M => sE (fe ρ M) ρ fun x M1 => match stor x with
  | some y => if i < ρ.length then .nx (ρ.set i (some y)) M1 else .stuck
  | none => .stuck
theorem asg_run {C : Cf} {H0 H : Hp} {A m : List Addr} {M : Mem} {ρ : Env} {σ : L2.St} {P : List Addr} {D : Ends} {x : Ev} {v : V} {i : Nat} (F : FR C H0 A m M H ρ σ P) (r : EvR C.K H0 A m H x v)
    (q : PZ C H0 A m H (match stor x with | some y => if i < ρ.length then .nx (ρ.set i (some y)) M else .stuck | none => .stuck) D) : D.nx (σ.set i (some v)) H := by
  split at q
  · rename_i y hy
    split at q
    · rename_i hi
      obtain ⟨P', F'⟩ := F.set (stor_at hy r) hi
      exact q A H _ P' Ext.refl F'
    · exact q.elim
  · exact q.elim
theorem ds_set {i : Nat} {x : Str} {pos' : Pos} (hN : X.N.Nodup) (he : PE X e (tE (cf X T W) fe)) (hi : X.N[i]? = some x := by rfl) (hx : Loc X.env.scope x := by first | exact Or.inl rfl | exact Or.inr rfl) (hs : swapsWith e (some (.Name x pos')) pos.line X.env = pure false := by rfl) (hf : X.fn x = true ∨ X.env.scope.names.lookup x = some .local := by first | exact .inl rfl | exact .inr rfl | assumption) :
    PS X (.Assign [.Name x pos'] e pos) (tS (cf X T W) (sAsg i fe)) := by
  refine ⟨fun pins s σ H D I q => (ps_set hN hi hx he hs hf).run pins s σ H D I ?_⟩
  obtain ⟨H0, A, m, M, ρ, P, F, q⟩ := q
  refine subS F q fun x M1 H1 v F1 _ r1 q1 => ?_
  exact asg_run F1 r1 q1
/-! ### targets -/
inductive Tgt where
  | one (i : Nat)
  | many (is : List Nat)
def gsN : List Nat → TGs
  | [] => gNil
  | i :: is => gCons (gName i) (gsN is)
def tgG (K : PySem.W.Frag) : Tgt → TG
  | .one i => gName i
  | .many is => gTup K is.length (gsN is)
/-- .. a list unpacked -/
def tgL (K : PySem.W.Frag) : Tgt → TG
  | .one i => gName i
  | .many is => gLst K is.length (gsN is)
def setAll (σ : L2.St) : List Nat → List V → L2.St
  | i :: is, v :: vs => setAll (σ.set i (some v)) is vs
  | _, _ => σ
def setAllE (ρ : Env) : List Nat → List D → Env
  | i :: is, d :: l => setAllE (ρ.set i (some (.d d))) is l
  | _, _ => ρ
theorem setAllE_len : ∀ {is : List Nat} {l : List D} {ρ : Env}, (setAllE ρ is l).length = ρ.length
  | [], _, _ => rfl
  | _ :: _, [], _ => rfl
  | i :: is, d :: l, ρ => by show (setAllE (ρ.set i (some (.d d))) is l).length = _; rw [setAllE_len, List.length_set]
theorem gsN_run {H : Hp} {Q : L2.St → Hp → Prop} : ∀ {is : List Nat} {vs : List V} {σ : L2.St}, vs.length = is.length → Q (setAll σ is vs) H → gsN is vs σ H Q
  | [], [], σ, _, q => ⟨rfl, q⟩
  | i :: is, v :: vs, σ, h, q => ⟨v, vs, rfl, gsN_run (by simpa using h) q⟩
theorem FR.setAll {C : Cf} {H0 H : Hp} {A m : List Addr} {M : Mem} : ∀ {is : List Nat} {l : List D} {vs : List V} {ρ : Env} {σ : L2.St} {P : List Addr}, FR C H0 A m M H ρ σ P → Rps C.K A m H l vs → (∀ i ∈ is, i < ρ.length) → ∃ P', FR C H0 A m M H (setAllE ρ is l) (DL.setAll σ is vs) P'
  | [], _, _, ρ, σ, P, F, _, _ => ⟨P, F⟩
  | i :: is, [], vs, ρ, σ, P, F, r, _ => by cases (show vs = [] from r); exact ⟨P, F⟩
  | i :: is, d :: l, _, ρ, σ, P, F, ⟨v, r, e, h1, h2⟩, hi => by
    subst e
    obtain ⟨P1, F1⟩ := F.set (x := .d d) (v := v) (i := i) ⟨rfl, h1⟩ (hi i List.mem_cons_self)
    have q := FR.setAll (is := is) F1 h2 (fun j hj => by rw [List.length_set]; exact hi j (List.mem_cons_of_mem _ hj))
    exact q
/-- what a target makes of the slots -/
def tgE (g : Tgt) (ρ : Env) (d : D) : Option Env := match g with
  | .one i => if i < ρ.length then some (ρ.set i (some (.d d))) else none
  | .many is => match d with
    | .tup l => if l.length = is.length ∧ ∀ i ∈ is, i < ρ.length then some (setAllE ρ is l) else none
    | _ => none
theorem tg_run {C : Cf} {H0 H : Hp} {A m : List Addr} {M : Mem} {ρ ρ' : Env} {σ : L2.St} {P : List Addr} {g : Tgt} {d : D} {v : V} {Q : L2.St → Hp → Prop} (F : FR C H0 A m M H ρ σ P) (r : Rp C.K A m H d v) (h : tgE g ρ d = some ρ')
    (q : ∀ σ' P', FR C H0 A m M H ρ' σ' P' → Q σ' H) : tgG C.K g v σ H Q := by
  cases g with
  | one i =>
    have h' : (if i < ρ.length then some (ρ.set i (some (.d d))) else none) = some ρ' := h
    split at h'
    · rename_i hi
      cases h'
      obtain ⟨P', F'⟩ := F.set (x := .d d) (v := v) ⟨rfl, r⟩ hi
      exact q _ P' F'
    · cases h'
  | many is =>
    cases d with
    | tup l =>
      have h' : (if l.length = is.length ∧ ∀ i ∈ is, i < ρ.length then some (setAllE ρ is l) else none) = some ρ' := h
      split at h'
      · rename_i hc
        cases h'
        obtain ⟨a, vs, e, hs, r⟩ := r
        obtain ⟨P', F'⟩ := FR.setAll (is := is) F r hc.2
        exact ⟨a, vs, e, SqT.of hs, by rw [Rps.len r]; exact hc.1, gsN_run (by rw [Rps.len r]; exact hc.1) (q _ P' F')⟩
      · cases h'
    | _ => cases h
/-- a, b = e (e a tuple) -/
def sAsgT (g : Tgt) (fe : Sm Ev) : Ss := fun ρ M => sE (fe ρ M) ρ fun x M1 => match x with
  | .d d => match tgE g ρ d with
    | some ρ' => .nx ρ' M1
    | none => .stuck
  | _ => .stuck
theorem ds_asg {tg : Expr} {g : Tgt} (he : PE X e (tE (cf X T W) fe)) (hg : PG X tg (tgG X.K g)) (hs : swapsWithSole [tg] e pos.line X.env = pure false := by rfl) (hw : swappedStores [tg] e X.env = pure none := by rfl)
    (h1 : (assignEach [tg] X.env).map (·.2) = [assign tg X.env] := by rfl) : PS X (.Assign [tg] e pos) (tS (cf X T W) (sAsgT g fe)) := by
  refine ⟨fun pins s σ H D I q => (ps_asg he hg hs hw h1).run pins s σ H D I ?_⟩
  obtain ⟨H0, A, m, M, ρ, P, F, q⟩ := q
  refine subS F q fun x M1 H1 v F1 _ r1 q1 => ?_
  split at q1
  · rename_i d
    split at q1
    · rename_i ρ' hρ
      exact tg_run F1 r1 hρ fun σ' P' F' => q1 A H1 σ' P' Ext.refl F'
    · exact q1.elim
  · exact q1.elim
/-- a, b = x, y with plain names -/
def stors : List Ev → Option (List Ev)
  | [] => some []
  | x :: l => match stor x, stors l with
    | some y, some r => some (y :: r)
    | _, _ => none
def setEvs (ρ : Env) : List Nat → List Ev → Env
  | i :: is, x :: l => setEvs (ρ.set i (some x)) is l
  | _, _ => ρ
def sPar (is : List Nat) (fs : Sm (List Ev)) : Ss := fun ρ M => sE (fs ρ M) ρ fun xs M1 => match stors xs with
  | some ys => if ys.length = is.length ∧ ∀ i ∈ is, i < ρ.length then .nx (setEvs ρ is ys) M1 else .stuck
  | none => .stuck
theorem FR.setEvs {C : Cf} {H0 H : Hp} {A m : List Addr} {M : Mem} : ∀ {is : List Nat} {xs ys : List Ev} {vs : List V} {ρ : Env} {σ : L2.St} {P : List Addr}, FR C H0 A m M H ρ σ P → EvL C.K H0 A m H xs vs → stors xs = some ys → (∀ i ∈ is, i < ρ.length) → ∃ P', FR C H0 A m M H (DL.setEvs ρ is ys) (DL.setAll σ is vs) P'
  | [], _, _, _, ρ, σ, P, F, _, _, _ => ⟨P, F⟩
  | i :: is, [], ys, vs, ρ, σ, P, F, r, h, _ => by cases r; cases h; exact ⟨P, F⟩
  | i :: is, x :: xs, ys, vs, ρ, σ, P, F, r, h, hi => by
    cases r with
    | cons r1 r2 =>
      unfold stors at h
      split at h
      · rename_i y r e1 e2
        cases h
        obtain ⟨P1, F1⟩ := F.set (i := i) (stor_at e1 r1) (hi i List.mem_cons_self)
        have q := FR.setEvs (is := is) F1 r2 e2 (fun j hj => by rw [List.length_set]; exact hi j (List.mem_cons_of_mem _ hj))
        exact q
      · cases h
theorem stors_len : ∀ {xs ys : List Ev}, stors xs = some ys → ys.length = xs.length
  | [], _, h => by cases h; rfl
  | x :: xs, _, h => by
    unfold stors at h
    split at h
    · rename_i y r e1 e2; cases h; rw [List.length_cons, List.length_cons, stors_len e2]
    · cases h
theorem ds_par {i j : Nat} {x y : Str} {fs : Sm (List Ev)} {px py pt : Pos} {kt k2 pt2} (hc : X.calm = true) (hN : X.N.Nodup) (ha : PA X [a, b] (tA (cf X T W) fs)) (hi : X.N[i]? = some x := by rfl) (hj : X.N[j]? = some y := by rfl) (hij : i ≠ j := by decide)
    (hx : X.env.scope.names.lookup x = some .local := by rfl) (hy : X.env.scope.names.lookup y = some .local := by rfl)
    (hw : swappedStores [.Tuple [.Name x px, .Name y py] kt pt] (.Tuple [a, b] k2 pt2) X.env = pure (some [x, y]) := by rfl)
    (hs : swapsWithSole [.Tuple [.Name x px, .Name y py] kt pt] (.Tuple [a, b] k2 pt2) pos.line X.env = pure false := by rfl) :
    PS X (.Assign [.Tuple [.Name x px, .Name y py] kt pt] (.Tuple [a, b] k2 pt2) pos) (tS (cf X T W) (sPar [i, j] fs)) := by
  refine ⟨fun pins s σ H D I q => (ps_par hc hN hi hj hij hx hy ha hw hs).run pins s σ H D I ?_⟩
  obtain ⟨H0, A, m, M, ρ, P, F, q⟩ := q
  refine subS F q fun xs M1 H1 vs F1 _ r1 q1 => ?_
  split at q1
  · rename_i ys hy
    split at q1
    · rename_i hc
      have e1 : xs.length = 2 := by rw [← stors_len hy]; exact hc.1
      obtain ⟨P', F'⟩ := FR.setEvs (is := [i, j]) F1 r1 hy hc.2
      have e2 : vs.length = 2 := by rw [← Paired.length r1]; exact e1
      match vs, e2 with
      | [v, w], _ => exact ⟨v, w, rfl, q1 A H1 _ P' Ext.refl F'⟩
    · exact q1.elim
  · exact q1.elim
theorem ds_par3 {i j l : Nat} {x y z : Str} {c : Expr} {fs : Sm (List Ev)} {px py pz pt : Pos} {kt k2 pt2} (hc : X.calm = true) (hN : X.N.Nodup) (ha : PA X [a, b, c] (tA (cf X T W) fs)) (hi : X.N[i]? = some x := by rfl) (hj : X.N[j]? = some y := by rfl) (hl : X.N[l]? = some z := by rfl) (hij : i ≠ j := by decide) (hil : i ≠ l := by decide) (hjl : j ≠ l := by decide)
    (hx : X.env.scope.names.lookup x = some .local := by rfl) (hy : X.env.scope.names.lookup y = some .local := by rfl) (hz : X.env.scope.names.lookup z = some .local := by rfl)
    (hw : swappedStores [.Tuple [.Name x px, .Name y py, .Name z pz] kt pt] (.Tuple [a, b, c] k2 pt2) X.env = pure (some [x, y, z]) := by rfl)
    (hs : swapsWithSole [.Tuple [.Name x px, .Name y py, .Name z pz] kt pt] (.Tuple [a, b, c] k2 pt2) pos.line X.env = pure false := by rfl) :
    PS X (.Assign [.Tuple [.Name x px, .Name y py, .Name z pz] kt pt] (.Tuple [a, b, c] k2 pt2) pos) (tS (cf X T W) (sPar [i, j, l] fs)) := by
  refine ⟨fun pins s σ H D I q => (ps_par3 hc hN hi hj hl hij hil hjl hx hy hz ha hw hs).run pins s σ H D I ?_⟩
  obtain ⟨H0, A, m, M, ρ, P, F, q⟩ := q
  refine subS F q fun xs M1 H1 vs F1 _ r1 q1 => ?_
  split at q1
  · rename_i ys hy
    split at q1
    · rename_i hc
      have e1 : xs.length = 3 := by rw [← stors_len hy]; exact hc.1
      obtain ⟨P', F'⟩ := FR.setEvs (is := [i, j, l]) F1 r1 hy hc.2
      have e2 : vs.length = 3 := by rw [← Paired.length r1]; exact e1
      match vs, e2 with
      | [v, w, u], _ => exact ⟨v, w, u, rfl, q1 A H1 _ P' Ext.refl F'⟩
    · exact q1.elim
  · exact q1.elim
/-! ### while -/
def sWhile (tc : Sm Bool) (f : Ss) : Nat → Ss
  | 0 => fun _ _ => .stuck
  | n + 1 => fun ρ M => sE (tc ρ M) ρ fun k M1 => if k = true then match f ρ M1 with
      | .nx ρ' M' => sWhile tc f n ρ' M'
      | .ct ρ' M' => sWhile tc f n ρ' M'
      | .bk ρ' M' => .nx ρ' M'
      | r => r
    else .nx ρ M1
/-- a turn's end: what the rest of the loop makes of it -/
theorem loop_run {C : Cf} {H0 H : Hp} {A m : List Addr} {r : SR} {k : Ss} {D : Ends} {N : L2.St → Hp → Prop}
    (q : PZ C H0 A m H (match r with | .nx ρ' M' => k ρ' M' | .ct ρ' M' => k ρ' M' | .bk ρ' M' => .nx ρ' M' | r => r) D)
    (hN : ∀ A' H' σ' P' ρ' M', Ext H0 A H A' H' → FR C H0 A' m M' H' ρ' σ' P' → PZ C H0 A' m H' (k ρ' M') D → N σ' H') : PZ C H0 A m H r { D with nx := N, ct := N, bk := D.nx } := by
  cases r with
  | nx ρ' M' => exact fun A' H' σ' P' e F => hN A' H' σ' P' ρ' M' e F (PZ.step e q)
  | ct ρ' M' => exact fun A' H' σ' P' e F => hN A' H' σ' P' ρ' M' e F (PZ.step e q)
  | bk ρ' M' => exact q
  | rt d M' => exact q
  | exc c g ρ' M' => exact q
  | stuck => exact q
theorem ds_while {n : Nat} {body : List Stmt} (hp : PassesOwn (model X.prog X.w) X.A X.env X.xe) (hc : PT X c (tT (cf X T W) tc)) (hb : PSs X body (tS (cf X T W) f)) : PS X (.While c body [] pos) (tS (cf X T W) (sWhile tc f n)) := by
  refine ⟨fun pins s σ H D I q => (ps_while hp hc hb).run pins s σ H D I ?_⟩
  refine ⟨fun k σ H => tS (cf X T W) (sWhile tc f k) D σ H, ⟨n, q⟩, fun k σ H q => ?_⟩
  obtain ⟨H0, A, m, M, ρ, P, F, q⟩ := q
  cases k with
  | zero => exact q.elim
  | succ k =>
    refine subS F q fun x M1 H1 v F1 _ r1 q1 => ?_
    cases (show x = v from r1)
    cases x with
    | false => exact q1 A H1 σ P Ext.refl F1
    | true =>
      refine ⟨fun σ' H' => tS (cf X T W) (sWhile tc f k) D σ' H', fun σ' H' h => ⟨k, Nat.lt_succ_self k, h⟩, H0, A, m, M1, ρ, P, F1, ?_⟩
      exact loop_run (k := sWhile tc f k) q1 fun A' H' σ' P' ρ' M' e F' q' => ⟨H0, A', m, M', ρ', P', F', q'⟩
/-- turns over items -/
def forL (g : Tgt) (f : Ss) : List D → Ss
  | [] => fun ρ M => .nx ρ M
  | d :: r => fun ρ M => match tgE g ρ d with
    | some ρ1 => match f ρ1 M with
      | .nx ρ' M' => forL g f r ρ' M'
      | .ct ρ' M' => forL g f r ρ' M'
      | .bk ρ' M' => .nx ρ' M'
      | r => r
    | none => .stuck
def sFor (it : Sm (List D)) (g : Tgt) (f : Ss) : Ss := fun ρ M => sE (it ρ M) ρ fun items M1 => forL g f items ρ M1
end
end DL

set_option Elab.async false
set_option linter.all false
set_option maxRecDepth 100000
set_option maxHeartbeats 2000000
/-! The data layer: walked things, comprehensions. -/
namespace DL
open PySem PySem.Spec PyProof.Rows L2
/-- how far the heap may have gone while something is walked: by statements, within a comprehension -/
def RchS (A m : List Addr) (H0 H1 : Hp) (A' : List Addr) (H2 : Hp) : Prop := Ext H0 A H1 A' H2 ∧ Stp m H0 H2
def RchC (A m : List Addr) (H1 : Hp) (A' : List Addr) (H2 : Hp) : Prop := (∀ a ∈ A', a ∈ A ∨ ¬ Lv H1 a) ∧ (∀ a ∈ A, a ∈ A') ∧ Stp m H1 H2
/-- the walk J gives items -/
structure Wk (C : Cf) (m : List Addr) (Rch : List Addr → Hp → Prop) (items : List D) (J : It) : Prop where
  go : ∀ A' H2, Rch A' H2 → ∀ (i : Nat) (d : D), items[i]? = some d → J.go i H2 ∧ ∀ x H3, J.yld i H2 x H3 → (H3 = H2 ∨ ∃ p o, H2 p = none ∧ H3 = upd H2 p o) ∧ Rp C.K A' m H3 d x
  stop : ∀ A' H2, Rch A' H2 → J.stop items.length H2
/-- k: within a comprehension -/
def tI (C : Cf) (k : Bool) (f : Sm (List D)) : TI := fun σ H G => ∃ H0 A m M ρ P, FR C H0 A m M H ρ σ P ∧ match f ρ M with
  | .ok items M1 => ∀ J H1, Stp m H H1 → WR C.K m M1 H1 → LamX.Tabs C.T H1 → Wk C m (if k = true then RchC A m H1 else RchS A m H0 H1) items J → G J H1
  | .exc c g M1 => ∀ H1 cls d, Stp m H H1 → WR C.K m M1 H1 → LamX.Tabs C.T H1 → XR C.mg H1 c g cls d → C.W cls d σ H1
  | .stuck => False
theorem subI {C : Cf} {k : Bool} {H0 H : Hp} {A m : List Addr} {M : Mem} {ρ : Env} {σ : L2.St} {P : List Addr} {α β : Type} {rel : Rel α β} {f : Sm α} {q : α → Mem → R (List D)} {G : It → Hp → Prop} (F : FR C H0 A m M H ρ σ P)
    (h : match bnd (f ρ M) q with
      | .ok items M1 => ∀ J H1, Stp m H H1 → WR C.K m M1 H1 → LamX.Tabs C.T H1 → Wk C m (if k = true then RchC A m H1 else RchS A m H0 H1) items J → G J H1
      | .exc c g M1 => ∀ H1 cls d, Stp m H H1 → WR C.K m M1 H1 → LamX.Tabs C.T H1 → XR C.mg H1 c g cls d → C.W cls d σ H1
      | .stuck => False) {G' : β → Hp → Prop}
    (hk : ∀ d M1 H1 v, FR C H0 A m M1 H1 ρ σ P → rel H0 A m H1 d v → (match q d M1 with
      | .ok items M2 => ∀ J H2, Stp m H1 H2 → WR C.K m M2 H2 → LamX.Tabs C.T H2 → Wk C m (if k = true then RchC A m H2 else RchS A m H0 H2) items J → G J H2
      | .exc c g M2 => ∀ H2 cls d, Stp m H1 H2 → WR C.K m M2 H2 → LamX.Tabs C.T H2 → XR C.mg H2 c g cls d → C.W cls d σ H2
      | .stuck => False) → G' v H1) : tX C rel f σ H G' := by
  refine ⟨H0, A, m, M, ρ, P, F, ?_⟩
  cases e : f ρ M with
  | stuck => rw [e] at h; exact h.elim
  | exc c g M1 => rw [e] at h; exact h
  | ok d M1 =>
    rw [e] at h
    intro H1 v s w t r
    refine hk d M1 H1 v (F.step s w t) r ?_
    have h' : (match q d M1 with
      | .ok items M1 => ∀ J H1, Stp m H H1 → WR C.K m M1 H1 → LamX.Tabs C.T H1 → Wk C m (if k = true then RchC A m H1 else RchS A m H0 H1) items J → G J H1
      | .exc c g M1 => ∀ H1 cls d, Stp m H H1 → WR C.K m M1 H1 → LamX.Tabs C.T H1 → XR C.mg H1 c g cls d → C.W cls d σ H1
      | .stuck => False) := h
    cases e2 : q d M1 with
    | stuck => rw [e2] at h'; exact h'.elim
    | exc c g M2 => rw [e2] at h'; exact fun H2 cls d s2 w t x => h' H2 cls d (s.trans s2) w t x
    | ok items M2 => rw [e2] at h'; exact fun J H2 s2 w t K => h' J H2 (s.trans s2) w t K
/-- a thing that is walked -/
def itemsOf (k : Bool) : Ev → Option (List D)
  | .d (.tup l) => some l
  | .d (.lst l) => some l
  | .ls .pv l => some l
  | .ls .vw l => if k = true then some l else none
  | _ => none
theorem list_stays {C : Cf} {k : Bool} {H0 H1 : Hp} {A m : List Addr} {M : Mem} {ρ : Env} {σ : L2.St} {P : List Addr} (F : FR C H0 A m M H1 ρ σ P) {x : Ev} {v : V} {l : List D} (hx : (∃ l, x = .d (.tup l)) → False) (h : itemsOf k x = some l) (r : EvR C.K H0 A m H1 x v) :
    ∃ a vs, v = .ref a ∧ H1 a = some (.lst vs) ∧ vs.length = l.length ∧ ∀ A' H2, (if k = true then RchC A m H1 else RchS A m H0 H1) A' H2 → H2 a = some (.lst vs) ∧ Rps C.K A' m H2 l vs := by
  have key : ∀ {a : Addr} {vs : List V}, H1 a = some (.lst vs) → a ∉ m → (a ∉ A ∨ (Lv H0 a ∨ k = true)) → Rps C.K A m H1 l vs → ∀ A' H2, (if k = true then RchC A m H1 else RchS A m H0 H1) A' H2 → H2 a = some (.lst vs) ∧ Rps C.K A' m H2 l vs := by
    intro a vs hl hm ha q A' H2 hr
    cases k with
    | true =>
      obtain ⟨h1, h2, h3⟩ := hr
      exact ⟨h3 a _ hl hm lst_tbl, Rps.step (B := m) F.wr.aok (fun b hb => h2 b (F.ma b hb)) h3 _ _ (Rps.avoid h1 _ _ q)⟩
    | false =>
      obtain ⟨h1, h2⟩ := hr
      refine ⟨?_, Rps.ext h1 F.aok q⟩
      rcases ha with ha | ha | ha
      · exact h1.keep a _ hl ha lst_tbl
      · obtain ⟨o, e, t⟩ := ha
        have e1 := F.base a o e hm t
        rw [hl] at e1; cases e1
        exact h2 a _ e hm t
      · cases ha
  unfold itemsOf at h
  split at h
  · exact (hx ⟨_, rfl⟩).elim
  · cases h
    obtain ⟨a, vs, e, hl, hn, q⟩ := r
    exact ⟨a, vs, e, hl, Rps.len q, key hl (fun z => hn (F.ma a z)) (.inl hn) q⟩
  · cases h
    obtain ⟨a, vs, e, hl, hm, hv, q⟩ := r
    exact ⟨a, vs, e, hl, Rps.len q, key hl hm (.inr (.inl hv)) q⟩
  · split at h
    · rename_i hk
      cases h
      obtain ⟨a, vs, e, hl, hm, hv, q⟩ := r
      exact ⟨a, vs, e, hl, Rps.len q, key hl hm (.inr (.inr hk)) q⟩
    · cases h
  · cases h
theorem tup_stays {C : Cf} {k : Bool} {H0 H1 : Hp} {A m : List Addr} {M : Mem} {ρ : Env} {σ : L2.St} {P : List Addr} (F : FR C H0 A m M H1 ρ σ P) {v : V} {l : List D} (r : Rp C.K A m H1 (.tup l) v) :
    ∃ a vs, v = .ref a ∧ H1 a = some (.tup vs) ∧ vs.length = l.length ∧ ∀ A' H2, (if k = true then RchC A m H1 else RchS A m H0 H1) A' H2 → H2 a = some (.tup vs) ∧ Rps C.K A' m H2 l vs := by
  obtain ⟨a, vs, e, hl, q⟩ := r
  refine ⟨a, vs, e, hl, Rps.len q, fun A' H2 hr => ?_⟩
  cases k with
  | true =>
    obtain ⟨h1, h2, h3⟩ := hr
    exact ⟨tup_step F.wr.aok h3 hl, Rps.step (B := m) F.wr.aok (fun b hb => h2 b (F.ma b hb)) h3 _ _ (Rps.avoid h1 _ _ q)⟩
  | false =>
    obtain ⟨h1, h2⟩ := hr
    exact ⟨tup_step F.aok h1.keep hl, Rps.ext h1 F.aok q⟩
section
variable {X : Cx} {T : List (Addr × Str)} {W : WX} {a b c e : Expr} {es : List Expr} {tg : Expr} {pos p : Pos} {f g : Sm Ev} {fs : Sm (List Ev)} {k : Bool}
theorem PI.or {w1 w2 : TI} (h1 : PI X tg e w1) (h2 : PI X tg e w2) : PI X tg e (fun σ H G => w1 σ H G ∨ w2 σ H G) := ⟨fun pins s σ H G I h => h.elim (fun q => h1.run pins s σ H G I q) (fun q => h2.run pins s σ H G I q)⟩
def iSeq (k : Bool) (f : Sm Ev) : Sm (List D) := fun ρ M => bnd (f ρ M) fun x M1 => match itemsOf k x with
  | some l => .ok l M1
  | none => .stuck
theorem walkT {C : Cf} {k : Bool} {H0 H1 : Hp} {A m : List Addr} {M : Mem} {ρ : Env} {σ : L2.St} {P : List Addr} (F : FR C H0 A m M H1 ρ σ P) {v : V} {l : List D} (r : Rp C.K A m H1 (.tup l) v) :
    ∃ a, v = .ref a ∧ (∃ xs, SqT C.K H1 a xs) ∧ Wk C m (if k = true then RchC A m H1 else RchS A m H0 H1) l (Itt C.K a) := by
  obtain ⟨a, vs, e, hl, len, st⟩ := tup_stays (k := k) F r
  refine ⟨a, e, ⟨vs, SqT.of hl⟩, ⟨fun A' H2 hr i d hd => ?_, fun A' H2 hr => ?_⟩⟩
  · obtain ⟨h2, q⟩ := st A' H2 hr
    obtain ⟨u, e1, e2⟩ := Rps.get q hd
    refine ⟨⟨vs, u, SqT.of h2, e1⟩, fun y H3 hy => ?_⟩
    obtain ⟨rfl, hy⟩ := hy
    have e3 := hy vs (SqT.of h2)
    rw [e1] at e3; cases e3
    exact ⟨.inl rfl, e2⟩
  · obtain ⟨h2, q⟩ := st A' H2 hr
    exact ⟨vs, SqT.of h2, by rw [len]; exact Nat.le_refl _⟩
theorem walkL {C : Cf} {k : Bool} {H0 H1 : Hp} {A m : List Addr} {M : Mem} {ρ : Env} {σ : L2.St} {P : List Addr} (F : FR C H0 A m M H1 ρ σ P) {x : Ev} {v : V} {l : List D} (hx : (∃ l, x = .d (.tup l)) → False) (h : itemsOf k x = some l) (r : EvR C.K H0 A m H1 x v) :
    ∃ a, v = .ref a ∧ (∃ xs, SqL C.K H1 a xs) ∧ Wk C m (if k = true then RchC A m H1 else RchS A m H0 H1) l (Itl C.K a) := by
  obtain ⟨a, vs, e, hl, len, st⟩ := list_stays F hx h r
  refine ⟨a, e, ⟨vs, SqL.of hl⟩, ⟨fun A' H2 hr i d hd => ?_, fun A' H2 hr => ?_⟩⟩
  · obtain ⟨h2, q⟩ := st A' H2 hr
    obtain ⟨u, e1, e2⟩ := Rps.get q hd
    refine ⟨⟨vs, u, SqL.of h2, e1⟩, fun y H3 hy => ?_⟩
    obtain ⟨rfl, hy⟩ := hy
    have e3 := hy vs (SqL.of h2)
    rw [e1] at e3; cases e3
    exact ⟨.inl rfl, e2⟩
  · obtain ⟨h2, q⟩ := st A' H2 hr
    exact ⟨vs, SqL.of h2, by rw [len]; exact Nat.le_refl _⟩
theorem di_seq (ha : PE X e (tE (cf X T W) f)) : PI X tg e (tI (cf X T W) k (iSeq k f)) := by
  refine ⟨fun pins s σ H G I q => (PI.or (pi_list ha) (pi_tup ha)).run pins s σ H G I ?_⟩
  obtain ⟨H0, A, m, M, ρ, P, F, q⟩ := q
  unfold iSeq at q
  cases e1 : f ρ M with
  | stuck => rw [e1] at q; exact q.elim
  | exc c g M1 =>
    rw [e1] at q
    exact .inl ⟨H0, A, m, M, ρ, P, F, by rw [e1]; exact q⟩
  | ok x M1 =>
    rw [e1, bnd_ok] at q
    cases e2 : itemsOf k x with
    | none => rw [e2] at q; exact q.elim
    | some l =>
      rw [e2] at q
      by_cases hx : ∃ l, x = .d (.tup l)
      · obtain ⟨l', rfl⟩ := hx
        cases e2
        refine .inr ⟨H0, A, m, M, ρ, P, F, by
          rw [e1]
          intro H1 v s w t r
          obtain ⟨a, ev, hs, K⟩ := walkT (k := k) (F.step s w t) r
          exact ⟨a, ev, hs, q _ H1 s w t K⟩⟩
      · refine .inl ⟨H0, A, m, M, ρ, P, F, by
          rw [e1]
          intro H1 v s w t r
          obtain ⟨a, ev, hs, K⟩ := walkL (F.step s w t) hx e2 r
          exact ⟨a, ev, hs, q _ H1 s w t K⟩⟩
/-! range -/
def rangeL (lo : Int) (n : Nat) (c : Int) : List D := (List.range n).map fun (i : Nat) => .int (lo + (i : Int) * c)
def rngOk (i : Int) : Prop := -1000000000000 ≤ i ∧ i ≤ 1000000000000
instance (i : Int) : Decidable (rngOk i) := by unfold rngOk; infer_instance
def optR {α : Type} (o : Option α) (M : Mem) : R α := match o with
  | some a => .ok a M
  | none => .stuck
def rng1 (xs : List Ev) : Option (List D) := match xs with
  | [.d (.int j)] => if rngOk j then some (rangeL 0 j.toNat 1) else none
  | _ => none
def rng2 (xs : List Ev) : Option (List D) := match xs with
  | [.d (.int i), .d (.int j)] => if rngOk i ∧ rngOk j then some (rangeL i (j - i).toNat 1) else none
  | _ => none
def rng3 (xs : List Ev) : Option (List D) := match xs with
  | [.d (.int i), .d (.int j), .d (.int c)] => if c ≠ 0 ∧ c.natAbs < 1073741824 ∧ Builtin.Range.small i j c = true ∧ 0 ≤ Builtin.Range.rangeSize i j c then some (rangeL i (Builtin.Range.rangeSize i j c).toNat c) else none
  | _ => none
def iO (o : List Ev → Option (List D)) (fs : Sm (List Ev)) : Sm (List D) := fun ρ M => bnd (fs ρ M) fun xs M1 => optR (o xs) M1
theorem wk_range {C : Cf} {m : List Addr} {Rch : List Addr → Hp → Prop} (lo : Int) (n : Nat) : Wk C m Rch (rangeL lo n 1) (Itr lo n) := by
  refine ⟨fun A' H2 _ i d hd => ?_, fun A' H2 _ => ?_⟩
  · unfold rangeL at hd
    rw [List.getElem?_map] at hd
    cases e : (List.range n)[i]? with
    | none => rw [e] at hd; cases hd
    | some j =>
      rw [e] at hd
      have hi : i < n := by have := (List.getElem?_eq_some_iff.mp e).1; simpa using this
      have ej : i = j := by have := (List.getElem?_eq_some_iff.mp e).2; simpa using this
      subst ej
      cases hd
      refine ⟨hi, fun x H3 hy => ?_⟩
      obtain ⟨rfl, rfl⟩ := hy
      refine ⟨.inl rfl, ?_⟩
      show V.int (lo + (i : Int)) = V.int (lo + (i : Int) * 1)
      rw [Int.mul_one]
  · show n ≤ (rangeL lo n 1).length
    unfold rangeL; simp
theorem wk_rangeC {C : Cf} {m : List Addr} {Rch : List Addr → Hp → Prop} (lo c : Int) (n : Nat) : Wk C m Rch (rangeL lo n c) (Itc lo c n) := by
  refine ⟨fun A' H2 _ i d hd => ?_, fun A' H2 _ => ?_⟩
  · unfold rangeL at hd
    rw [List.getElem?_map] at hd
    cases e : (List.range n)[i]? with
    | none => rw [e] at hd; cases hd
    | some j =>
      rw [e] at hd
      have hi : i < n := by have := (List.getElem?_eq_some_iff.mp e).1; simpa using this
      have ej : i = j := by have := (List.getElem?_eq_some_iff.mp e).2; simpa using this
      subst ej
      cases hd
      refine ⟨hi, fun x H3 hy => ?_⟩
      obtain ⟨rfl, rfl⟩ := hy
      exact ⟨.inl rfl, rfl⟩
  · show n ≤ (rangeL lo n c).length
    unfold rangeL; simp
theorem Paired.three {α β : Type} {G : α → β → Prop} {x y z : α} {vs : List β} (h : Paired G [x, y, z] vs) : ∃ v w u, vs = [v, w, u] ∧ G x v ∧ G y w ∧ G z u := by
  cases h with
  | cons a b => cases b with
    | cons c d => cases d with
      | cons e f => cases f; exact ⟨_, _, _, rfl, a, c, e⟩
theorem di_O {o : List Ev → Option (List D)} {H0 H : Hp} {A m : List Addr} {M : Mem} {ρ : Env} {σ : L2.St} {P : List Addr} {G : It → Hp → Prop} {C : Cf} (F : FR C H0 A m M H ρ σ P)
    (q : match iO o fs ρ M with
      | .ok items M1 => ∀ J H1, Stp m H H1 → WR C.K m M1 H1 → LamX.Tabs C.T H1 → Wk C m (if k = true then RchC A m H1 else RchS A m H0 H1) items J → G J H1
      | .exc c g M1 => ∀ H1 cls d, Stp m H H1 → WR C.K m M1 H1 → LamX.Tabs C.T H1 → XR C.mg H1 c g cls d → C.W cls d σ H1
      | .stuck => False) {G' : List V → Hp → Prop}
    (hk : ∀ xs items M1 H1 vs, FR C H0 A m M1 H1 ρ σ P → EvL C.K H0 A m H1 xs vs → o xs = some items → (∀ J, Wk C m (if k = true then RchC A m H1 else RchS A m H0 H1) items J → G J H1) → G' vs H1) : tA C fs σ H G' := by
  refine subI F q fun xs M1 H1 vs F1 r1 q1 => ?_
  cases e : o xs with
  | none => rw [e] at q1; exact q1.elim
  | some items =>
    rw [e] at q1
    exact hk xs items M1 H1 vs F1 r1 e fun J K => q1 J H1 (Stp.refl _ _) F1.wr F1.tb K
theorem di_rng1 (hg : Gl X "range") (hm : X.mg "range" = none) (ha : PA X [a] (tA (cf X T W) fs)) (hs : starEach [a] X.env = [(false, eval a X.env)] := by rfl) : PI X tg (.Call (.Name "range" p) [a] [] pos) (tI (cf X T W) k (iO rng1 fs)) := by
  refine ⟨fun pins s σ H G I q => (pi_range1 hg hm ha hs).run pins s σ H G I ?_⟩
  obtain ⟨H0, A, m, M, ρ, P, F, q⟩ := q
  refine di_O F q fun xs items M1 H1 vs F1 r1 e q1 => ?_
  unfold rng1 at e
  split at e
  · rename_i j
    split at e
    · rename_i hc
      cases e
      obtain ⟨v, rfl, r⟩ := Paired.one r1
      unfold rngOk at hc
      exact ⟨j, by rw [show v = V.int j from r], by omega, by omega, q1 _ (wk_range 0 j.toNat)⟩
    · cases e
  · cases e
theorem di_rng2 (hg : Gl X "range") (hm : X.mg "range" = none) (ha : PA X [a, b] (tA (cf X T W) fs)) (hs : starEach [a, b] X.env = [(false, eval a X.env), (false, eval b X.env)] := by rfl) (hs2 : starEach [b] X.env = [(false, eval b X.env)] := by rfl) : PI X tg (.Call (.Name "range" p) [a, b] [] pos) (tI (cf X T W) k (iO rng2 fs)) := by
  refine ⟨fun pins s σ H G I q => (pi_range2 hg hm ha hs hs2).run pins s σ H G I ?_⟩
  obtain ⟨H0, A, m, M, ρ, P, F, q⟩ := q
  refine di_O F q fun xs items M1 H1 vs F1 r1 e q1 => ?_
  unfold rng2 at e
  split at e
  · rename_i i j
    split at e
    · rename_i hc
      cases e
      obtain ⟨v, w, rfl, r, r'⟩ := Paired.two r1
      unfold rngOk at hc
      exact ⟨i, j, by rw [show v = V.int i from r, show w = V.int j from r'], ⟨by omega, by omega, by omega, by omega⟩, q1 _ (wk_range i (j - i).toNat)⟩
    · cases e
  · cases e
theorem di_rng3 (hg : Gl X "range") (hm : X.mg "range" = none) (ha : PA X [a, b, c] (tA (cf X T W) fs)) (hs : starEach [a, b, c] X.env = (false, eval a X.env) :: starEach [b, c] X.env := by rfl) (hpl : (backTo pos (starEach [b, c] X.env)).any (·.1) = false := by rfl) : PI X tg (.Call (.Name "range" p) [a, b, c] [] pos) (tI (cf X T W) k (iO rng3 fs)) := by
  refine ⟨fun pins s σ H G I q => (pi_range3 hg hm ha hs hpl).run pins s σ H G I ?_⟩
  obtain ⟨H0, A, m, M, ρ, P, F, q⟩ := q
  refine di_O F q fun xs items M1 H1 vs F1 r1 e q1 => ?_
  unfold rng3 at e
  split at e
  · rename_i i j c'
    split at e
    · rename_i hc
      cases e
      obtain ⟨v, w, u, rfl, r, r', r''⟩ := Paired.three r1
      refine ⟨i, j, c', (Builtin.Range.rangeSize i j c').toNat, by rw [show v = V.int i from r, show w = V.int j from r', show u = V.int c' from r''], ⟨hc.1, hc.2.1, hc.2.2.1, ?_⟩, q1 _ (wk_rangeC i c' _)⟩
      rw [Int.toNat_of_nonneg hc.2.2.2]
    · cases e
  · cases e
/-! enumerate(list), zip -/
def pairL (l : List D) : List D := l.zipIdx.map fun p => .tup [.int (p.2 : Int), p.1]
def zipL (l l' : List D) : List D := (l.zip l').map fun p => .tup [p.1, p.2]
theorem pairL_get {l : List D} {i : Nat} {d : D} (h : (pairL l)[i]? = some d) : ∃ x, l[i]? = some x ∧ d = .tup [.int (i : Int), x] := by
  unfold pairL at h
  rw [List.getElem?_map, List.getElem?_zipIdx] at h
  cases e : l[i]? with
  | none => rw [e] at h; cases h
  | some x => rw [e] at h; simp at h; exact ⟨x, rfl, h.symm⟩
theorem pairL_len (l : List D) : (pairL l).length = l.length := by unfold pairL; simp
theorem zipL_get {l l' : List D} {i : Nat} {d : D} (h : (zipL l l')[i]? = some d) : ∃ x y, l[i]? = some x ∧ l'[i]? = some y ∧ d = .tup [x, y] := by
  unfold zipL at h
  rw [List.getElem?_map] at h
  cases e : (l.zip l')[i]? with
  | none => rw [e] at h; cases h
  | some p =>
    rw [e] at h
    have q := List.getElem?_zip_eq_some.mp e
    simp at h
    exact ⟨p.1, p.2, q.1, q.2, h.symm⟩
theorem pair_new {K : PySem.W.Frag} {A m : List Addr} {H : Hp} {x y : D} {v w : V} {p : Addr} (hp : H p = none) (h1 : Rp K A m H x v) (h2 : Rp K A m H y w) : Rp K A m (upd H p (.tup [v, w])) (.tup [x, y]) (.ref p) :=
  ⟨p, [v, w], rfl, upd_same, Rps.grow ⟨v, [w], rfl, h1, w, [], rfl, h2, rfl⟩ hp⟩
/-- what enumerate's argument may be -/
def enum1 (k : Bool) (xs : List Ev) : Option (List D) := match xs with
  | [.d (.tup _)] => none
  | [x] => (itemsOf k x).map pairL
  | _ => none
theorem wk_enum {C : Cf} {m : List Addr} {Rch : List Addr → Hp → Prop} {a : Addr} {l : List D} {vs : List V} (hl : vs.length = l.length) (st : ∀ A' H2, Rch A' H2 → H2 a = some (.lst vs) ∧ Rps C.K A' m H2 l vs) : Wk C m Rch (pairL l) (Ite C.K a) := by
  refine ⟨fun A' H2 hr i d hd => ?_, fun A' H2 hr => ?_⟩
  · obtain ⟨x, hx, rfl⟩ := pairL_get hd
    obtain ⟨h2, q⟩ := st A' H2 hr
    obtain ⟨u, e1, e2⟩ := Rps.get q hx
    refine ⟨⟨vs, u, SqL.of h2, e1⟩, fun y H3 hy => ?_⟩
    obtain ⟨p, z, rfl, hp, rfl, hz⟩ := hy
    have e3 := hz vs (SqL.of h2)
    rw [e1] at e3; cases e3
    exact ⟨.inr ⟨p, _, hp, rfl⟩, pair_new hp rfl e2⟩
  · obtain ⟨h2, q⟩ := st A' H2 hr
    exact ⟨vs, SqL.of h2, by rw [pairL_len, hl]; exact Nat.le_refl _⟩
theorem di_enum {elts : List Expr} {kk : Nat} {tpos : Pos} (hg : Gl X "enumerate") (hm : X.mg "enumerate" = none) (ha : PA X [e] (tA (cf X T W) fs)) (hs : starEach [e] X.env = [(false, eval e X.env)] := by rfl) : PI X (.Tuple elts kk tpos) (.Call (.Name "enumerate" p) [e] [] pos) (tI (cf X T W) k (iO (enum1 k) fs)) := by
  refine ⟨fun pins s σ H G I q => (pi_enum hg hm ha hs).run pins s σ H G I ?_⟩
  obtain ⟨H0, A, m, M, ρ, P, F, q⟩ := q
  refine di_O F q fun xs items M1 H1 vs F1 r1 e q1 => ?_
  unfold enum1 at e
  split at e
  · cases e
  · rename_i x hx
    obtain ⟨v, rfl, r⟩ := Paired.one r1
    cases e2 : itemsOf k x with
    | none => rw [e2] at e; cases e
    | some l =>
      rw [e2] at e
      cases e
      obtain ⟨a, vs, ev, hl, len, st⟩ := list_stays F1 (fun ⟨l, z⟩ => hx l (by rw [z])) e2 r
      exact ⟨a, vs, by rw [ev], SqL.of hl, q1 _ (wk_enum len st)⟩
  · cases e
/-- zip of two lists, of two tuples -/
def zip2 (k : Bool) (xs : List Ev) : Option (List D) := match xs with
  | [.d (.tup l), .d (.tup l')] => some (zipL l l')
  | [.d (.tup _), _] => none
  | [_, .d (.tup _)] => none
  | [x, y] => match itemsOf k x, itemsOf k y with
    | some l, some l' => some (zipL l l')
    | _, _ => none
  | _ => none
theorem zipL_len (l l' : List D) : (zipL l l').length = min l.length l'.length := by unfold zipL; simp
theorem wk_zip {C : Cf} {m : List Addr} {Rch : List Addr → Hp → Prop} {a b : Addr} {l l' : List D} {vs ws : List V} (hl : vs.length = l.length) (hl' : ws.length = l'.length) (st : ∀ A' H2, Rch A' H2 → H2 a = some (.lst vs) ∧ Rps C.K A' m H2 l vs) (st' : ∀ A' H2, Rch A' H2 → H2 b = some (.lst ws) ∧ Rps C.K A' m H2 l' ws) :
    Wk C m Rch (zipL l l') (Itz C.K a b) := by
  refine ⟨fun A' H2 hr i d hd => ?_, fun A' H2 hr => ?_⟩
  · obtain ⟨x, y, hx, hy, rfl⟩ := zipL_get hd
    obtain ⟨h2, q⟩ := st A' H2 hr
    obtain ⟨h2', q'⟩ := st' A' H2 hr
    obtain ⟨u, e1, e2⟩ := Rps.get q hx
    obtain ⟨u', e1', e2'⟩ := Rps.get q' hy
    refine ⟨⟨vs, ws, u, u', SqL.of h2, SqL.of h2', e1, e1'⟩, fun y H3 hy => ?_⟩
    obtain ⟨p, z, z', rfl, hp, rfl, hz, hz'⟩ := hy
    have e3 := hz vs (SqL.of h2)
    have e3' := hz' ws (SqL.of h2')
    rw [e1] at e3; cases e3
    rw [e1'] at e3'; cases e3'
    exact ⟨.inr ⟨p, _, hp, rfl⟩, pair_new hp e2 e2'⟩
  · obtain ⟨h2, q⟩ := st A' H2 hr
    obtain ⟨h2', q'⟩ := st' A' H2 hr
    refine ⟨vs, ws, SqL.of h2, SqL.of h2', ?_⟩
    rw [zipL_len, hl, hl']; omega
theorem wk_zipT {C : Cf} {m : List Addr} {Rch : List Addr → Hp → Prop} {a b : Addr} {l l' : List D} {vs ws : List V} (hl : vs.length = l.length) (hl' : ws.length = l'.length) (st : ∀ A' H2, Rch A' H2 → H2 a = some (.tup vs) ∧ Rps C.K A' m H2 l vs) (st' : ∀ A' H2, Rch A' H2 → H2 b = some (.tup ws) ∧ Rps C.K A' m H2 l' ws) :
    Wk C m Rch (zipL l l') (RZ.ItzT C.K a b) := by
  refine ⟨fun A' H2 hr i d hd => ?_, fun A' H2 hr => ?_⟩
  · obtain ⟨x, y, hx, hy, rfl⟩ := zipL_get hd
    obtain ⟨h2, q⟩ := st A' H2 hr
    obtain ⟨h2', q'⟩ := st' A' H2 hr
    obtain ⟨u, e1, e2⟩ := Rps.get q hx
    obtain ⟨u', e1', e2'⟩ := Rps.get q' hy
    refine ⟨⟨vs, ws, u, u', SqT.of h2, SqT.of h2', e1, e1'⟩, fun y H3 hy => ?_⟩
    obtain ⟨p, z, z', rfl, hp, rfl, hz, hz'⟩ := hy
    have e3 := hz vs (SqT.of h2)
    have e3' := hz' ws (SqT.of h2')
    rw [e1] at e3; cases e3
    rw [e1'] at e3'; cases e3'
    exact ⟨.inr ⟨p, _, hp, rfl⟩, pair_new hp e2 e2'⟩
  · obtain ⟨h2, q⟩ := st A' H2 hr
    obtain ⟨h2', q'⟩ := st' A' H2 hr
    refine ⟨vs, ws, SqT.of h2, SqT.of h2', ?_⟩
    rw [zipL_len, hl, hl']; omega
theorem di_zip {elts : List Expr} {kk : Nat} {tpos : Pos} {e2 : Expr} (hg : Gl X "zip") (hm : X.mg "zip" = none) (ha : PA X [e, e2] (tA (cf X T W) fs)) (hs : starEach [e, e2] X.env = (false, eval e X.env) :: starEach [e2] X.env := by rfl) (hpl : (backTo pos (starEach [e2] X.env)).any (·.1) = false := by rfl) :
    PI X (.Tuple elts kk tpos) (.Call (.Name "zip" p) [e, e2] [] pos) (tI (cf X T W) k (iO (zip2 k) fs)) := by
  refine ⟨fun pins s σ H G I q => (RZ.pi_zipA hg hm ha hs hpl).run pins s σ H G I ?_⟩
  obtain ⟨H0, A, m, M, ρ, P, F, q⟩ := q
  refine di_O F q fun xs items M1 H1 vs F1 r1 e q1 => ?_
  unfold zip2 at e
  split at e
  · rename_i l l'
    cases e
    obtain ⟨v, w, rfl, r, r'⟩ := Paired.two r1
    obtain ⟨a, vs, ev, hl, len, st⟩ := tup_stays (k := k) F1 r
    obtain ⟨b, ws, ew, hl', len', st'⟩ := tup_stays (k := k) F1 r'
    exact ⟨a, b, vs, ws, by rw [ev, ew], .inr ⟨SqT.of hl, SqT.of hl', q1 _ (wk_zipT len len' st st')⟩⟩
  · cases e
  · cases e
  · rename_i x y hx hy _
    obtain ⟨v, w, rfl, r, r'⟩ := Paired.two r1
    cases ex : itemsOf k x with
    | none => rw [ex] at e; cases e
    | some l =>
      cases ey : itemsOf k y with
      | none => rw [ex, ey] at e; cases e
      | some l' =>
        rw [ex, ey] at e
        cases e
        obtain ⟨a, vs, ev, hl, len, st⟩ := list_stays F1 (by
          rintro ⟨z, rfl⟩
          first | exact hx z _ rfl | exact hx z rfl | (exact hx _ _ rfl rfl) | simp_all) ex r
        obtain ⟨b, ws, ew, hl', len', st'⟩ := list_stays F1 (by
          rintro ⟨z, rfl⟩
          first | exact hy z rfl | exact hy _ z rfl | simp_all) ey r'
        exact ⟨a, b, vs, ws, by rw [ev, ew], .inl ⟨SqL.of hl, SqL.of hl', q1 _ (wk_zip len len' st st')⟩⟩
  · cases e
/-! ### for -/
variable {st : Stmt} {sf : Ss}
theorem ds_for {iter tg : Expr} {body : List Stmt} {it : Sm (List D)} {g : Tgt} (hp : PassesOwn (model X.prog X.w) X.A X.env X.xe) (hc : X.calm = true) (hi : PI X tg iter (tI (cf X T W) false it)) (hg : PG X tg (tgG X.K g)) (hb : PSs X body (tS (cf X T W) sf))
    (hs : ∀ x, foldedSetIterable iter X.env x = pure x := by intro _; rfl) : PS X (.For tg iter body [] pos) (tS (cf X T W) (sFor it g sf)) := by
  refine ⟨fun pins s σ H D I q => (ps_for hp hc hi hg hb hs).run pins s σ H D I ?_⟩
  obtain ⟨H0, A, m, M, ρ, P, F, q⟩ := q
  refine ⟨H0, A, m, M, ρ, P, F, ?_⟩
  unfold sFor at q
  cases e : it ρ M with
  | stuck => rw [e] at q; exact q.elim
  | exc c g M1 =>
    rw [e] at q
    exact fun H1 cls d s w t x => q A H1 σ P cls d (Ext.step s F.ma) (F.step s w t) x
  | ok items M1 =>
    rw [e] at q
    intro J H1 s w t K
    have F1 := F.step s w t
    have q1 : PZ (cf X T W) H0 A m H1 (forL g sf items ρ M1) D := PZ.step (Ext.step s F.ma) q
    refine ⟨fun i k σ2 H2 => k + i = items.length ∧ ∃ A' M2 ρ2 P2, Ext H0 A H1 A' H2 ∧ FR (cf X T W) H0 A' m M2 H2 ρ2 σ2 P2 ∧ PZ (cf X T W) H0 A' m H2 (forL g sf (items.drop i) ρ2 M2) D,
      ⟨items.length, by simp, A, M1, ρ, P, Ext.refl, F1, by simpa using q1⟩, fun i k σ2 H2 h => ?_⟩
    obtain ⟨hk, A', M2, ρ2, P2, x2, F2, q2⟩ := h
    have hr : RchS A m H0 H1 A' H2 := ⟨x2, F2.base⟩
    cases k with
    | zero =>
      have hi : i = items.length := by omega
      subst hi
      rw [List.drop_length] at q2
      exact .inl ⟨K.stop A' H2 hr, q2 A' H2 σ2 P2 Ext.refl F2⟩
    | succ k =>
      have hi : i < items.length := by omega
      have ed : items.drop i = items[i] :: items.drop (i + 1) := List.drop_eq_getElem_cons hi
      rw [ed] at q2
      obtain ⟨hgo, hy⟩ := K.go A' H2 hr i items[i] (List.getElem?_eq_getElem hi)
      refine .inr ⟨hgo, fun σ' H' => ∃ A3 M3 ρ3 P3, Ext H0 A H1 A3 H' ∧ FR (cf X T W) H0 A3 m M3 H' ρ3 σ' P3 ∧ PZ (cf X T W) H0 A3 m H' (forL g sf (items.drop (i + 1)) ρ3 M3) D, fun σ' H' h => ⟨k, Nat.lt_succ_self k, by omega, h⟩, fun v H3 hv => ?_⟩
      obtain ⟨h3, r3⟩ := hy v H3 hv
      have F3 : FR (cf X T W) H0 A' m M2 H3 ρ2 σ2 P2 ∧ Ext H0 A' H2 A' H3 := by
        rcases h3 with rfl | ⟨p, o, hp, rfl⟩
        · exact ⟨F2, Ext.refl⟩
        · exact ⟨F2.grow hp, ⟨fun _ h _ => h, fun _ h => .inl h, Stp.upd hp⟩⟩
      have q3 := PZ.step F3.2 q2
      unfold forL at q3
      split at q3
      · rename_i ρ3 h3
        refine tg_run F3.1 r3 h3 fun σ' P' F' => ?_
        refine ⟨H0, A', m, M2, ρ3, P', F', loop_run (k := forL g sf (items.drop (i + 1))) q3 fun A4 H4 σ4 P4 ρ4 M4 e4 F4 q4 => ?_⟩
        exact ⟨A4, M4, ρ4, P4, x2.trans (F3.2.trans e4), F4, q4⟩
      · exact q3.elim
end
end DL

set_option Elab.async false
set_option linter.all false
set_option maxRecDepth 100000
set_option maxHeartbeats 2000000
/-! The data layer: comprehensions, new lists. -/
namespace DL
open PySem PySem.Spec PyProof.Rows L2
def wipeE (ρ : Env) : List Nat → Env
  | [] => ρ
  | v :: vs => (wipeE ρ vs).set v none
section
variable {C : Cf} {K : PySem.W.Frag} {H0 H : Hp} {A m : List Addr} {M : Mem} {ρ : Env} {σ : L2.St} {P : List Addr}
theorem ER.clear : ∀ {ρ : Env} {σ : L2.St} {P : List Addr} (i : Nat), ER K H0 A m H ρ σ P → ∃ P', ER K H0 A m H (ρ.set i none) (σ.set i none) P' ∧ P'.Sublist P
  | [], _, P, _, h => ⟨P, by rw [h.1]; exact ⟨rfl, h.2⟩, List.Sublist.refl _⟩
  | none :: ρ, _, P, 0, ⟨y, τ, e, h⟩ => ⟨P, ⟨none, τ, by rw [e]; rfl, h⟩, List.Sublist.refl _⟩
  | some z :: ρ, _, P, 0, ⟨w, τ, Q1, Q2, e, eP, h1, h2⟩ => ⟨Q2, ⟨none, τ, by rw [e]; rfl, h2⟩, by rw [eP]; exact List.sublist_append_right _ _⟩
  | none :: ρ, _, P, i + 1, ⟨y, τ, e, h⟩ => by
    obtain ⟨P', q, s⟩ := ER.clear i h
    exact ⟨P', ⟨y, τ.set i none, by rw [e]; rfl, q⟩, s⟩
  | some z :: ρ, _, P, i + 1, ⟨w, τ, Q1, Q2, e, eP, h1, h2⟩ => by
    obtain ⟨P', q, s⟩ := ER.clear i h2
    exact ⟨Q1 ++ P', ⟨w, τ.set i none, Q1, P', by rw [e]; rfl, rfl, h1, q⟩, by rw [eP]; exact List.Sublist.append (List.Sublist.refl _) s⟩
theorem FR.wipe (F : FR C H0 A m M H ρ σ P) : ∀ vs : List Nat, ∃ P', FR C H0 A m M H (wipeE ρ vs) (L2.wipe σ vs) P'
  | [] => ⟨P, F⟩
  | v :: vs => by
    obtain ⟨P1, F1⟩ := FR.wipe F vs
    obtain ⟨P', q, s⟩ := ER.clear v F1.er
    exact ⟨P', F1.wr, F1.tb, q, s.nodup F1.nd, fun a ha => F1.own a (s.subset ha), F1.ma, F1.aok, F1.base⟩
theorem FR.wish {C' : Cf} (F : FR C H0 A m M H ρ σ P) (h1 : C'.K = C.K) (h2 : C'.T = C.T) : FR C' H0 A m M H ρ σ P := by
  refine ⟨by rw [h1]; exact F.wr, by rw [h2]; exact F.tb, by rw [h1]; exact F.er, F.nd, F.own, F.ma, F.aok, F.base⟩
/-- the slots of a target -/
def Tgt.slots : Tgt → List Nat
  | .one i => [i]
  | .many is => is
theorem wipe_set {i : Nat} {x : Option V} : ∀ {vs : List Nat} {σ : L2.St}, i ∈ vs → L2.wipe (σ.set i x) vs = L2.wipe σ vs
  | v :: vs, σ, h => by
    show (L2.wipe (σ.set i x) vs).set v none = (L2.wipe σ vs).set v none
    by_cases hv : i ∈ vs
    · rw [wipe_set hv]
    · have e : i = v := (List.mem_cons.mp h).resolve_right hv
      subst e
      have q : ∀ {vs : List Nat} {σ : L2.St}, i ∉ vs → L2.wipe (σ.set i x) vs = (L2.wipe σ vs).set i x := by
        intro vs
        induction vs with
        | nil => intro σ _; rfl
        | cons u vs ih =>
          intro σ hu
          show (L2.wipe (σ.set i x) vs).set u none = ((L2.wipe σ vs).set u none).set i x
          rw [ih (fun z => hu (List.mem_cons_of_mem _ z)), List.set_comm]
          exact fun z => hu (by rw [z]; exact List.mem_cons_self)
      rw [q hv, List.set_set]
theorem wipe_wipe : ∀ (vs us : List Nat) (σ : L2.St), (∀ v ∈ vs, v ∈ us) → L2.wipe (L2.wipe σ vs) us = L2.wipe σ us
  | [], us, σ, _ => rfl
  | v :: vs, us, σ, h => by
    show L2.wipe ((L2.wipe σ vs).set v none) us = _
    rw [wipe_set (h v List.mem_cons_self), wipe_wipe vs us σ fun u hu => h u (List.mem_cons_of_mem _ hu)]
theorem wipe_setAll {us : List Nat} : ∀ {is : List Nat} {vs : List V} {σ : L2.St}, (∀ i ∈ is, i ∈ us) → L2.wipe (setAll σ is vs) us = L2.wipe σ us
  | [], _, _, _ => rfl
  | _ :: _, [], _, _ => rfl
  | i :: is, v :: vs, σ, h => by
    show L2.wipe (setAll (σ.set i (some v)) is vs) us = _
    rw [wipe_setAll fun j hj => h j (List.mem_cons_of_mem _ hj), wipe_set (h i List.mem_cons_self)]
/-- a target within a comprehension's block -/
theorem tg_blk {ρ' : Env} {g : Tgt} {d : D} {v : V} {vs : List Nat} {Q : L2.St → Hp → Prop} (F : FR C H0 A m M H ρ σ P) (hv : ∀ i ∈ g.slots, i ∈ vs) (r : Rp C.K A m H d v) (h : tgE g (wipeE ρ vs) d = some ρ')
    (q : ∀ σ' P', FR C H0 A m M H ρ' σ' P' → L2.wipe σ' vs = L2.wipe σ vs → Q σ' H) : tgG C.K g v (L2.wipe σ vs) H Q := by
  obtain ⟨P1, F1⟩ := F.wipe vs
  have ww : L2.wipe (L2.wipe σ vs) vs = L2.wipe σ vs := wipe_wipe vs vs σ fun _ z => z
  cases g with
  | one i =>
    have h' : (if i < (wipeE ρ vs).length then some ((wipeE ρ vs).set i (some (.d d))) else none) = some ρ' := h
    split at h'
    · rename_i hi
      cases h'
      obtain ⟨P', F'⟩ := F1.set (x := .d d) (v := v) ⟨rfl, r⟩ hi
      exact q _ P' F' (by rw [wipe_set (hv i List.mem_cons_self), ww])
    · cases h'
  | many is =>
    cases d with
    | tup l =>
      have h' : (if l.length = is.length ∧ ∀ i ∈ is, i < (wipeE ρ vs).length then some (setAllE (wipeE ρ vs) is l) else none) = some ρ' := h
      split at h'
      · rename_i hc
        cases h'
        obtain ⟨a, ws, e, hs, r⟩ := r
        obtain ⟨P', F'⟩ := FR.setAll (is := is) F1 r hc.2
        exact ⟨a, ws, e, SqT.of hs, by rw [Rps.len r]; exact hc.1, gsN_run (by rw [Rps.len r]; exact hc.1) (q _ P' F' (by rw [wipe_setAll (is := is) hv, ww]))⟩
      · cases h'
    | _ => cases h
end
/-! ### new lists -/
/-- a list that was just laid: nothing else knows it -/
def tF (C : Cf) (f : Sm (List D)) : TE := fun σ H Q => ∃ H0 A m M ρ P, FR C H0 A m M H ρ σ P ∧ match f ρ M with
  | .ok l M' => ∀ H' p vs, Stp m H H' → WR C.K m M' H' → LamX.Tabs C.T H' → ¬ Lv H p → H' p = some (.lst vs) → Rps C.K (p :: A) m H' l vs → Q (.ref p) H'
  | .exc c g M' => ∀ H' cls d, Stp m H H' → WR C.K m M' H' → LamX.Tabs C.T H' → XR C.mg H' c g cls d → C.W cls d σ H'
  | .stuck => False
/-- .. as a value -/
def eF (f : Sm (List D)) : Sm Ev := fun ρ M => bnd (f ρ M) fun l M1 => .ok (.d (.lst l)) M1
theorem not_in_A {A : List Addr} {H : Hp} {p : Addr} (ok : AOk A H) (h : ¬ Lv H p) : p ∉ A := fun hp => by
  obtain ⟨o, e, mu⟩ := ok p hp
  exact h ⟨o, e, muta_tbl mu⟩
theorem de_F {X : Cx} {T : List (Addr × Str)} {W : WX} {e : Expr} {f : Sm (List D)} (h : PE X e (tF (cf X T W) f)) : PE X e (tE (cf X T W) (eF f)) := by
  refine ⟨fun pins s σ H Q I q => h.run pins s σ H Q I ?_⟩
  obtain ⟨H0, A, m, M, ρ, P, F, q⟩ := q
  refine ⟨H0, A, m, M, ρ, P, F, ?_⟩
  unfold eF at q
  cases e : f ρ M with
  | stuck => rw [e] at q; exact q.elim
  | exc c g M1 => rw [e] at q; exact q
  | ok l M1 =>
    rw [e] at q
    exact fun H' p vs s w t n hp r => q H' (.ref p) s w t ⟨p, vs, rfl, hp, not_in_A F.aok n, Rps.avoid (fun a ha => .inl (List.mem_cons_of_mem _ ha)) _ _ r⟩
section
variable {X : Cx} {T : List (Addr × Str)} {W : WX} {a b c e : Expr} {es : List Expr} {tg : Expr} {pos p : Pos} {f g : Sm Ev} {fs : Sm (List Ev)} {k : Bool}
/-- from a rule that lays a list at a free place -/
theorem mk_new {C : Cf} {H0 H H1 : Hp} {A m : List Addr} {M M1 : Mem} {ρ : Env} {σ : L2.St} {P : List Addr} {l : List D} {vs : List V} {Q : VK} {p : Addr} (F : FR C H0 A m M H ρ σ P) (F1 : FR C H0 A m M1 H1 ρ σ P) (s : Stp m H H1) (r : Rps C.K A m H1 l vs) (hp : H1 p = none)
    (q : ∀ H' p vs, Stp m H H' → WR C.K m M1 H' → LamX.Tabs C.T H' → ¬ Lv H p → H' p = some (.lst vs) → Rps C.K (p :: A) m H' l vs → Q (.ref p) H') : Q (.ref p) (upd H1 p (.lst vs)) := by
  refine q _ p vs (s.trans (Stp.upd hp)) (F1.wr.upd hp) (Tabs.upd F1.tb hp) (fun z => ?_) upd_same ?_
  · have hm : p ∉ m := fun h => by
      obtain ⟨o, e, _⟩ := F1.wr.aok p h; rw [hp] at e; cases e
    obtain ⟨o, e, _⟩ := s.lv z hm
    rw [hp] at e; cases e
  · exact Rps.grow (Rps.avoid (fun a ha => (List.mem_cons.mp ha).elim (fun z => .inr (by rw [z]; exact not_lv_of hp)) .inl) _ _ r) hp
theorem subF {C : Cf} {H0 H : Hp} {A m : List Addr} {M : Mem} {ρ : Env} {σ : L2.St} {P : List Addr} {α β : Type} {rel : Rel α β} {f : Sm α} {kk : α → Mem → R (List D)} {Q : VK} (F : FR C H0 A m M H ρ σ P)
    (h : match bnd (f ρ M) kk with
      | .ok l M' => ∀ H' p vs, Stp m H H' → WR C.K m M' H' → LamX.Tabs C.T H' → ¬ Lv H p → H' p = some (.lst vs) → Rps C.K (p :: A) m H' l vs → Q (.ref p) H'
      | .exc c g M' => ∀ H' cls d, Stp m H H' → WR C.K m M' H' → LamX.Tabs C.T H' → XR C.mg H' c g cls d → C.W cls d σ H'
      | .stuck => False) {G : β → Hp → Prop}
    (hk : ∀ d M1 H1 v, FR C H0 A m M1 H1 ρ σ P → Stp m H H1 → rel H0 A m H1 d v → (match kk d M1 with
      | .ok l M' => ∀ H' p vs, Stp m H H' → WR C.K m M' H' → LamX.Tabs C.T H' → ¬ Lv H p → H' p = some (.lst vs) → Rps C.K (p :: A) m H' l vs → Q (.ref p) H'
      | .exc c g M' => ∀ H' cls d, Stp m H H' → WR C.K m M' H' → LamX.Tabs C.T H' → XR C.mg H' c g cls d → C.W cls d σ H'
      | .stuck => False) → G v H1) : tX C rel f σ H G := by
  refine ⟨H0, A, m, M, ρ, P, F, ?_⟩
  cases e : f ρ M with
  | stuck => rw [e] at h; exact h.elim
  | exc c g M1 => rw [e] at h; exact h
  | ok d M1 =>
    rw [e] at h
    exact fun H1 v s w t r => hk d M1 H1 v (F.step s w t) s r h
/-- [a, b, ..] -/
def fLst (fs : Sm (List Ev)) : Sm (List D) := fun ρ M => bnd (fs ρ M) fun xs M1 => optR ((datas xs).bind fun l => if l.length ≤ most then some l else none) M1
theorem df_lst (ha : PA X es (tA (cf X T W) fs)) : PE X (.List es pos) (tF (cf X T W) (fLst fs)) := by
  refine ⟨fun pins s σ H Q I q => (pe_lst ha).run pins s σ H Q I ?_⟩
  obtain ⟨H0, A, m, M, ρ, P, F, q⟩ := q
  refine subF F q fun xs M1 H1 vs F1 s1 r1 q1 => ?_
  cases e : datas xs with
  | none => rw [e] at q1; exact q1.elim
  | some l =>
    rw [e] at q1
    have r := datas_at e r1
    by_cases hc : l.length ≤ most
    · have e2 : ((some l : Option (List D)).bind fun l => if l.length ≤ most then some l else none) = some l := by simp [hc]
      rw [e2] at q1
      exact ⟨by rw [Rps.len r]; exact most_line hc, fun p hp => mk_new F F1 s1 r hp q1⟩
    · have e2 : ((some l : Option (List D)).bind fun l => if l.length ≤ most then some l else none) = none := by simp [hc]
      rw [e2] at q1
      exact q1.elim
/-- [a] * n -/
def mulL (a b : Ev) : Option (List D) := match lstOf a, b with
  | some l, .d (.int k) => if -1000000 ≤ k ∧ k ≤ 1000000 ∧ l.length * k.toNat ≤ most then some (List.replicate k.toNat l).flatten else none
  | _, _ => none
def fMul (f g : Sm Ev) : Sm (List D) := fun ρ M => bnd (f ρ M) fun a M1 => bnd (g ρ M1) fun b M2 => optR (mulL a b) M2
theorem df_mul (ha : PE X a (tE (cf X T W) f)) (hb : PE X b (tE (cf X T W) g)) : PE X (.BinOp a .Mult b pos) (tF (cf X T W) (fMul f g)) := by
  refine ⟨fun pins s σ H Q I q => (pe_op op_rep ha hb).run pins s σ H Q I ?_⟩
  obtain ⟨H0, A, m, M, ρ, P, F, q⟩ := q
  refine subF F q fun x M1 H1 v F1 s1 r1 q1 => ?_
  have q1' : match bnd (g ρ M1) (fun b M2 => optR (mulL x b) M2) with
      | .ok l M' => ∀ H' p vs, Stp m H1 H' → WR X.K m M' H' → LamX.Tabs T H' → ¬ Lv H1 p → H' p = some (.lst vs) → Rps X.K (p :: A) m H' l vs → Q (.ref p) H'
      | .exc c g M' => ∀ H' cls d, Stp m H1 H' → WR X.K m M' H' → LamX.Tabs T H' → XR X.mg H' c g cls d → W cls d σ H'
      | .stuck => False := by
    cases e : bnd (g ρ M1) (fun b M2 => optR (mulL x b) M2) with
    | stuck => rw [e] at q1; exact q1
    | exc c g M' => rw [e] at q1; exact fun H' cls d s w t x => q1 H' cls d (s1.trans s) w t x
    | ok l M' =>
      rw [e] at q1
      exact fun H' p vs s w t n hp r => q1 H' p vs (s1.trans s) w t (fun z => by
        by_cases hm : p ∈ m
        · obtain ⟨o, e, mu⟩ := F1.wr.aok p hm; exact n ⟨o, e, muta_tbl mu⟩
        · exact n (s1.lv z hm)) hp r
  refine subF F1 q1' fun y M2 H2 w F2 s2 r2 q2 => ?_
  cases e : mulL x y with
  | none => rw [e] at q2; exact q2.elim
  | some l =>
    rw [e] at q2
    unfold mulL at e
    split at e
    · rename_i l' k' e1
      obtain ⟨p0, vs, ev, hs, q⟩ := lstOf_at e1 (EvR.step F1.wr.aok F1.ma s2 r1)
      split at e
      · rename_i hc
        cases e
        exact ⟨p0, k', vs, ev, r2, hs, by omega, by omega, by rw [Rps.len q]; exact most_line hc.2.2, fun p hp => mk_new F1 F2 s2 (Rps.rep q _) hp q2⟩
      · cases e
    · cases e
/-- list(x) -/
def fLstOf (f : Sm Ev) : Sm (List D) := fun ρ M => bnd (f ρ M) fun x M1 => optR (seqOf x) M1
/-! ### comprehensions -/
def noX {α : Type} (r : R α) : R α := match r with
  | .ok a M => .ok a M
  | _ => .stuck
def lcL (g : Tgt) (vs : List Nat) (t : Sm Bool) (f : Sm Ev) (ρ : Env) : List D → List D → Mem → R (List D)
  | acc, [], M => .ok acc M
  | acc, d :: r, M => match tgE g (wipeE ρ vs) d with
    | some ρ1 => bnd (noX (t ρ1 M)) fun k M1 => if k = true then bnd (noX (f ρ1 M1)) fun y M2 => match y with
        | .d y => lcL g vs t f ρ (acc ++ [y]) r M2
        | _ => .stuck
      else lcL g vs t f ρ acc r M1
    | none => .stuck
def fLc (it : Sm (List D)) (g : Tgt) (vs : List Nat) (t : Sm Bool) (f : Sm Ev) : Sm (List D) := fun ρ M => bnd (it ρ M) fun items M1 => if items.length ≤ most then lcL g vs t f ρ [] items M1 else .stuck
def W0 : WX := fun _ _ _ _ => False
/-- what the block's run is to reach -/
def Gd (Z : List D → Mem → Prop) (r : R (List D)) : Prop := match r with
  | .ok l M => Z l M
  | _ => False
theorem subB {C : Cf} {H0 H : Hp} {A m : List Addr} {M : Mem} {ρ : Env} {σ : L2.St} {P : List Addr} {α β : Type} {rel : Rel α β} {f : Sm α} {kk : α → Mem → R (List D)} {Z : List D → Mem → Prop} (F : FR C H0 A m M H ρ σ P) (h : Gd Z (bnd (noX (f ρ M)) kk)) {G : β → Hp → Prop}
    (hk : ∀ d M1 H1 v, FR C H0 A m M1 H1 ρ σ P → Stp m H H1 → rel H0 A m H1 d v → Gd Z (kk d M1) → G v H1) : tX C rel f σ H G := by
  refine ⟨H0, A, m, M, ρ, P, F, ?_⟩
  cases e : f ρ M with
  | stuck => rw [e] at h; exact h.elim
  | exc c g M1 => rw [e] at h; exact h.elim
  | ok d M1 =>
    rw [e] at h
    exact fun H1 v s w t r => hk d M1 H1 v (F.step s w t) s r h
def NoE {α : Type} : R α → Prop
  | .exc _ _ _ => False
  | _ => True
theorem NoE.bnd {α β : Type} {r : R α} {k : α → Mem → R β} (h : ∀ a M, NoE (k a M)) : NoE (bnd (noX r) k) := by
  cases r with
  | ok a M => exact h a M
  | _ => trivial
theorem lcL_noX {g : Tgt} {vs : List Nat} {t : Sm Bool} {f : Sm Ev} {ρ : Env} : ∀ (its acc : List D) (M : Mem), NoE (lcL g vs t f ρ acc its M)
  | [], acc, M => trivial
  | d :: r, acc, M => by
    unfold lcL
    cases tgE g (wipeE ρ vs) d with
    | none => trivial
    | some ρ1 =>
      refine NoE.bnd fun b M1 => ?_
      cases b with
      | false => exact lcL_noX r acc M1
      | true =>
        refine NoE.bnd fun y M2 => ?_
        cases y with
        | d y => exact lcL_noX r _ M2
        | _ => trivial
theorem lc_run {it : Sm (List D)} {tgt : Tgt} {vs : List Nat} {t : Sm Bool} (hv : ∀ i ∈ tgt.slots, i ∈ vs) {σ : L2.St} {H : Hp} {Q : VK} (q : tF (cf X T W) (fLc it tgt vs t f) σ H Q) : tLc (tI (cf X T W) true it) (tgG X.K tgt) (tT (cf X T W0) t) (tE (cf X T W0) f) vs σ H Q := by
  obtain ⟨H0, A, m, M, ρ, P, F, q⟩ := q
  refine ⟨H0, A, m, M, ρ, P, F, ?_⟩
  unfold fLc at q
  cases e : it ρ M with
  | stuck => rw [e] at q; exact q.elim
  | exc c g M1 => rw [e] at q; exact q
  | ok items M1 =>
    rw [e, bnd_ok] at q
    intro J H1 s w tb Wl Da nD
    have F1 := F.step s w tb
    have hDm : Da ∉ m := fun z => by obtain ⟨o, e, _⟩ := F1.wr.aok Da z; rw [nD] at e; cases e
    have nH : ¬ Lv H Da := fun z => by obtain ⟨o, e, _⟩ := s.lv z hDm; rw [nD] at e; cases e
    by_cases hc : items.length ≤ most
    · rw [if_pos hc] at q
      have q' : Gd (fun l M' => ∀ H' p ws, Stp m H H' → WR X.K m M' H' → LamX.Tabs T H' → ¬ Lv H p → H' p = some (.lst ws) → Rps X.K (p :: A) m H' l ws → Q (.ref p) H') (lcL tgt vs t f ρ [] items M1) := by
        cases e2 : lcL tgt vs t f ρ [] items M1 with
        | stuck => rw [e2] at q; exact q
        | exc c g M2 => have z := lcL_noX (g := tgt) (vs := vs) (t := t) (f := f) (ρ := ρ) items [] M1; rw [e2] at z; exact z.elim
        | ok l M2 => rw [e2] at q; exact q
      have G0 : FR (cf X T W0) H0 (Da :: A) m M1 (upd H1 Da (.lst [])) ρ σ P := (F1.more nD (o := .lst []) trivial).wish rfl rfl
      refine ⟨fun i k H2 => k + i = items.length ∧ Stp m H1 H2 ∧ ∃ M2 acc accV, FR (cf X T W0) H0 (Da :: A) m M2 H2 ρ σ P ∧ H2 Da = some (.lst accV) ∧ Rps X.K (Da :: A) m H2 acc accV ∧ acc.length ≤ i ∧
        Gd (fun l M' => ∀ H' p ws, Stp m H H' → WR X.K m M' H' → LamX.Tabs T H' → ¬ Lv H p → H' p = some (.lst ws) → Rps X.K (p :: A) m H' l ws → Q (.ref p) H') (lcL tgt vs t f ρ acc (items.drop i) M2),
        ⟨items.length, by simp, Stp.upd nD, M1, [], [], G0, upd_same, rfl, Nat.le_refl _, by simpa using q'⟩, fun i k H2 h => ?_⟩
      obtain ⟨hk, st, M2, acc, accV, F2, hD, rD, la, q2⟩ := h
      have hr : RchC A m H1 (Da :: A) H2 := ⟨fun a ha => (List.mem_cons.mp ha).elim (fun z => .inr (by rw [z]; exact not_lv_of nD)) .inl, fun a ha => List.mem_cons_of_mem _ ha, st⟩
      cases k with
      | zero =>
        have hi : i = items.length := by omega
        subst hi
        rw [List.drop_length] at q2
        exact .inl ⟨Wl.stop _ H2 hr, q2 H2 Da accV (s.trans st) F2.wr F2.tb nH hD rD⟩
      | succ k =>
        have hi : i < items.length := by omega
        have ed : items.drop i = items[i] :: items.drop (i + 1) := List.drop_eq_getElem_cons hi
        rw [ed] at q2
        obtain ⟨hgo, hy⟩ := Wl.go _ H2 hr i items[i] (List.getElem?_eq_getElem hi)
        refine .inr ⟨hgo, fun H' => Stp m H1 H' ∧ ∃ M2 acc accV, FR (cf X T W0) H0 (Da :: A) m M2 H' ρ σ P ∧ H' Da = some (.lst accV) ∧ Rps X.K (Da :: A) m H' acc accV ∧ acc.length ≤ i + 1 ∧
          Gd (fun l M' => ∀ H' p ws, Stp m H H' → WR X.K m M' H' → LamX.Tabs T H' → ¬ Lv H p → H' p = some (.lst ws) → Rps X.K (p :: A) m H' l ws → Q (.ref p) H') (lcL tgt vs t f ρ acc (items.drop (i + 1)) M2),
          fun H' h => ⟨k, Nat.lt_succ_self k, by omega, h⟩, fun v H3 hv3 => ?_⟩
        obtain ⟨h3, r3⟩ := hy v H3 hv3
        have F3 : FR (cf X T W0) H0 (Da :: A) m M2 H3 ρ σ P ∧ Stp m H2 H3 := by
          rcases h3 with rfl | ⟨p, o, hp, rfl⟩
          · exact ⟨F2, Stp.refl _ _⟩
          · exact ⟨F2.grow hp, Stp.upd hp⟩
        unfold lcL at q2
        split at q2
        · rename_i ρ1 h1
          refine tg_blk F3.1 hv r3 h1 fun σ' P' F4 hw => ⟨hw, ?_⟩
          refine subB F4 q2 fun b M5 H5 b' F5 s5 r5 q5 => ?_
          cases (show b = b' from r5)
          have back : ∀ {M6 : Mem} {H6 : Hp}, WR X.K m M6 H6 → LamX.Tabs T H6 → Stp m H3 H6 → FR (cf X T W0) H0 (Da :: A) m M6 H6 ρ σ P ∧ Stp m H1 H6 ∧ H6 Da = some (.lst accV) ∧ Rps X.K (Da :: A) m H6 acc accV := by
            intro M6 H6 w6 t6 s6
            have s26 : Stp m H2 H6 := F3.2.trans s6
            exact ⟨F2.step s26 w6 t6, st.trans s26, s26 Da _ hD hDm lst_tbl, Rps.step F2.wr.aok F2.ma s26 _ _ rD⟩
          cases b with
          | false =>
            rw [if_neg (by decide)] at q5
            obtain ⟨b1, b2, b3, b4⟩ := back F5.wr F5.tb s5
            rw [if_neg (by decide)]
            exact ⟨b2, M5, acc, accV, b1, b3, b4, Nat.le_succ_of_le la, q5⟩
          | true =>
            rw [if_pos rfl] at q5
            rw [if_pos rfl]
            refine subB F5 q5 fun y M6 H6 u F6 s6 r6 q6 => ?_
            obtain ⟨b1, b2, b3, b4⟩ := back F6.wr F6.tb (s5.trans s6)
            split at q6
            · rename_i y
              have hP : Da ∉ P := fun z => by
                have := F1.own Da z
                exact (not_in_A F1.aok (not_lv_of nD)) this.1
              have h0 : ¬ Lv H0 Da := F1.h0 nD
              have F7 := b1.write (a := Da) (o' := .lst (accV ++ [u])) List.mem_cons_self hDm hP h0 b3 trivial trivial
              have up : Stp [Da] H6 (upd H6 Da (.lst (accV ++ [u]))) := stp_upd
              have r7 : Rps X.K (Da :: A) m (upd H6 Da (.lst (accV ++ [u]))) (acc ++ [y]) (accV ++ [u]) :=
                Rps.step (B := [Da]) (aok_one b3 trivial) (fun x hx => by rw [List.mem_singleton.mp hx]; exact List.mem_cons_self) up _ _ (Rps.app b4 (Rps.one r6))
              refine ⟨accV, b3, ?_, fun a o e n tt => ?_, M6, acc ++ [y], accV ++ [u], F7, upd_same, r7, by simp; omega, q6⟩
              · rw [Rps.len b4]; have := most_line hc; omega
              · by_cases ea : a = Da
                · subst ea; rw [nD] at e; cases e
                · rw [upd_ne ea]; exact b2 a o e n tt
            · exact q6.elim
        · exact q2.elim
    · rw [if_neg hc] at q; exact q.elim
theorem df_lc {elt tge iter : Expr} {ifs : List Expr} {scope : Scope} {own : List (Str × Nat)} {it : Sm (List D)} {tgt : Tgt} {t : Sm Bool} (hc : X.calm = true) (hN : X.N.Nodup) (hi : PI X tge iter (tI (cf X T W) true it)) (ok : BlkOk X.N X.env.scope scope own)
    (hg : ∀ (s : Shared) (H : Hp) (C : Addr) (cl : List (Str × Addr)) (fp : List Addr), PG (X.blk s H scope (compEnvC scope cl C X.env) fp) tge (tgG X.K tgt)) (ht : ∀ (s : Shared) (H : Hp) (C : Addr) (cl : List (Str × Addr)) (fp : List Addr), PTs (X.blk s H scope (compEnvC scope cl C X.env) fp) ifs (tT (cf X T W0) t))
    (he : ∀ (s : Shared) (H : Hp) (C : Addr) (cl : List (Str × Addr)) (fp : List Addr), PE (X.blk s H scope (compEnvC scope cl C X.env) fp) elt (tE (cf X T W0) f)) (hv : ∀ i ∈ tgt.slots, i ∈ own.map (·.2) := by decide) (hs : ∀ x, foldedSetIterable iter X.env x = pure x := by intro _; rfl) :
    PE X (.ListComp elt [⟨tge, iter, ifs, 0⟩] scope pos) (tF (cf X T W) (fLc it tgt (own.map (·.2)) t f)) :=
  ⟨fun pins s σ H Q I q => (pe_lc hc hN hi ok hg ht he hs).run pins s σ H Q I (lc_run hv q)⟩
/-- no if -/
def tYesE : Sm Bool := fun _ M => .ok true M
theorem dts_nil : PTs X [] (tT (cf X T W) tYesE) := by
  refine ⟨fun pins s σ H Q I q => pts_nil.run pins s σ H Q I ?_⟩
  obtain ⟨H0, A, m, M, ρ, P, F, q⟩ := q
  exact q.fin F rfl
theorem dts_one {t : Sm Bool} (h : PT X c (tT (cf X T W) t)) : PTs X [c] (tT (cf X T W) t) := pts_one h
end
end DL

set_option Elab.async false
set_option linter.all false
set_option maxRecDepth 100000
set_option maxHeartbeats 2000000
/-! The data layer: names that take lists and dicts of their own. -/
namespace DL
open PySem PySem.Spec PyProof.Rows L2
section
variable {C : Cf} {K : PySem.W.Frag} {H0 H H' : Hp} {A A' m : List Addr} {M M' : Mem} {ρ : Env} {σ : L2.St} {P : List Addr}
theorem FR.gro (F : FR C H0 A m M H ρ σ P) (r : RchC A m H A' H') (w : WR C.K m M' H') (t : LamX.Tabs C.T H') (k : AOk A' H') : FR C H0 A' m M' H' ρ σ P :=
  ⟨w, t, ER.step F.wr.aok (fun a ha => r.2.1 a (F.ma a ha)) r.2.2 (fun a ha => (F.own a ha).2.1) (ER.avoid r.1 F.er), F.nd, fun a ha => ⟨r.2.1 a (F.own a ha).1, (F.own a ha).2⟩, fun a ha => r.2.1 a (F.ma a ha), k, F.base.trans r.2.2⟩
theorem FR.not_live (F : FR C H0 A m M H ρ σ P) {p : Addr} (h : ¬ Lv H p) : p ∉ A ∧ p ∉ m ∧ p ∉ P ∧ ¬ Lv H0 p := by
  have hA : p ∉ A := fun z => by obtain ⟨o, e, mu⟩ := F.aok p z; exact h ⟨o, e, muta_tbl mu⟩
  exact ⟨hA, fun z => hA (F.ma p z), fun z => hA (F.own p z).1, fun z => h (F.base.lv z fun y => hA (F.ma p y))⟩
/-- a slot takes a thing with own addresses, new ones -/
theorem FR.setO (F : FR C H0 A m M H ρ σ P) {x : Ev} {v : V} {P1 : List Addr} {i : Nat} (hx : SlR C.K H0 A m H x v P1) (n1 : P1.Nodup) (h1 : ∀ p ∈ P1, p ∈ A ∧ p ∉ m ∧ ¬ Lv H0 p ∧ p ∉ P) (hi : i < ρ.length) : ∃ P', FR C H0 A m M H (ρ.set i (some x)) (σ.set i (some v)) P' ∧ ∀ p ∈ P', p ∈ P ∨ p ∈ P1 := by
  obtain ⟨L, R, e, sl⟩ := ER.set hx i F.er hi
  have nd := sl.nodup F.nd
  rw [List.nodup_append] at nd
  have mem : ∀ a, a ∈ L ∨ a ∈ R → a ∈ P := fun a h => sl.subset (List.mem_append.mpr h)
  refine ⟨L ++ P1 ++ R, ⟨F.wr, F.tb, e, ?_, fun a ha => ?_, F.ma, F.aok, F.base⟩, fun p hp => ?_⟩
  · rw [List.nodup_append, List.nodup_append]
    refine ⟨⟨nd.1, n1, fun a ha b hb e => ?_⟩, nd.2.1, fun a ha b hb e => ?_⟩
    · subst e; exact (h1 a hb).2.2.2 (mem a (.inl ha))
    · subst e
      rcases List.mem_append.mp ha with z | z
      · exact nd.2.2 a z a hb rfl
      · exact (h1 a z).2.2.2 (mem a (.inr hb))
  · rcases List.mem_append.mp ha with z | z
    · rcases List.mem_append.mp z with z | z
      · exact F.own a (mem a (.inl z))
      · exact ⟨(h1 a z).1, (h1 a z).2.1, (h1 a z).2.2.1⟩
    · exact F.own a (mem a (.inr z))
  · rcases List.mem_append.mp hp with z | z
    · rcases List.mem_append.mp z with z | z
      · exact .inl (mem p (.inl z))
      · exact .inr z
    · exact .inl (mem p (.inr z))
end
/-- a value that a slot may take -/
def PN (C : Cf) (m : List Addr) (H0 : Hp) (A : List Addr) (H : Hp) (σ : L2.St) (r : R Ev) (Q : VK) : Prop := match r with
  | .ok x M' => ∀ A' P1 H' v, RchC A m H A' H' → WR C.K m M' H' → LamX.Tabs C.T H' → AOk A' H' → SlR C.K H0 A' m H' x v P1 → P1.Nodup → (∀ p ∈ P1, p ∈ A' ∧ ¬ Lv H p) → Q v H'
  | .exc c g M' => ∀ H' cls d, Stp m H H' → WR C.K m M' H' → LamX.Tabs C.T H' → XR C.mg H' c g cls d → C.W cls d σ H'
  | .stuck => False
def tN (C : Cf) (f : Sm Ev) : TE := fun σ H Q => ∃ H0 A m M ρ P, FR C H0 A m M H ρ σ P ∧ PN C m H0 A H σ (f ρ M) Q
def nE (f : Sm Ev) : Sm Ev := fun ρ M => bnd (f ρ M) fun x M1 => optR (stor x) M1
def nF (f : Sm (List D)) : Sm Ev := fun ρ M => bnd (f ρ M) fun l M1 => .ok (.ls .own l) M1
theorem tN_E {C : Cf} {f : Sm Ev} {σ : L2.St} {H : Hp} {Q : VK} (h : tN C (nE f) σ H Q) : tE C f σ H Q := by
  obtain ⟨H0, A, m, M, ρ, P, F, q⟩ := h
  refine ⟨H0, A, m, M, ρ, P, F, ?_⟩
  unfold nE at q
  cases e : f ρ M with
  | stuck => rw [e] at q; exact q.elim
  | exc c g M1 => rw [e] at q; exact q
  | ok x M1 =>
    rw [e, bnd_ok] at q
    cases e2 : stor x with
    | none => rw [e2] at q; exact q.elim
    | some y =>
      rw [e2] at q
      intro H' v s w t r
      have F' := F.step s w t
      exact q A [] H' v ⟨fun a h => .inl h, fun a h => h, s⟩ w t F'.aok (stor_at e2 r) List.nodup_nil fun p h => nomatch h
theorem tN_F {C : Cf} {f : Sm (List D)} {σ : L2.St} {H : Hp} {Q : VK} (h : tN C (nF f) σ H Q) : tF C f σ H Q := by
  obtain ⟨H0, A, m, M, ρ, P, F, q⟩ := h
  refine ⟨H0, A, m, M, ρ, P, F, ?_⟩
  unfold nF at q
  cases e : f ρ M with
  | stuck => rw [e] at q; exact q.elim
  | exc c g M1 => rw [e] at q; exact q
  | ok l M1 =>
    rw [e, bnd_ok] at q
    intro H' p vs s w t n hp r
    have ok' : AOk (p :: A) H' := fun a ha => by
      rcases List.mem_cons.mp ha with z | z
      · exact ⟨.lst vs, by rw [z]; exact hp, trivial⟩
      · exact (F.step s w t).aok a z
    exact q (p :: A) [p] H' (.ref p) ⟨fun a h => (List.mem_cons.mp h).elim (fun z => .inr (by rw [z]; exact n)) .inl, fun a h => List.mem_cons_of_mem _ h, s⟩ w t ok' ⟨p, vs, rfl, hp, rfl, r⟩ (by simp) fun a h => by
      rw [List.mem_singleton.mp h]; exact ⟨List.mem_cons_self, n⟩
theorem tE_F {C : Cf} {f : Sm (List D)} {σ : L2.St} {H : Hp} {Q : VK} (h : tE C (eF f) σ H Q) : tF C f σ H Q := by
  obtain ⟨H0, A, m, M, ρ, P, F, q⟩ := h
  refine ⟨H0, A, m, M, ρ, P, F, ?_⟩
  unfold eF at q
  cases e : f ρ M with
  | stuck => rw [e] at q; exact q.elim
  | exc c g M1 => rw [e] at q; exact q
  | ok l M1 =>
    rw [e] at q
    exact fun H' p vs s w t n hp r => q H' (.ref p) s w t ⟨p, vs, rfl, hp, not_in_A F.aok n, Rps.avoid (fun a ha => .inl (List.mem_cons_of_mem _ ha)) _ _ r⟩
section
variable {X : Cx} {T : List (Addr × Str)} {W : WX} {a b c e : Expr} {es : List Expr} {pos p : Pos} {f g : Sm Ev} {fs : Sm (List Ev)}
theorem dn_E (h : PE X e (tE (cf X T W) f)) : PE X e (tN (cf X T W) (nE f)) := ⟨fun pins s σ H Q I q => h.run pins s σ H Q I (tN_E q)⟩
theorem dn_F {f : Sm (List D)} (h : PE X e (tF (cf X T W) f)) : PE X e (tN (cf X T W) (nF f)) := ⟨fun pins s σ H Q I q => h.run pins s σ H Q I (tN_F q)⟩
/-- {}: with keys, with tuples as keys -/
def nDk : Sm Ev := fun _ M => .ok (.dk .own [] []) M
def nDt : Sm Ev := fun _ M => .ok (.dt .own [] []) M
theorem new_own {C : Cf} {H0 H : Hp} {A m : List Addr} {M : Mem} {ρ : Env} {σ : L2.St} {P : List Addr} {x : Ev} {Q : VK} {p : Addr} {o : HO} (F : FR C H0 A m M H ρ σ P) (mu : muta o) (q : PN C m H0 A H σ (.ok x M) Q) (hp : H p = none) (hx : SlR C.K H0 (p :: A) m (upd H p o) x (.ref p) [p]) : Q (.ref p) (upd H p o) := by
  have F' := F.more hp mu
  exact q (p :: A) [p] _ _ ⟨fun a h => (List.mem_cons.mp h).elim (fun z => .inr (by rw [z]; exact not_lv_of hp)) .inl, fun a h => List.mem_cons_of_mem _ h, Stp.upd hp⟩ F'.wr F'.tb F'.aok hx (by simp) fun a h => by
    rw [List.mem_singleton.mp h]; exact ⟨List.mem_cons_self, not_lv_of hp⟩
theorem dn_dk : PE X (.Dict [] [] pos) (tN (cf X T W) nDk) := by
  refine ⟨fun pins s σ H Q I q => pe_dnewK.run pins s σ H Q I ?_⟩
  obtain ⟨H0, A, m, M, ρ, P, F, q⟩ := q
  exact fun p hp => new_own F trivial q hp ⟨p, [], rfl, upd_same, rfl, rfl, rfl⟩
theorem dn_dt : PE X (.Dict [] [] pos) (tN (cf X T W) nDt) := by
  refine ⟨fun pins s σ H Q I q => pe_dnewT.run pins s σ H Q I ?_⟩
  obtain ⟨H0, A, m, M, ρ, P, F, q⟩ := q
  exact fun p hp => new_own F trivial q hp ⟨p, [], rfl, upd_same, rfl, rfl, rfl⟩
/-! several -/
def SlRs (K : PySem.W.Frag) (H0 : Hp) (A m : List Addr) (H : Hp) : List Ev → List V → List Addr → Prop
  | [], vs, P => vs = [] ∧ P = []
  | x :: xs, vs, P => ∃ v r P1 P2, vs = v :: r ∧ P = P1 ++ P2 ∧ SlR K H0 A m H x v P1 ∧ SlRs K H0 A m H xs r P2
theorem SlRs.len {K : PySem.W.Frag} {H0 : Hp} {A m : List Addr} {H : Hp} : ∀ {xs : List Ev} {vs : List V} {P : List Addr}, SlRs K H0 A m H xs vs P → vs.length = xs.length
  | [], _, _, ⟨e, _⟩ => by rw [e]; rfl
  | x :: xs, _, _, ⟨v, r, P1, P2, e, eP, h1, h2⟩ => by rw [e, List.length_cons, List.length_cons, SlRs.len h2]
def tNs (C : Cf) (fs : Sm (List Ev)) : TA := fun σ H Q => ∃ H0 A m M ρ P, FR C H0 A m M H ρ σ P ∧ match fs ρ M with
  | .ok xs M' => ∀ A' P1 H' vs, RchC A m H A' H' → WR C.K m M' H' → LamX.Tabs C.T H' → AOk A' H' → SlRs C.K H0 A' m H' xs vs P1 → P1.Nodup → (∀ p ∈ P1, p ∈ A' ∧ ¬ Lv H p) → Q vs H'
  | .exc c g M' => ∀ H' cls d, Stp m H H' → WR C.K m M' H' → LamX.Tabs C.T H' → XR C.mg H' c g cls d → C.W cls d σ H'
  | .stuck => False
def nNil : Sm (List Ev) := fun _ M => .ok [] M
def nCons (f : Sm Ev) (fs : Sm (List Ev)) : Sm (List Ev) := fun ρ M => bnd (f ρ M) fun x M1 => bnd (fs ρ M1) fun xs M2 => .ok (x :: xs) M2
theorem dns_nil : PA X [] (tNs (cf X T W) nNil) := by
  refine ⟨fun pos pins s σ H Q I q => pa_nil.run pos pins s σ H Q I ?_⟩
  obtain ⟨H0, A, m, M, ρ, P, F, q⟩ := q
  exact q A [] H [] ⟨fun a h => .inl h, fun a h => h, Stp.refl _ _⟩ F.wr F.tb F.aok ⟨rfl, rfl⟩ List.nodup_nil fun p h => nomatch h
theorem dns_cons (he : PE X e (tN (cf X T W) f)) (ha : PA X es (tNs (cf X T W) fs)) (hs : starEach (e :: es) X.env = (false, eval e X.env) :: starEach es X.env := by rfl) : PA X (e :: es) (tNs (cf X T W) (nCons f fs)) := by
  refine ⟨fun pos pins s σ H Q I q => (pa_cons he ha hs).run pos pins s σ H Q I ?_⟩
  obtain ⟨H0, A, m, M, ρ, P, F, q⟩ := q
  refine ⟨H0, A, m, M, ρ, P, F, ?_⟩
  unfold nCons at q
  cases e1 : f ρ M with
  | stuck => rw [e1] at q; exact q.elim
  | exc c g M1 => rw [e1] at q; exact q
  | ok x M1 =>
    rw [e1, bnd_ok] at q
    intro A1 P1 H1 v r1 w1 t1 k1 x1 n1 h1
    have F1 := F.gro r1 w1 t1 k1
    refine ⟨H0, A1, m, M1, ρ, P, F1, ?_⟩
    cases e2 : fs ρ M1 with
    | stuck => rw [e2] at q; exact q.elim
    | exc c g M2 => rw [e2] at q; exact fun H' cls d s w t x => q H' cls d (r1.2.2.trans s) w t x
    | ok xs M2 =>
      rw [e2] at q
      intro A2 P2 H2 vs r2 w2 t2 k2 x2 n2 h2
      have hl : ∀ p ∈ P1, Lv H1 p := fun p hp => by obtain ⟨o, e, mu⟩ := k1 p (h1 p hp).1; exact ⟨o, e, muta_tbl mu⟩
      have n12 : ∀ p, ¬ Lv H1 p → ¬ Lv H p := fun p z y => z (by
        by_cases hm : p ∈ m
        · obtain ⟨o, e, mu⟩ := w1.aok p hm; exact ⟨o, e, muta_tbl mu⟩
        · exact r1.2.2.lv y hm)
      refine q A2 (P1 ++ P2) H2 (v :: vs) ⟨fun a ha => ?_, fun a ha => r2.2.1 a (r1.2.1 a ha), r1.2.2.trans r2.2.2⟩ w2 t2 k2 ⟨v, vs, P1, P2, rfl, rfl, ?_, x2⟩ ?_ fun p hp => ?_
      · rcases r2.1 a ha with z | z
        · exact r1.1 a z
        · exact .inr (n12 a z)
      · exact SlR.step w1.aok (fun a ha => r2.2.1 a (F1.ma a ha)) r2.2.2 (fun a ha => (F.not_live (h1 a ha).2).2.1) (SlR.avoid r2.1 x1)
      · rw [List.nodup_append]
        exact ⟨n1, n2, fun a ha b hb e => (h2 b hb).2 (by rw [← e]; exact hl a ha)⟩
      · rcases List.mem_append.mp hp with z | z
        · exact ⟨r2.2.1 p (h1 p z).1, (h1 p z).2⟩
        · exact ⟨(h2 p z).1, n12 p (h2 p z).2⟩
/-- slots take things, some with own addresses -/
theorem FR.setNs {C : Cf} {H0 H : Hp} {A m : List Addr} {M : Mem} : ∀ {is : List Nat} {xs : List Ev} {vs : List V} {ρ : Env} {σ : L2.St} {P P1 : List Addr}, FR C H0 A m M H ρ σ P → SlRs C.K H0 A m H xs vs P1 → P1.Nodup → (∀ p ∈ P1, p ∈ A ∧ p ∉ m ∧ ¬ Lv H0 p ∧ p ∉ P) → (∀ i ∈ is, i < ρ.length) →
    ∃ P', FR C H0 A m M H (DL.setEvs ρ is xs) (DL.setAll σ is vs) P'
  | [], xs, vs, _, _, P, P1, F, _, _, _, _ => ⟨P, by cases xs <;> cases vs <;> exact F⟩
  | i :: is, [], vs, _, _, P, P1, F, ⟨e, _⟩, _, _, _ => ⟨P, by rw [e]; exact F⟩
  | i :: is, x :: xs, vs, ρ, σ, P, P1, F, ⟨v, r, Q1, Q2, e, eP, h1, h2⟩, n, hp, hi => by
    subst e; subst eP
    rw [List.nodup_append] at n
    obtain ⟨P', F', hP'⟩ := F.setO h1 n.1 (fun p h => hp p (List.mem_append_left _ h)) (hi i List.mem_cons_self)
    exact FR.setNs (is := is) (xs := xs) (vs := r) F' h2 n.2.1 (fun p h => ⟨(hp p (List.mem_append_right _ h)).1, (hp p (List.mem_append_right _ h)).2.1, (hp p (List.mem_append_right _ h)).2.2.1, fun z => (hP' p z).elim (hp p (List.mem_append_right _ h)).2.2.2 fun y => n.2.2 p y p h rfl⟩) fun j hj => by
      rw [List.length_set]; exact hi j (List.mem_cons_of_mem _ hj)
/-! ### the statements -/
def sSetN (i : Nat) (f : Sm Ev) : Ss := fun ρ M => sE (f ρ M) ρ fun x M1 => if i < ρ.length then .nx (ρ.set i (some x)) M1 else .stuck
theorem setN_run {C : Cf} {f : Sm Ev} {i : Nat} {σ : L2.St} {H : Hp} {Dn : Ends} (q : tS C (sSetN i f) Dn σ H) : tN C f σ H fun v H1 => Dn.nx (σ.set i (some v)) H1 := by
  obtain ⟨H0, A, m, M, ρ, P, F, q⟩ := q
  refine ⟨H0, A, m, M, ρ, P, F, ?_⟩
  unfold sSetN at q
  cases e1 : f ρ M with
  | stuck => rw [e1] at q; exact q.elim
  | exc c g M1 =>
    rw [e1] at q
    exact fun H' cls d s w t x => q A H' σ P cls d (Ext.step s F.ma) (F.step s w t) x
  | ok x M1 =>
    rw [e1] at q
    intro A1 P1 H1 v r1 w1 t1 k1 x1 n1 h1
    have F1 := F.gro r1 w1 t1 k1
    have q' : PZ C H0 A m H (if i < ρ.length then .nx (ρ.set i (some x)) M1 else .stuck) Dn := q
    by_cases hi : i < ρ.length
    · rw [if_pos hi] at q'
      obtain ⟨P', F', _⟩ := F1.setO x1 n1 (fun p hp => ⟨(h1 p hp).1, (F.not_live (h1 p hp).2).2.1, (F.not_live (h1 p hp).2).2.2.2, (F.not_live (h1 p hp).2).2.2.1⟩) hi
      exact q' A1 H1 _ P' ⟨fun a h _ => r1.2.1 a h, r1.1, r1.2.2.mono F.ma⟩ F'
    · rw [if_neg hi] at q'; exact q'.elim
theorem ds_setN {i : Nat} {x : Str} {pos' : Pos} (hN : X.N.Nodup) (he : PE X e (tN (cf X T W) f)) (hi : X.N[i]? = some x := by rfl) (hx : Loc X.env.scope x := by first | exact Or.inl rfl | exact Or.inr rfl) (hs : swapsWith e (some (.Name x pos')) pos.line X.env = pure false := by rfl) (hf : X.fn x = true ∨ X.env.scope.names.lookup x = some .local := by first | exact .inl rfl | exact .inr rfl | assumption) :
    PS X (.Assign [.Name x pos'] e pos) (tS (cf X T W) (sSetN i f)) :=
  ⟨fun pins s σ H Dn I q => (ps_set hN hi hx he hs hf).run pins s σ H Dn I (setN_run q)⟩
/-- name = [.. for ..] on one line -/
theorem ds_setLc {i : Nat} {y : Str} {py : Pos} {elt tg iter : Expr} {ifs : List Expr} {scope : Scope} {own : List (Str × Nat)} {spos : Pos} {it : Sm (List D)} {tgt : Tgt} {t : Sm Bool} {n : Sm Ev} (hc : X.calm = true) (hN : X.N.Nodup) (hi : PI X tg iter (tI (cf X T W) true it)) (ok : BlkOk X.N X.env.scope scope own)
    (hg : ∀ (s : Shared) (H : Hp) (C : Addr) (cl : List (Str × Addr)) (fp : List Addr), PG (X.blk s H scope (compEnvC scope cl C X.env) fp) tg (tgG X.K tgt)) (ht : ∀ (s : Shared) (H : Hp) (C : Addr) (cl : List (Str × Addr)) (fp : List Addr), PTs (X.blk s H scope (compEnvC scope cl C X.env) fp) ifs (tT (cf X T W0) t))
    (he : ∀ (s : Shared) (H : Hp) (C : Addr) (cl : List (Str × Addr)) (fp : List Addr), PE (X.blk s H scope (compEnvC scope cl C X.env) fp) elt (tE (cf X T W0) f)) (hn : ∀ σ H Q, tN (cf X T W) n σ H Q → tF (cf X T W) (fLc it tgt (own.map (·.2)) t f) σ H Q)
    (hsw : swapsWith (.ListComp elt [⟨tg, iter, ifs, 0⟩] scope pos) (some (.Name y py)) spos.line X.env = pure true) (hy : X.N[i]? = some y := by rfl) (hyl : X.env.scope.names.lookup y = some .local := by rfl) (hv : ∀ i ∈ tgt.slots, i ∈ own.map (·.2) := by decide) (hs : ∀ x, foldedSetIterable iter X.env x = pure x := by intro _; rfl) :
    PS X (.Assign [.Name y py] (.ListComp elt [⟨tg, iter, ifs, 0⟩] scope pos) spos) (tS (cf X T W) (sSetN i n)) :=
  ⟨fun pins s σ H Dn I q => (ps_setLc hc hN hy hyl hsw hi ok hg ht he hs).run pins s σ H Dn I (lc_run hv (hn _ _ _ (setN_run q)))⟩
theorem hn_own {C : Cf} {f : Sm (List D)} : ∀ σ H Q, tN C (nF f) σ H Q → tF C f σ H Q := fun _ _ _ => tN_F
theorem hn_dat {C : Cf} {f : Sm (List D)} : ∀ σ H Q, tN C (nE (eF f)) σ H Q → tF C f σ H Q := fun _ _ _ q => tE_F (tN_E q)
/-- a, b = .. with plain names, some lists and dicts of their own -/
def sParN (is : List Nat) (fs : Sm (List Ev)) : Ss := fun ρ M => sE (fs ρ M) ρ fun xs M1 => if xs.length = is.length ∧ ∀ i ∈ is, i < ρ.length then .nx (setEvs ρ is xs) M1 else .stuck
theorem parN_run {C : Cf} {fs : Sm (List Ev)} {is : List Nat} {σ : L2.St} {H : Hp} {Dn : Ends} (q : tS C (sParN is fs) Dn σ H) : tNs C fs σ H fun vs H1 => vs.length = is.length ∧ Dn.nx (setAll σ is vs) H1 := by
  obtain ⟨H0, A, m, M, ρ, P, F, q⟩ := q
  refine ⟨H0, A, m, M, ρ, P, F, ?_⟩
  unfold sParN at q
  cases e1 : fs ρ M with
  | stuck => rw [e1] at q; exact q.elim
  | exc c g M1 =>
    rw [e1] at q
    exact fun H' cls d s w t x => q A H' σ P cls d (Ext.step s F.ma) (F.step s w t) x
  | ok xs M1 =>
    rw [e1] at q
    intro A1 P1 H1 vs r1 w1 t1 k1 x1 n1 h1
    have F1 := F.gro r1 w1 t1 k1
    have q' : PZ C H0 A m H (if xs.length = is.length ∧ ∀ i ∈ is, i < ρ.length then .nx (setEvs ρ is xs) M1 else .stuck) Dn := q
    by_cases hi : xs.length = is.length ∧ ∀ i ∈ is, i < ρ.length
    · rw [if_pos hi] at q'
      obtain ⟨P', F'⟩ := FR.setNs F1 x1 n1 (fun p hp => ⟨(h1 p hp).1, (F.not_live (h1 p hp).2).2.1, (F.not_live (h1 p hp).2).2.2.2, (F.not_live (h1 p hp).2).2.2.1⟩) hi.2
      exact ⟨by rw [SlRs.len x1]; exact hi.1, q' A1 H1 _ P' ⟨fun a h _ => r1.2.1 a h, r1.1, r1.2.2.mono F.ma⟩ F'⟩
    · rw [if_neg hi] at q'; exact q'.elim
theorem ds_parN {i j : Nat} {x y : Str} {px py pt : Pos} {kt k2 pt2} (hc : X.calm = true) (hN : X.N.Nodup) (ha : PA X [a, b] (tNs (cf X T W) fs)) (hi : X.N[i]? = some x := by rfl) (hj : X.N[j]? = some y := by rfl) (hij : i ≠ j := by decide)
    (hx : X.env.scope.names.lookup x = some .local := by rfl) (hy : X.env.scope.names.lookup y = some .local := by rfl)
    (hw : swappedStores [.Tuple [.Name x px, .Name y py] kt pt] (.Tuple [a, b] k2 pt2) X.env = pure (some [x, y]) := by rfl)
    (hs : swapsWithSole [.Tuple [.Name x px, .Name y py] kt pt] (.Tuple [a, b] k2 pt2) pos.line X.env = pure false := by rfl) :
    PS X (.Assign [.Tuple [.Name x px, .Name y py] kt pt] (.Tuple [a, b] k2 pt2) pos) (tS (cf X T W) (sParN [i, j] fs)) := by
  refine ⟨fun pins s σ H Dn I q => (ps_par hc hN hi hj hij hx hy ha hw hs).run pins s σ H Dn I ?_⟩
  obtain ⟨H0, A, m, M, ρ, P, F, h⟩ := parN_run q
  refine ⟨H0, A, m, M, ρ, P, F, ?_⟩
  have two : ∀ vs H1, vs.length = [i, j].length ∧ Dn.nx (setAll σ [i, j] vs) H1 → ∃ v w, vs = [v, w] ∧ Dn.nx ((σ.set i (some v)).set j (some w)) H1 := by
    intro vs H1 h
    match vs, h with
    | [v, w], h => exact ⟨v, w, rfl, h.2⟩
  cases e1 : fs ρ M with
  | stuck => rw [e1] at h; exact h
  | exc c g M1 => rw [e1] at h; exact h
  | ok xs M1 =>
    rw [e1] at h
    exact fun A1 P1 H1 vs r1 w1 t1 k1 x1 n1 h1 => two _ _ (h A1 P1 H1 vs r1 w1 t1 k1 x1 n1 h1)
theorem ds_parN3 {i j l : Nat} {x y z : Str} {c : Expr} {px py pz pt : Pos} {kt k2 pt2} (hc : X.calm = true) (hN : X.N.Nodup) (ha : PA X [a, b, c] (tNs (cf X T W) fs)) (hi : X.N[i]? = some x := by rfl) (hj : X.N[j]? = some y := by rfl) (hl : X.N[l]? = some z := by rfl) (hij : i ≠ j := by decide) (hil : i ≠ l := by decide) (hjl : j ≠ l := by decide)
    (hx : X.env.scope.names.lookup x = some .local := by rfl) (hy : X.env.scope.names.lookup y = some .local := by rfl) (hz : X.env.scope.names.lookup z = some .local := by rfl)
    (hw : swappedStores [.Tuple [.Name x px, .Name y py, .Name z pz] kt pt] (.Tuple [a, b, c] k2 pt2) X.env = pure (some [x, y, z]) := by rfl)
    (hs : swapsWithSole [.Tuple [.Name x px, .Name y py, .Name z pz] kt pt] (.Tuple [a, b, c] k2 pt2) pos.line X.env = pure false := by rfl) :
    PS X (.Assign [.Tuple [.Name x px, .Name y py, .Name z pz] kt pt] (.Tuple [a, b, c] k2 pt2) pos) (tS (cf X T W) (sParN [i, j, l] fs)) := by
  refine ⟨fun pins s σ H Dn I q => (ps_par3 hc hN hi hj hl hij hil hjl hx hy hz ha hw hs).run pins s σ H Dn I ?_⟩
  obtain ⟨H0, A, m, M, ρ, P, F, h⟩ := parN_run q
  refine ⟨H0, A, m, M, ρ, P, F, ?_⟩
  have three : ∀ vs H1, vs.length = [i, j, l].length ∧ Dn.nx (setAll σ [i, j, l] vs) H1 → ∃ v w u, vs = [v, w, u] ∧ Dn.nx (((σ.set i (some v)).set j (some w)).set l (some u)) H1 := by
    intro vs H1 h
    match vs, h with
    | [v, w, u], h => exact ⟨v, w, u, rfl, h.2⟩
  cases e1 : fs ρ M with
  | stuck => rw [e1] at h; exact h
  | exc c g M1 => rw [e1] at h; exact h
  | ok xs M1 =>
    rw [e1] at h
    exact fun A1 P1 H1 vs r1 w1 t1 k1 x1 n1 h1 => three _ _ (h A1 P1 H1 vs r1 w1 t1 k1 x1 n1 h1)
end
end DL

set_option Elab.async false
set_option linter.all false
set_option maxRecDepth 100000
set_option maxHeartbeats 2000000
/-! The data layer: lists that are written. -/
namespace DL
open PySem PySem.Spec PyProof.Rows L2
section
variable {C : Cf} {K : PySem.W.Frag} {H0 H H' : Hp} {A A' m : List Addr} {M M' : Mem} {ρ : Env} {σ : L2.St} {P : List Addr}
/-- an own thing of a slot is written -/
theorem FR.mutE (F : FR C H0 A m M H ρ σ P) {j : Nat} {x x' : Ev} {v : V} {a : Addr} {o o' : HO} (h : ρ[j]? = some (some x)) (e : σ[j]? = some (some v)) (ha : a ∈ P) (hp : H a = some o) (mu : muta o) (mu' : muta o')
    (hx : ∀ P1, SlR C.K H0 A m H x v P1 → P1.Nodup → SlR C.K H0 A m (upd H a o') x' v P1) (hy : ∀ P1, SlR C.K H0 A m H x v P1 → a ∈ P1) : FR C H0 A m M (upd H a o') (ρ.set j (some x')) σ P := by
  have ho := F.own a ha
  refine ⟨F.wr.mut ho.2.1 hp mu, Tabs.mut F.tb hp mu, ER.mut (aok_one hp mu) ho.1 ho.2.2 stp_upd hx hy F.nd F.er h e, F.nd, F.own, F.ma, fun b hb => ?_, fun b u e n t => ?_⟩
  · by_cases e : b = a
    · exact ⟨o', by rw [e]; exact upd_same, mu'⟩
    · obtain ⟨o, e1, mu⟩ := F.aok b hb
      exact ⟨o, by rw [upd_ne e]; exact e1, mu⟩
  · have q := F.base b u e n t
    by_cases ex : b = a
    · subst ex; exact absurd ⟨u, e, t⟩ ho.2.2
    · rw [upd_ne ex]; exact q
/-- the own list of a slot -/
theorem FR.ownL (F : FR C H0 A m M H ρ σ P) {j : Nat} {l : List D} (h : ρ[j]? = some (some (.ls .own l))) :
    ∃ p vs, σ[j]? = some (some (.ref p)) ∧ H p = some (.lst vs) ∧ p ∈ A ∧ p ∉ m ∧ Rps C.K A m H l vs ∧ ∀ l' vs', Rps C.K A m (upd H p (.lst vs')) l' vs' → FR C H0 A m M (upd H p (.lst vs')) (ρ.set j (some (.ls .own l'))) σ P := by
  obtain ⟨v, P1, q1, q2, q3⟩ := ER.get F.er h
  obtain ⟨p, vs, rfl, hp, eP, r⟩ := q2
  have hP := q3 p (by rw [eP]; exact List.mem_cons_self)
  have ho := F.own p hP
  refine ⟨p, vs, q1, hp, ho.1, ho.2.1, r, fun l' vs' r' => ?_⟩
  refine F.mutE h q1 hP hp trivial trivial (fun Q1 hq _ => ?_) (fun Q1 hq => ?_)
  · obtain ⟨p', vs'', e, hp', eQ, _⟩ := hq
    cases e
    exact ⟨p, vs', rfl, upd_same, eQ, r'⟩
  · obtain ⟨p', vs'', e, hp', eQ, _⟩ := hq
    cases e
    rw [eQ]; exact List.mem_cons_self
theorem Rps.self {p : Addr} {o o' : HO} (hp : H p = some o) (mu : muta o) (hA : p ∈ A) {l : List D} {vs : List V} (r : Rps K A m H l vs) : Rps K A m (upd H p o') l vs :=
  Rps.step (B := [p]) (aok_one hp mu) (fun x hx => by rw [List.mem_singleton.mp hx]; exact hA) stp_upd l vs r
theorem Rp.self {p : Addr} {o o' : HO} (hp : H p = some o) (mu : muta o) (hA : p ∈ A) {d : D} {v : V} (r : Rp K A m H d v) : Rp K A m (upd H p o') d v :=
  Rp.step (B := [p]) (aok_one hp mu) (fun x hx => by rw [List.mem_singleton.mp hx]; exact hA) stp_upd d v r
/-- an object of the common memory -/
theorem FR.memL (F : FR C H0 A m M H ρ σ P) {n : Nat} {l : List D} (hM : M[n]? = some (.lst l)) {a : Addr} (hm : m[n]? = some a) :
    ∃ vs, H a = some (.lst vs) ∧ a ∈ m ∧ Rps C.K A m H l vs ∧ ∀ l' vs', D.bareL l' = true → Rps C.K A m (upd H a (.lst vs')) l' vs' → FR C H0 A m (M.set n (.lst l')) (upd H a (.lst vs')) ρ σ P ∧ Stp m H (upd H a (.lst vs')) := by
  obtain ⟨vs, h1, h2, h3⟩ := F.wr.ok n a _ hm hM
  have ha : a ∈ m := List.mem_of_getElem? hm
  refine ⟨vs, h1, ha, Rps.bare _ _ h2 h3, fun l' vs' b r' => ?_⟩
  have s : Stp m H (upd H a (.lst vs')) := stp_upd.mono fun x hx => by rw [List.mem_singleton.mp hx]; exact ha
  refine ⟨F.step s ⟨by rw [List.length_set]; exact F.wr.len, F.wr.nd, fun k c o hk ho => ?_⟩ (Tabs.mut F.tb h1 trivial), s⟩
  by_cases ek : k = n
  · subst ek
    rw [hm] at hk
    cases hk
    have hl : k < M.length := (List.getElem?_eq_some_iff.mp hM).1
    rw [List.getElem?_set_self hl] at ho
    cases ho
    exact ⟨vs', upd_same, b, Rps.bare _ _ b r'⟩
  · rw [List.getElem?_set_ne (fun z => ek z.symm)] at ho
    have q := F.wr.ok k c o hk ho
    have hca : c ≠ a := fun z => by
      subst z
      have h1 := List.getElem?_eq_some_iff.mp hk
      have h2 := List.getElem?_eq_some_iff.mp hm
      exact ek ((List.getElem_inj F.wr.nd).mp (h1.2.trans h2.2.symm))
    cases o with
    | lst lo =>
      obtain ⟨us, e1, e2, e3⟩ := q
      exact ⟨us, by rw [upd_ne hca]; exact e1, e2, Rps.self h1 trivial ha e3⟩
/-- a row among rows -/
theorem RowsR.get : ∀ {rows : List (List D)} {vs : List V} {P : List Addr} {i : Nat} {row : List D}, RowsR K A m H rows vs P → rows[i]? = some row → ∃ b ws, vs[i]? = some (.ref b) ∧ b ∈ P ∧ H b = some (.lst ws) ∧ Rps K A m H row ws
  | [], _, _, i, _, _, e => by simp at e
  | r0 :: rows, vs, P, 0, row, ⟨b, ws, r, P', e, eP, hb, hr, ht⟩, q => by
    simp at q; subst q
    exact ⟨b, ws, by rw [e]; rfl, by rw [eP]; exact List.mem_cons_self, hb, hr⟩
  | r0 :: rows, vs, P, i + 1, row, ⟨b, ws, r, P', e, eP, hb, hr, ht⟩, q => by
    obtain ⟨c, us, e1, e2, e3, e4⟩ := RowsR.get (i := i) ht (by simpa using q)
    exact ⟨c, us, by rw [e]; simpa using e1, by rw [eP]; exact List.mem_cons_of_mem _ e2, e3, e4⟩
theorem RowsR.len : ∀ {rows : List (List D)} {vs : List V} {P : List Addr}, RowsR K A m H rows vs P → vs.length = rows.length
  | [], _, _, ⟨e, _⟩ => by rw [e]; rfl
  | r0 :: rows, vs, P, ⟨b, ws, r, P', e, eP, hb, hr, ht⟩ => by rw [e, List.length_cons, List.length_cons, RowsR.len ht]
theorem RowsR.mut {p : Addr} {o : HO} {ws' : List V} {row' : List D} (hp : H p = some o) (mu : muta o) (hA : p ∈ A) (r' : Rps K A m (upd H p (.lst ws')) row' ws') : ∀ {rows : List (List D)} {vs : List V} {P : List Addr} {i : Nat}, P.Nodup → RowsR K A m H rows vs P → vs[i]? = some (.ref p) → RowsR K A m (upd H p (.lst ws')) (rows.set i row') vs P
  | [], _, _, i, _, ⟨e, eP⟩, q => by rw [e] at q; simp at q
  | r0 :: rows, vs, P, 0, nd, ⟨b, ws, r, P', e, eP, hb, hr, ht⟩, q => by
    rw [e] at q; simp at q; subst q
    rw [eP, List.nodup_cons] at nd
    exact ⟨b, ws', r, P', e, eP, upd_same, r', RowsR.step (B := [b]) (aok_one hp mu) (fun x hx => by rw [List.mem_singleton.mp hx]; exact hA) stp_upd (fun a ha z => nd.1 (by rw [← List.mem_singleton.mp z]; exact ha)) ht⟩
  | r0 :: rows, vs, P, i + 1, nd, ⟨b, ws, r, P', e, eP, hb, hr, ht⟩, q => by
    rw [e] at q
    have q' : r[i]? = some (.ref p) := by simpa using q
    rw [eP, List.nodup_cons] at nd
    have mem : ∀ {rows : List (List D)} {vs : List V} {P : List Addr} {i : Nat}, RowsR K A m H rows vs P → vs[i]? = some (.ref p) → p ∈ P := by
      intro rows
      induction rows with
      | nil => intro vs P i h q; rw [h.1] at q; simp at q
      | cons r0 rows ih =>
        intro vs P i h q
        obtain ⟨b, ws, r, P', e, eP, hb, hr, ht⟩ := h
        rw [e] at q; rw [eP]
        cases i with
        | zero => simp at q; subst q; exact List.mem_cons_self
        | succ i => exact List.mem_cons_of_mem _ (ih ht (by simpa using q))
    have hne : b ≠ p := fun z => nd.1 (by rw [z]; exact mem ht q')
    exact ⟨b, ws, r, P', e, eP, by rw [upd_ne hne]; exact hb, Rps.self hp mu hA hr, RowsR.mut hp mu hA r' nd.2 ht q'⟩
theorem FR.ownR (F : FR C H0 A m M H ρ σ P) {j : Nat} {rows : List (List D)} (h : ρ[j]? = some (some (.rw .own rows))) :
    ∃ p vs, σ[j]? = some (some (.ref p)) ∧ H p = some (.lst vs) ∧ vs.length = rows.length ∧ ∀ i row, rows[i]? = some row → ∃ b ws, vs[i]? = some (.ref b) ∧ p ≠ b ∧ b ∈ A ∧ b ∉ m ∧ H b = some (.lst ws) ∧ Rps C.K A m H row ws ∧
      ∀ l' ws', Rps C.K A m (upd H b (.lst ws')) l' ws' → FR C H0 A m M (upd H b (.lst ws')) (ρ.set j (some (.rw .own (rows.set i l')))) σ P := by
  obtain ⟨v, P1, q1, q2, q3⟩ := ER.get F.er h
  have key := q2
  obtain ⟨p, vs, P', rfl, hp, eP, r⟩ := q2
  refine ⟨p, vs, q1, hp, RowsR.len r, fun i row hi => ?_⟩
  obtain ⟨b, ws, e1, e2, e3, e4⟩ := RowsR.get r hi
  have hP := q3 b (by rw [eP]; exact List.mem_cons_of_mem _ e2)
  have ho := F.own b hP
  have hne : ∀ {Q1 : List Addr}, Q1.Nodup → SlR C.K H0 A m H (.rw .own rows) (.ref p) Q1 → p ≠ b := by
    intro Q1 nd hq
    obtain ⟨p', vs', P'', e, hp', eQ, r2⟩ := hq
    cases e
    rw [hp] at hp'; cases hp'
    obtain ⟨b', ws', f1, f2, _⟩ := RowsR.get r2 hi
    rw [e1] at f1; cases f1
    rw [eQ, List.nodup_cons] at nd
    exact fun z => nd.1 (by rw [z]; exact f2)
  have hpb : p ≠ b := by
    have sub : ∀ {ρ : Env} {σ : L2.St} {P : List Addr} {i : Nat} {x : Ev} {v : V}, ER C.K H0 A m H ρ σ P → P.Nodup → ρ[i]? = some (some x) → σ[i]? = some (some v) → ∃ P1, SlR C.K H0 A m H x v P1 ∧ P1.Nodup := by
      intro ρ
      induction ρ with
      | nil => intro σ P i x v _ _ e; simp at e
      | cons y ρ ih =>
        intro σ P i x v h nd e e'
        cases y with
        | none =>
          obtain ⟨y, τ, e2, h⟩ := h
          cases i with
          | zero => simp at e
          | succ i => exact ih h nd (by simpa using e) (by rw [e2] at e'; simpa using e')
        | some z =>
          obtain ⟨w, τ, Q1, Q2, e2, eP, h1, h2⟩ := h
          rw [eP, List.nodup_append] at nd
          cases i with
          | zero => simp at e; rw [e2] at e'; simp at e'; subst e; subst e'; exact ⟨Q1, h1, nd.1⟩
          | succ i => exact ih h2 nd.2.1 (by simpa using e) (by rw [e2] at e'; simpa using e')
    obtain ⟨Q1, hq, nd⟩ := sub F.er F.nd h q1
    exact hne nd hq
  refine ⟨b, ws, e1, hpb, ho.1, ho.2.1, e3, e4, fun l' ws' r' => ?_⟩
  refine F.mutE h q1 hP e3 trivial trivial (fun Q1 hq nd => ?_) (fun Q1 hq => ?_)
  · obtain ⟨p', vs', P'', e, hp', eQ, r2⟩ := hq
    cases e
    rw [hp] at hp'; cases hp'
    rw [eQ, List.nodup_cons] at nd
    exact ⟨p, vs, P'', rfl, by rw [upd_ne hpb]; exact hp, eQ, RowsR.mut e3 trivial ho.1 r' nd.2 r2 e1⟩
  · obtain ⟨p', vs', P'', e, hp', eQ, r2⟩ := hq
    cases e
    rw [hp] at hp'; cases hp'
    obtain ⟨b', ws', f1, f2, _⟩ := RowsR.get r2 hi
    rw [e1] at f1; cases f1
    rw [eQ]; exact List.mem_cons_of_mem _ f2
end
/-! ### o[i] = v -/
def putO (ρ : Env) (M : Mem) (j : Nat) (k : Int) (d : D) : SR := match ρ[j]? with
  | some (some (.ls .own l)) => match ixN l.length k with
    | some q => .nx (ρ.set j (some (.ls .own (l.set q d)))) M
    | none => .stuck
  | some (some (.d (.ob n))) => match M[n]? with
    | some (.lst l) => match ixN l.length k with
      | some q => if D.bareL (l.set q d) = true then .nx ρ (M.set n (.lst (l.set q d))) else .stuck
      | none => .stuck
    | none => .stuck
  | _ => .stuck
def put2 (ρ : Env) (M : Mem) (j : Nat) (x y : Ev) : SR := match x, y with
  | .d d, .d (.int k) => putO ρ M j k d
  | _, _ => .stuck
/-- v[i] = e -/
def sPut (j : Nat) (fi fe : Sm Ev) : Ss := fun ρ M => sE (fe ρ M) ρ fun x M1 => match ρ[j]? with
  | some (some _) => sE (fi ρ M1) ρ fun y M2 => put2 ρ M2 j x y
  | _ => .stuck
/-- v[a][b] = e -/
def putR (ρ : Env) (M : Mem) (j : Nat) (i : Nat) (row : List D) (rows : List (List D)) (x y : Ev) : SR := match x, y with
  | .d d, .d (.int k) => match ixN row.length k with
    | some q => .nx (ρ.set j (some (.rw .own (rows.set i (row.set q d))))) M
    | none => .stuck
  | _, _ => .stuck
def sPutR (j : Nat) (fa fb fe : Sm Ev) : Ss := fun ρ M => sE (fe ρ M) ρ fun x M1 => match ρ[j]? with
  | some (some (.rw .own rows)) => sE (fa ρ M1) ρ fun z M2 => match z with
    | .d (.int ka) => match ixN rows.length ka with
      | some i => match rows[i]? with
        | some row => sE (fb ρ M2) ρ fun y M3 => putR ρ M3 j i row rows x y
        | none => .stuck
      | none => .stuck
    | _ => .stuck
  | _ => .stuck
/-- v.append(e) -/
def appO (ρ : Env) (M : Mem) (j : Nat) (x : Ev) : SR := match x with
  | .d d => match ρ[j]? with
    | some (some (.ls .own l)) => if l.length < most then .nx (ρ.set j (some (.ls .own (l ++ [d])))) M else .stuck
    | some (some (.d (.ob n))) => match M[n]? with
      | some (.lst l) => if D.bareL (l ++ [d]) = true ∧ l.length < most then .nx ρ (M.set n (.lst (l ++ [d]))) else .stuck
      | none => .stuck
    | _ => .stuck
  | _ => .stuck
/-- a list that may be written -/
def wrt (ρ : Env) (M : Mem) (j : Nat) : Bool := match ρ[j]? with
  | some (some (.ls .own _)) => true
  | some (some (.d (.ob n))) => match M[n]? with
    | some (.lst _) => true
    | none => false
  | _ => false
def sApp (j : Nat) (fe : Sm Ev) : Ss := fun ρ M => if wrt ρ M j = true then sE (fe ρ M) ρ fun x M1 => appO ρ M1 j x else .stuck
section
variable {X : Cx} {T : List (Addr × Str)} {W : WX} {a b c e ie : Expr} {es : List Expr} {pos p p2 : Pos} {f g fi fe : Sm Ev} {fs : Sm (List Ev)}
theorem put_run {C : Cf} {H0 H : Hp} {A m : List Addr} {M : Mem} {ρ : Env} {σ : L2.St} {P : List Addr} {j : Nat} {d : D} {k : Int} {v : V} {Dn : Ends} (F : FR C H0 A m M H ρ σ P) (r : Rp C.K A m H d v) (q : PZ C H0 A m H (putO ρ M j k d) Dn) :
    ∃ o, σ[j]? = some (some o) ∧ rSetL o (.int k) v H fun H3 => Dn.nx σ H3 := by
  unfold putO at q
  split at q
  · rename_i l h
    split at q
    · rename_i i hi
      obtain ⟨p, vs, e1, hp, hA, hm, r1, w⟩ := F.ownL h
      have F' := w (l.set i d) (vs.set i v) (Rps.set i (Rps.self hp trivial hA r1) (Rp.self hp trivial hA r))
      exact ⟨_, e1, p, vs, k, i, rfl, rfl, hp, by rw [Rps.len r1]; exact hi, q A _ σ P (Ext.write hA) F'⟩
    · exact q.elim
  · rename_i n h
    split at q
    · rename_i l hM
      split at q
      · rename_i i hi
        split at q
        · rename_i hb
          obtain ⟨u, P1, q1, q2, q3⟩ := ER.get F.er h
          obtain ⟨_, a, hm, rfl⟩ := q2
          obtain ⟨vs, hp, hA, r1, w⟩ := F.memL hM hm
          have hA' := F.ma a hA
          obtain ⟨F', s⟩ := w (l.set i d) (vs.set i v) hb (Rps.set i (Rps.self hp trivial hA' r1) (Rp.self hp trivial hA' r))
          exact ⟨_, q1, a, vs, k, i, rfl, rfl, hp, by rw [Rps.len r1]; exact hi, q A _ σ P (Ext.step s F.ma) F'⟩
        · exact q.elim
      · exact q.elim
    · exact q.elim
  · exact q.elim
theorem ds_put {j : Nat} {x : Str} (he : PE X e (tE (cf X T W) fe)) (hi : PE X ie (tE (cf X T W) fi)) (hN : X.N[j]? = some x := by rfl) (hv : Vis X.env.scope x := by first | exact Or.inl rfl | exact Or.inr (Or.inl rfl) | exact Or.inr (Or.inr rfl)) (hd : (x == ("__debug__" : Str)) = false := by decide)
    (hcd : (x == ("__classdict__" : Str)) = false := by decide) (hs : swapsWithSole [.Subscript (.Name x p) ie p2] e pos.line X.env = pure false := by rfl) (hw : swappedStores [.Subscript (.Name x p) ie p2] e X.env = pure none := by rfl)
    (h1 : (assignEach [.Subscript (.Name x p) ie p2] X.env).map (·.2) = [assign (.Subscript (.Name x p) ie p2) X.env] := by rfl)
    (ha : ∀ v, assign (.Subscript (.Name x p) ie p2) X.env v = (do
      let ov ← holding [v] (eval (.Name x p) X.env)
      let iv ← holding [v, ov] (eval ie X.env)
      standAt p2
      holding [v, ov, iv] (setItem ov iv v)
      release [v, ov, iv] []) := by intro _; rfl) : PS X (.Assign [.Subscript (.Name x p) ie p2] e pos) (tS (cf X T W) (sPut j fi fe)) := by
  refine ⟨fun pins s σ H Dn I q => (ps_asg he (pg_sub (pe_var hN hv hd hcd) hi set_list ha) hs hw h1).run pins s σ H Dn I ?_⟩
  obtain ⟨H0, A, m, M, ρ, P, F, q⟩ := q
  refine subS F q fun x M1 H1 v F1 s1 r1 q1 => ?_
  split at q1
  · rename_i z hz
    obtain ⟨o, P1, h1, _, _⟩ := ER.get F1.er hz
    refine ⟨o, h1, ?_⟩
    refine subS F1 q1 fun y M2 H2 w F2 s2 r2 q2 => ?_
    unfold put2 at q2
    split at q2
    · rename_i d k
      obtain ⟨o', h2, q3⟩ := put_run F2 (Rp.step F1.wr.aok F1.ma s2 _ _ r1) q2
      rw [h1] at h2; cases h2
      rw [show w = V.int k from r2]
      exact q3
    · exact q2.elim
  · exact q1.elim
theorem ds_putR {j : Nat} {x : Str} {p3 : Pos} (hae : PE X a (tE (cf X T W) f)) (he : PE X e (tE (cf X T W) fe)) (hi : PE X ie (tE (cf X T W) fi)) (hN : X.N[j]? = some x := by rfl) (hv : Vis X.env.scope x := by first | exact Or.inl rfl | exact Or.inr (Or.inl rfl) | exact Or.inr (Or.inr rfl)) (hd : (x == ("__debug__" : Str)) = false := by decide)
    (hcd : (x == ("__classdict__" : Str)) = false := by decide) (hpl : PlainIx a := by exact fun _ _ => rfl) (hs : swapsWithSole [.Subscript (.Subscript (.Name x p) a p3) ie p2] e pos.line X.env = pure false := by rfl) (hw : swappedStores [.Subscript (.Subscript (.Name x p) a p3) ie p2] e X.env = pure none := by rfl)
    (h1 : (assignEach [.Subscript (.Subscript (.Name x p) a p3) ie p2] X.env).map (·.2) = [assign (.Subscript (.Subscript (.Name x p) a p3) ie p2) X.env] := by rfl)
    (ha : ∀ v, assign (.Subscript (.Subscript (.Name x p) a p3) ie p2) X.env v = (do
      let ov ← holding [v] (eval (.Subscript (.Name x p) a p3) X.env)
      let iv ← holding [v, ov] (eval ie X.env)
      standAt p2
      holding [v, ov, iv] (setItem ov iv v)
      release [v, ov, iv] []) := by intro _; rfl) : PS X (.Assign [.Subscript (.Subscript (.Name x p) a p3) ie p2] e pos) (tS (cf X T W) (sPutR j f fi fe)) := by
  refine ⟨fun pins s σ H Dn I q => (ps_asg he (pg_sub (pe_ix ix_seq (pe_var hN hv hd hcd) hae hpl) hi set_list ha) hs hw h1).run pins s σ H Dn I ?_⟩
  obtain ⟨H0, A, m, M, ρ, P, F, q⟩ := q
  refine subS F q fun x M1 H1 v F1 s1 r1 q1 => ?_
  split at q1
  · rename_i rows hz
    obtain ⟨p0, vs, h1, hp, hl, row1⟩ := F1.ownR hz
    refine ⟨_, h1, ?_⟩
    refine subS F1 q1 fun z M2 H2 w F2 s2 r2 q2 => ?_
    split at q2
    · rename_i ka
      split at q2
      · rename_i i hi
        split at q2
        · rename_i row hrow
          obtain ⟨p1, vs1, h3, hp1, hl1, row2⟩ := F2.ownR hz
          rw [h1] at h3; cases h3
          obtain ⟨b, ws, e1, hne, hA, hm, e3, e4, _⟩ := row2 i row hrow
          refine .inl ⟨p0, vs1, ka, .ref b, rfl, r2, SqL.of hp1, by unfold atI; rw [hl1, hi]; exact e1, ?_⟩
          refine subS F2 q2 fun y M3 H3 u F3 s3 r3 q3 => ?_
          unfold putR at q3
          split at q3
          · rename_i d k
            split at q3
            · rename_i q hq
              obtain ⟨p4, vs4, h4, hp4, hl4, row4⟩ := F3.ownR hz
              rw [h1] at h4; cases h4
              have hp3 := s3 p0 _ hp1 (fun hm0 => by
                obtain ⟨v', P1, g1, g2, g3⟩ := ER.get F2.er hz
                rw [h1] at g1; cases g1
                obtain ⟨pp, vv, PP, ee, hh, eP, _⟩ := g2
                cases ee
                exact (F2.own p0 (g3 p0 (by rw [eP]; exact List.mem_cons_self))).2.1 hm0) lst_tbl
              rw [hp4] at hp3; cases hp3
              obtain ⟨b', ws', f1, fne, fA, fm, f3, f4, fw⟩ := row4 i row hrow
              rw [e1] at f1; cases f1
              have F4 := fw (row.set q d) (ws'.set q v) (Rps.set q (Rps.self f3 trivial fA f4) (Rp.self f3 trivial fA (Rp.step F2.wr.aok F2.ma s3 _ _ (Rp.step F1.wr.aok F1.ma s2 _ _ r1))))
              exact ⟨b, ws', k, q, rfl, r3, f3, by rw [Rps.len f4]; exact hq, q3 A _ σ P (Ext.write fA) F4⟩
            · exact q3.elim
          · exact q3.elim
        · exact q2.elim
      · exact q2.elim
    · exact q2.elim
  · exact q1.elim
/-! ### v.append(e) -/
theorem ds_append {j : Nat} {x : Str} {apos cpos : Pos} (he : PE X e (tE (cf X T W) fe)) (hN : X.N[j]? = some x := by rfl) (hv : Vis X.env.scope x := by first | exact Or.inl rfl | exact Or.inr (Or.inl rfl) | exact Or.inr (Or.inr rfl)) (hd : (x == ("__debug__" : Str)) = false := by decide)
    (hcd : (x == ("__classdict__" : Str)) = false := by decide) (hbase : attributeBase (.Name x p) "append" X.env (eval (.Name x p) X.env) = eval (.Name x p) X.env := by rfl)
    (hfew : ((backTo cpos (starEach [e] X.env)).all (fun x => !x.1) && (backToKw cpos (keywordEach [] X.env)).all (fun x => x.1.isSome)
      && decide (([e] : List Expr).length + ([] : List Keyword).length + (if ([] : List Keyword).isEmpty then 0 else 1) < 30)) = true := by rfl)
    (hline : (apos.endLine == cpos.line) = true := by rfl) (hs : starEach [e] X.env = (false, eval e X.env) :: starEach [] X.env := by rfl) (hsw : swapsWith (.Call (.Attribute (.Name x p) "append" apos) [e] [] cpos) none pos.line X.env = pure false := by rfl) :
    PS X (.Expr (.Call (.Attribute (.Name x p) "append" apos) [e] [] cpos) pos) (tS (cf X T W) (sApp j fe)) := by
  refine ⟨fun pins s σ H Dn I q => (ps_expr (pe_bm PySem.F.plainAttrs_list PySem.F.slot_list_append PySem.F.type_list_append mt_append (pe_var hN hv hd hcd) (pa_cons he pa_nil hs) hbase hfew hline hs rfl) hsw).run pins s σ H Dn I ?_⟩
  obtain ⟨H0, A, m, M, ρ, P, F, q⟩ := q
  have q : PZ (cf X T W) H0 A m H (if wrt ρ M j = true then sE (fe ρ M) ρ fun x M1 => appO ρ M1 j x else .stuck) Dn := q
  by_cases hw : wrt ρ M j = true
  · rw [if_pos hw] at q
    have first : ∃ o, σ[j]? = some (some (.ref o)) ∧ tyV X.K "list" (.ref o) H := by
      unfold wrt at hw
      split at hw
      · rename_i l h
        obtain ⟨p0, vs, e1, hp, _⟩ := F.ownL h
        exact ⟨p0, e1, .inl ⟨rfl, vs, SqL.of hp⟩⟩
      · rename_i n h
        split at hw
        · rename_i l hM
          obtain ⟨u, P1, q1, q2, q3⟩ := ER.get F.er h
          obtain ⟨_, a, hm, rfl⟩ := q2
          obtain ⟨vs, hp, _⟩ := F.memL hM hm
          exact ⟨a, q1, .inl ⟨rfl, vs, SqL.of hp⟩⟩
        · cases hw
      · cases hw
    obtain ⟨o, ho, ty⟩ := first
    refine ⟨_, ho, ty, ?_⟩
    refine subS F q fun y M1 H1 w F1 s1 r1 q1 => ?_
    unfold appO at q1
    split at q1
    · rename_i d
      split at q1
      · rename_i l h
        split at q1
        · rename_i hc
          obtain ⟨p0, vs, e1, hp, hA, hm, r2, wt⟩ := F1.ownL h
          rw [ho] at e1; cases e1
          have F' := wt (l ++ [d]) (vs ++ [w]) (Rps.app (Rps.self hp trivial hA r2) (Rps.one (Rp.self hp trivial hA r1)))
          exact ⟨o, vs, w, rfl, rfl, hp, by have := most_line (Nat.le_refl most); rw [Rps.len r2]; omega, q1 A _ σ P (Ext.write hA) F'⟩
        · exact q1.elim
      · rename_i n h
        split at q1
        · rename_i l hM
          split at q1
          · rename_i hc
            obtain ⟨u, P1, g1, g2, g3⟩ := ER.get F1.er h
            obtain ⟨_, a, hm, rfl⟩ := g2
            rw [ho] at g1; cases g1
            obtain ⟨vs, hp, hA, r2, wt⟩ := F1.memL hM hm
            have hA' := F1.ma o hA
            obtain ⟨F', s⟩ := wt (l ++ [d]) (vs ++ [w]) hc.1 (Rps.app (Rps.self hp trivial hA' r2) (Rps.one (Rp.self hp trivial hA' r1)))
            exact ⟨o, vs, w, rfl, rfl, hp, by have := most_line (Nat.le_refl most); rw [Rps.len r2]; omega, q1 A _ σ P (Ext.step s F.ma) F'⟩
          · exact q1.elim
        · exact q1.elim
      · exact q1.elim
    · exact q1.elim
  · rw [if_neg hw] at q; exact q.elim
end
end DL

set_option Elab.async false
set_option linter.all false
set_option maxRecDepth 100000
set_option maxHeartbeats 2000000
/-! The data layer: defs, calls, raise. -/
namespace DL
open PySem PySem.Spec PyProof.Rows L2
/-- what is handed to a def -/
def pass1 : Ev → Option Ev
  | .d x => some (.d x)
  | .ls .vw l => some (.ls .pv l)
  | .ls .pv l => some (.ls .pv l)
  | .dk .vw ks l => some (.dk .pv ks l)
  | .dk .pv ks l => some (.dk .pv ks l)
  | .dt .vw ks l => some (.dt .pv ks l)
  | .dt .pv ks l => some (.dt .pv ks l)
  | _ => none
def passL : List Ev → Option (List Ev)
  | [] => some []
  | x :: l => match pass1 x, passL l with
    | some y, some r => some (y :: r)
    | _, _ => none
abbrev Fn := List Ev → Mem → R D
def eCall (n : Nat) (F : Fn) (fs : Sm (List Ev)) : Sm Ev := fun ρ M => bnd (fs ρ M) fun xs M1 => match passL xs with
  | some ys => if ys.length = n then bnd (F ys M1) fun d M2 => .ok (.d d) M2 else .stuck
  | none => .stuck
/-- a def's end -/
def PF (K : PySem.W.Frag) (mg : Str → Option Value) (T : List (Addr × Str)) (A m : List Addr) (H : Hp) (r : R D) (Q : VK) (E : XK) : Prop := match r with
  | .ok d M' => ∀ H' v, Stp m H H' → WR K m M' H' → LamX.Tabs T H' → Rp K A m H' d v → Q v H'
  | .exc c g M' => ∀ H' cls d, Stp m H H' → WR K m M' H' → LamX.Tabs T H' → XR mg H' c g cls d → E cls d H'
  | .stuck => False
/-- what a def promises -/
def spD (K : PySem.W.Frag) (mg : Str → Option Value) (T : List (Addr × Str)) (n : Nat) (F : Fn) : Sp := fun vs H Q E => vs.length = n ∧ ∃ A m M xs, WR K m M H ∧ LamX.Tabs T H ∧ (∀ a ∈ m, a ∈ A) ∧ AOk A H ∧ ER K H A m H (xs.map some) (vs.map some) [] ∧ PF K mg T A m H (F xs M) Q E
/-- what a body makes of the arguments -/
def fnOf (n : Nat) (f : Ss) : Fn := fun xs M => match f (xs.map some ++ List.replicate (n - xs.length) none) M with
  | .nx _ M' => .ok .non M'
  | .rt d M' => .ok d M'
  | .exc c g _ M' => .exc c g M'
  | _ => .stuck
theorem ER.pad {K : PySem.W.Frag} {H0 H : Hp} {A m : List Addr} : ∀ {ρ : Env} {σ : L2.St} {P : List Addr} (k : Nat), ER K H0 A m H ρ σ P → ER K H0 A m H (ρ ++ List.replicate k none) (σ ++ List.replicate k none) P
  | [], σ, P, 0, ⟨e, h⟩ => by rw [e]; exact ⟨rfl, h⟩
  | [], σ, P, k + 1, ⟨e, h⟩ => by
    rw [e]
    exact ⟨none, List.replicate k none, rfl, ER.pad (ρ := []) (σ := []) k ⟨rfl, h⟩⟩
  | none :: ρ, σ, P, k, ⟨y, τ, e, h⟩ => ⟨y, τ ++ List.replicate k none, by rw [e]; rfl, ER.pad k h⟩
  | some x :: ρ, σ, P, k, ⟨v, τ, P1, P2, e, eP, h1, h2⟩ => ⟨v, τ ++ List.replicate k none, P1, P2, by rw [e]; rfl, eP, h1, ER.pad k h2⟩
theorem fn_start {C : Cf} {E : XK} {N ps : List Str} {f : Ss} {vs : List V} {H : Hp} {Q : VK} (hW : C.W = fun cls d _ H => E cls d H) (h : spD C.K C.mg C.T ps.length (fnOf N.length f) vs H Q E) : tS C f { nx := fun _ H' => Q .non H', rt := Q } (L2.start N vs) H := by
  obtain ⟨hl, A, m, M, xs, w, t, hm, ok, er, q⟩ := h
  have el : xs.length = vs.length := by simpa using (ER.len er).symm
  refine ⟨H, A, m, M, xs.map some ++ List.replicate (N.length - xs.length) none, [], ⟨w, t, by unfold L2.start; rw [← el]; exact ER.pad _ er, List.nodup_nil, fun a h => (nomatch h), hm, ok, Stp.refl _ _⟩, ?_⟩
  unfold fnOf at q
  revert q
  cases f (xs.map some ++ List.replicate (N.length - xs.length) none) M with
  | nx ρ' M' => exact fun q A' H' σ' P' e F => q H' .non F.base F.wr F.tb rfl
  | rt d M' => exact fun q H' v w t s r => q H' v s w t (r A fun a ha => ⟨ha, by obtain ⟨o, e, mu⟩ := ok a ha; exact ⟨o, e, muta_tbl mu⟩⟩)
  | bk ρ' M' => exact fun q => q.elim
  | ct ρ' M' => exact fun q => q.elim
  | stuck => exact fun q => q.elim
  | exc c g ρ' M' =>
    intro q A' H' σ' P' cls d e F x
    rw [hW]
    exact q H' cls d F.base F.wr F.tb x
/-- a def of the text that holds what F tells -/
structure Dn (P : Program) (w : World) (K : PySem.W.Frag) (mg : Str → Option Value) (base : Heap) (T : List (Addr × Str)) (k : Nat) (x : Str) (n : Nat) (F : Fn) : Prop where
  ex : ∃ f fd ps, ps.length = n ∧ FnOk P w K mg base (L2.CX P w) k f fd ps (spD K mg T ps.length F) ∧ mg x = some (.ref f) ∧ PySem.W.keepIn K (.ref f) = true ∧ Binds K fd ps []
section
variable {P : Program} {w : World} {K : PySem.W.Frag} {mg : Str → Option Value} {base : Heap} {T : List (Addr × Str)}
abbrev wE (E : XK) : WX := fun cls d _ H => E cls d H
theorem dn_mono {j k n : Nat} {x : Str} {F : Fn} (h : Dn P w K mg base T j x n F) (hk : j ≤ k) : Dn P w K mg base T k x n F := by
  obtain ⟨f, fd, ps, hn, a, b⟩ := h.ex
  exact ⟨f, fd, ps, hn, a.mono hk, b⟩
theorem dn_of {x qual : Str} {st : Stmt} {f : Addr} {fd : FuncData} {N ps : List Str} {k : Nat} {g : Ss} (F : Fun K x qual st f fd) (hx : mg x = some (.ref f)) (hb : Binds K fd ps []) (S : FnScope N ps (defScope st))
    (hbody : ∀ (cdv : Value) (A : Around) (outer : List PySem.Env) (s : Shared) (H : Hp) (E : XK), Room k (A.deeper (envOfC qual (defScope st) s.heap.objs.size f cdv)) →
      PSs (cxOf (L2.CX P w) P w K mg base N qual (defScope st) f cdv A outer s H E) (defBody st) (tS ⟨K, mg, T, wE E⟩ g)) : Dn P w K mg base T (k + 1) x ps.length (fnOf N.length g) :=
  ⟨f, fd, ps, rfl, F.okX S (fun vs H Q E h => h.1) (fun cdv A outer s H vs Q E hr h => ⟨_, hbody cdv A outer s H E hr, fn_start (C := ⟨K, mg, T, wE E⟩) rfl h⟩), hx, F.kp, hb⟩
/-- no step left -/
theorem dn_zero {x qual : Str} {st : Stmt} {f : Addr} {fd : FuncData} {ps : List Str} {k : Nat} (F : Fun K x qual st f fd) (hx : mg x = some (.ref f)) (hb : Binds K fd ps []) : Dn P w K mg base T k x ps.length (fun _ _ => .stuck) :=
  ⟨f, fd, ps, rfl, ⟨fun vs H Q E h => h.1, fun A outer s H args us vs Q E hr he hbb hv h => by obtain ⟨_, _, _, _, _, _, _, _, _, _, q⟩ := h; exact q.elim⟩, hx, F.kp, hb⟩
end
section
variable {X : Cx} {T : List (Addr × Str)} {W : WX} {a b c e ie : Expr} {es : List Expr} {x : Str} {pos p p2 : Pos} {f g fi fe : Sm Ev} {fs : Sm (List Ev)} {k n : Nat} {F : Fn}
theorem pass_at {K : PySem.W.Frag} {H0 H : Hp} {A m : List Addr} (hm : AOk m H) : ∀ {xs ys : List Ev} {vs : List V}, passL xs = some ys → EvL K H0 A m H xs vs → ER K H A m H (ys.map some) (vs.map some) []
  | [], _, _, h, r => by cases h; cases r; exact ⟨rfl, rfl⟩
  | x :: xs, _, _, h, r => by
    unfold passL at h
    cases r with
    | cons r1 r2 =>
      rename_i v vs
      split at h
      · rename_i y ys e1 e2
        cases h
        refine ⟨v, vs.map some, [], [], rfl, rfl, ?_, pass_at hm e2 r2⟩
        unfold pass1 at e1
        split at e1
        · cases e1; exact ⟨rfl, r1⟩
        · cases e1; obtain ⟨a, vs, e, h, n, z, r⟩ := r1; exact ⟨rfl, a, vs, e, h, n, ⟨_, h, lst_tbl⟩, r⟩
        · cases e1; obtain ⟨a, vs, e, h, n, z, r⟩ := r1; exact ⟨rfl, a, vs, e, h, n, ⟨_, h, lst_tbl⟩, r⟩
        · cases e1; obtain ⟨a, vs, e, h, ek, n, z, r⟩ := r1; exact ⟨rfl, a, vs, e, h, ek, n, ⟨_, h, dK_tbl⟩, r⟩
        · cases e1; obtain ⟨a, vs, e, h, ek, n, z, r⟩ := r1; exact ⟨rfl, a, vs, e, h, ek, n, ⟨_, h, dK_tbl⟩, r⟩
        · cases e1; obtain ⟨a, vs, e, h, ek, n, z, r⟩ := r1; exact ⟨rfl, a, vs, e, h, ek, n, ⟨_, h, dT_tbl⟩, r⟩
        · cases e1; obtain ⟨a, vs, e, h, ek, n, z, r⟩ := r1; exact ⟨rfl, a, vs, e, h, ek, n, ⟨_, h, dT_tbl⟩, r⟩
        · cases e1
      · cases h
theorem de_call (G : Dn X.prog X.w X.K X.mg X.base T k x n F) (hr : Room k X.A) (hg : Gl X x) (tk : Takes X W) (ha : PA X (e :: es) (tA (cf X T W) fs)) (hdb : (x == ("__debug__" : Str)) = false := by decide) (he : starEach (e :: es) X.env = (false, eval e X.env) :: starEach es X.env := by rfl)
    (hpl : (backTo pos (starEach es X.env)).any (·.1) = false := by rfl) : PE X (.Call (.Name x p) (e :: es) [] pos) (tE (cf X T W) (eCall n F fs)) := by
  obtain ⟨af, fd, ps, hn, G, hm, hk, hb⟩ := G.ex
  refine ⟨fun pins s σ H Q I q => (pe_callS (E := WE W) G hr hg hm hk hb (fun σ => passAt tk σ) ha hdb he hpl).run pins s σ H Q I ?_⟩
  obtain ⟨H0, A, m, M, ρ, P, F1, q⟩ := q
  refine sub F1 q fun xs M1 H1 vs F2 _ r1 q1 => ?_
  split at q1
  · rename_i ys hy
    split at q1
    · rename_i hl
      have er := pass_at F2.wr.aok hy r1
      have el : vs.length = ys.length := by simpa using ER.len er
      refine ⟨by rw [el, hl, hn], A, m, M1, ys, F2.wr, F2.tb, F2.ma, F2.aok, er, ?_⟩
      revert q1
      cases F ys M1 with
      | ok d M2 => exact fun q1 H' v s w t r => q1 H' v s w t r
      | exc c g M2 => exact fun q1 H' cls d s w t x => q1 H' cls d s w t x
      | stuck => exact fun q1 => q1
    · exact q1.elim
  · exact q1.elim
/-! ### raise C() -/
/-- C(), an own class of exceptions that has no maker of its own -/
theorem pmk_none {Ca : Addr} {bmB : List Value} {B n1 n2 : String} (Fb : ExcBaseFacts B n1 n2 bmB) (hq : PySem.W.excIn X.K Ca bmB n1 = true) (hC : X.mg x = some (.ref Ca)) (hk : PySem.W.keepIn X.K (.ref Ca) = true) (hr : Raises X (.ref Ca)) (hg : Gl X x) (hdb : (x == ("__debug__" : Str)) = false := by decide) :
    PMk X (.Call (.Name x p) [] [] pos) (fun _ H Q => Q (.ref Ca) none H) := by
  intro pins s σ H Q I hQ
  refine wpAny_Call_Name_kw (ld_glob I hg hC ?_ hdb)
  refine PySem.W.callWith_K0 I.kIn hk ?_
  obtain ⟨_, _, _, _, _, _, _, _, _, _, _, _, _, _, _, _, _, e1, e2, e3, e4⟩ := exc_obj I.kIn hq
  exact wpAny_call_exc_subT Fb e4 e1 e2 e3 (fun _ _ hm => mk_of I hm hr hQ (I.hok.gone hm.new)) (Nat.zero_le _)
/-- what the text tells of an exception's class -/
structure XC (K : PySem.W.Frag) (mg : Str → Option Value) (c : Str) : Prop where
  ex : ∃ Ca, mg c = some (.ref Ca) ∧ PySem.W.excIn K Ca [.type "ValueError", .type "Exception", .type "BaseException", .type "object"] "ValueError.__new__" = true ∧ PySem.W.keepIn K (.ref Ca) = true ∧
    PySem.W.subIn K (.ref Ca) (.type "BaseException") = some true ∧ PySem.W.typeIn K (.ref Ca) = some (.type "type")
def sRaise (c : Str) : Ss := fun ρ M => .exc c none ρ M
theorem ds_raise (hc : X.calm = true) (tk : Takes X W) (hx : XC X.K X.mg x) (hg : Gl X x) (hdb : (x == ("__debug__" : Str)) = false := by decide) : PS X (.Raise (some (.Call (.Name x p) [] [] p2)) none pos) (tS (cf X T W) (sRaise x)) := by
  obtain ⟨Ca, h1, h2, h3, h4, h5⟩ := hx.ex
  refine ⟨fun pins s σ H Dn I q => (ps_raise hc tk (pmk_none PySem.F.excBase_ValueError h2 h1 h3 (raises_own h4 h5) hg hdb)).run pins s σ H Dn I ?_⟩
  obtain ⟨H0, A, m, M, ρ, P, F1, q⟩ := q
  exact q A H σ P (.ref Ca) none Ext.refl F1 ⟨Ca, h1, rfl, rfl⟩
end
end DL

set_option Elab.async false
set_option linter.all false
set_option maxRecDepth 100000
set_option maxHeartbeats 2000000
/-! The data layer: a lambda handed to a def that calls it and tells what it raised. -/
namespace DL
open PySem PySem.Spec PyProof.Rows L2
/-- try: call() / except pe as e: return isinstance(e, bn) / return False -/
def TTr (K : PySem.W.Frag) (CS CB : Addr) : (XK → Hp → VK → Prop) → Hp → VK → Prop := fun tl H Q =>
  tl (fun cls d H' => d = none ∧ ∃ Dc b, cls = .ref Dc ∧ ExcC K Dc ∧ PySem.W.exmOne K cls (.ref CS) = some true ∧ PySem.W.kitOne K (.ref Dc) (.ref CB) = some b ∧ Q (.bl b) H') H (fun _ H' => Q (.bl false) H')
section
variable {X : Cx} {T : List (Addr × Str)} {W : WX}
theorem raised_gives {x pe bn q : Str} {sg : Scope} {g CS CB : Addr} {cdg : Value} {j : Nat} {p1 p2 p3 p4 p5 p6 p7 p8 p9 p10 p11 p12 p13 : Pos} (h1 : sg.names.lookup pe = some .globalImplicit) (m1 : X.mg pe = some (.ref CS)) (d1 : (pe == ("__debug__" : Str)) = false)
    (h2 : sg.names.lookup ("isinstance" : Str) = some .globalImplicit) (m2 : X.mg "isinstance" = none) (h3 : sg.names.lookup bn = some .globalImplicit) (m3 : X.mg bn = some (.ref CB)) (d3 : (bn == ("__debug__" : Str)) = false) (h4 : sg.names.lookup ("e" : Str) = some .local) :
    LamX.GivesTo X ["call", "e"] x sg g cdg [.Try [.Expr (.Call (.Name "call" p1) [] [] p2) p3] [.ExceptHandler (some (.Name pe p4)) (some "e") [.Return (some (.Call (.Name "isinstance" p5) [.Name "e" p6, .Name bn p7] [] p8)) p9] p10] [] [] p11, .Return (some (.Constant (.bool false) j p12)) p13] "call" q (TTr X.K CS CB) := by
  intro f c' s H Q tl act hc h
  have hgl : Gl (cxOf C8.CX0 X.prog X.w X.K X.mg X.base ["call", "e"] x sg g cdg X.A X.stack s H C8.E0).nox pe := h1
  have nd : (["call", "e"] : List Str).Nodup := by decide +kernel
  refine ⟨_, pss_cons (ps_try_as (X := (cxOf C8.CX0 X.prog X.w X.K X.mg X.base ["call", "e"] x sg g cdg X.A X.stack s H C8.E0).nox) (i := 1) (c := .ref CS)
      (tb := fun W D σ H => ∃ Ech : XK, (∀ cls d σ' H', Ech cls d H' → W cls d σ' H') ∧ σ[0]? = some (some (.ref f)) ∧ H c' = some (LamX.CodeO c' q) ∧ tl Ech H (fun _ H' => D.nx σ H'))
      (ts := fun a cls d D σ H => (1 < σ.length → σ[1]? = some (some (.ref a))) ∧ d = none ∧ ∃ Dc b, cls = .ref Dc ∧ ExcC X.K Dc ∧ PySem.W.kitOne X.K (.ref Dc) (.ref CB) = some b ∧ D.rt (.bl b) H) (Wout := fun _ _ _ _ => False)
      rfl rfl nd rfl h4 ⟨hgl, d1, .inl m1⟩ takes0 (fun W pn xe tk _ => ?_) (fun a oe cls d pn hz hf => ?_)) (pss_one (ps_ret pe_bl)), ?_⟩
  · refine pss_one ⟨fun pins s' σ H' D I h' => ?_⟩
    obtain ⟨Ech, hW, k1, k2, k3⟩ := h'
    have hp := act W pn xe Ech p1 p2 tk hW
    exact (ps_expr (pos := p3) hp).run pins s' σ H' D I ⟨k1, k2, k3⟩
  · refine pss_one ⟨fun pins s' σ H' D I h' => ?_⟩
    obtain ⟨k1, rfl, Dc, b, rfl, ec, ek, k2⟩ := h'
    have hl : 1 < σ.length := by rw [I.len]; show 1 < 2; decide
    have he := ps_ret (pos := p9) (pe_callB (X := (((cxOf C8.CX0 X.prog X.w X.K X.mg X.base ["call", "e"] x sg g cdg X.A X.stack s H C8.E0).nox).suite a ((a, oe) :: pn))) (id := "isinstance") (x := "isinstance") (p := p5) (pos := p8) (e := .Name "e" p6) (es := [.Name bn p7]) (call_isE (a := a) (D := Dc) (oe := oe) (pn := pn) ec hz hf) h2 m2 rfl
      (pa_cons (pe_var (i := 1) (x := "e") rfl (Or.inl h4)) (pa_cons (pe_glob (v := V.ref CB) h3 m3 rfl d3) pa_nil)) (by decide +kernel) (by decide +kernel) rfl rfl)
    exact he.run pins s' σ H' D I ⟨.ref a, k1 hl, .ref CB, .ref CB, b, rfl, fun u hu => hu, ek, k2⟩
  · exact ⟨fun cls d H' => d = none ∧ ∃ Dc b, cls = .ref Dc ∧ ExcC X.K Dc ∧ PySem.W.exmOne X.K cls (.ref CS) = some true ∧ PySem.W.kitOne X.K (.ref Dc) (.ref CB) = some b ∧ Q (.bl b) H',
      fun cls d σ' H' ⟨e1, Dc, b, e2, e3, e4, e5, e6⟩ => ⟨true, e4, fun _ a _ => ⟨fun hl => List.getElem?_set_self (by simpa using hl), e1, Dc, b, e2, e3, e5, e6⟩, fun z => by cases z⟩, rfl, hc, h⟩
/-- what the call tells: False where nothing was raised, else whether it is of that class -/
def eRaised (tb : Str → Option Bool) (fb : Sm Ev) : Sm Ev := fun ρ M => match fb ρ M with
  | .ok _ M1 => .ok (.d (.bl false)) M1
  | .exc c none M1 => match tb c with
    | some b => .ok (.d (.bl b)) M1
    | none => .stuck
  | _ => .stuck
theorem de_raised {x pe bn : Str} {st : Stmt} {g CS CB c P : Addr} {fd : FuncData} {k j : Nat} {params : Arguments} {body : Expr} {scope : Scope} {fb : Sm Ev} {tb : Str → Option Bool} {p lpos pos p1 p2 p3 p4 p5 p6 p7 p8 p9 p10 p11 p12 p13 : Pos} (Fr : FunD X.K x x (defArgs st) (defBody st) (defScope st) [] [] g fd) (hm : X.mg x = some (.ref g)) (hb : Binds X.K fd ["call"] [])
    (hbody : defBody st = [.Try [.Expr (.Call (.Name "call" p1) [] [] p2) p3] [.ExceptHandler (some (.Name pe p4)) (some "e") [.Return (some (.Call (.Name "isinstance" p5) [.Name "e" p6, .Name bn p7] [] p8)) p9] p10] [] [] p11, .Return (some (.Constant (.bool false) j p12)) p13])
    (Sg : FnScope ["call", "e"] ["call"] (defScope st)) (h1 : (defScope st).names.lookup pe = some .globalImplicit) (m1 : X.mg pe = some (.ref CS)) (h2 : (defScope st).names.lookup ("isinstance" : Str) = some .globalImplicit) (m2 : X.mg "isinstance" = none) (h3 : (defScope st).names.lookup bn = some .globalImplicit) (m3 : X.mg bn = some (.ref CB))
    (h4 : (defScope st).names.lookup ("e" : Str) = some .local) (h5 : (defScope st).names.lookup ("call" : Str) = some .local) (hx : ∀ c b, tb c = some b → ∃ Dc, X.mg c = some (.ref Dc) ∧ ExcC X.K Dc ∧ PySem.W.exmOne X.K (.ref Dc) (.ref CS) = some true ∧ PySem.W.kitOne X.K (.ref Dc) (.ref CB) = some b)
    (TB : LamX.TabB X.base X.mg c P) (hcode : X.env.code = .ref c) (hT : T = [(P, X.env.qual ++ "<lambda>")]) (hr : Room (k + 2) X.A) (hg : Gl X x)
    (hlam : ∀ (A : Around) (outer : List PySem.Env) (s : Shared) (H : Hp) (E : XK) (f c' : Addr), Room k (A.deeper (LamX.lamEnv X scope s.heap.objs.size f c')) → PE (LamX.lamCx X A outer s H E scope f c') body (tE (cf (LamX.lamCx X A outer s H E scope f c') T (wE E)) fb))
    (L : LamX.LamS X.env.scope scope) (hdef : defaultsOf params X.env = ([], []) := by rfl) (hbind : ∀ (q : Str) (cl : List (Str × Addr)) (pm cv ctv : Value), bindArgs (PySem.W.kla_fn "<lambda>" q params body scope cl pm cv ctv) ⟨[], []⟩ = pure [] := by intros; rfl)
    (d1 : (pe == ("__debug__" : Str)) = false := by decide) (d3 : (bn == ("__debug__" : Str)) = false := by decide) (hdb : (x == ("__debug__" : Str)) = false := by decide) :
    PE X (.Call (.Name x p) [.Lambda params body scope lpos] [] pos) (tE (cf X T W) (eRaised tb fb)) := by
  obtain ⟨oc, od, dV, kV, doc, pm, an, cdv, ct, osl, rfl, lk, hcd, hD, _⟩ := Fr.ex
  rcases hD with ⟨_, rfl⟩ | ⟨e, _⟩
  · refine ⟨fun pins s σ H Q I q => (LamX.pe_lamcall (T := T) (TT := TTr X.K CS CB) (a := "call") (Ng := ["call", "e"]) (k := k) (t := fun E => tE ⟨X.K, X.mg, T, wE E⟩ fb) hg hm Fr.kp lk hcd hb Sg rfl (Or.inl h5) (by rw [hbody]; exact raised_gives h1 m1 d1 h2 m2 h3 m3 d3 h4) TB hcode (by rw [hT]; exact List.mem_cons_self) (fun r hr _ => by
        rw [hT] at hr; rw [List.mem_singleton.mp hr]) hr L hdef hbind hlam hdb (by decide) (by decide)).run pins s σ H Q I ?_⟩
    obtain ⟨H0, A, m, M, ρ, P', F, q⟩ := q
    refine ⟨F.tb, fun H1 en t1 => ?_⟩
    have s1 : Stp m H H1 := fun a o e _ t => en a o e t
    have F1 : FR ⟨X.K, X.mg, T, W⟩ H0 A m M H1 ρ σ P' := F.step s1 (F.wr.step en) t1
    refine ⟨H0, A, m, M, ρ, P', F1.wish rfl rfl, ?_⟩
    unfold eRaised at q
    cases e : fb ρ M with
    | stuck => rw [e] at q; exact q.elim
    | ok x M1 =>
      rw [e] at q
      exact fun H' v s w t r => q H' (.bl false) (s1.trans s) w t rfl
    | exc c' g' M1 =>
      rw [e] at q
      cases g' with
      | some _ => exact q.elim
      | none =>
        cases e2 : tb c' with
        | none =>
          have q' : PX (cf X T W) m σ (relE X.K H0 A m) H (match tb c' with | some b => .ok (.d (.bl b)) M1 | none => .stuck) Q := q
          rw [e2] at q'; exact q'.elim
        | some b =>
          have q' : PX (cf X T W) m σ (relE X.K H0 A m) H (match tb c' with | some b => .ok (.d (.bl b)) M1 | none => .stuck) Q := q
          rw [e2] at q'
          intro H' cls d s w t hxr
          obtain ⟨C', hC, rfl, hd⟩ := hxr
          obtain ⟨Dc, g1, g2, g3, g4⟩ := hx c' b e2
          have g1' : X.mg c' = some (.ref C') := hC
          rw [g1] at g1'; cases g1'
          exact ⟨hd, _, b, rfl, g2, g3, g4, q' H' (.bl b) (s1.trans s) w t rfl⟩
  · exact absurd rfl e
end
end DL

set_option Elab.async false
set_option linter.all false
set_option maxRecDepth 100000
set_option maxHeartbeats 2000000
/-! The data layer: the law's own def, its first statement. -/
namespace DL
open PySem PySem.Spec PyProof.Rows L2
section
variable {P : Program} {w : World} {K : PySem.W.Frag} {mg : Str → Option Value} {base : Heap} {T : List (Addr × Str)}
theorem dn_ofD {x : Str} {params : Arguments} {body : List Stmt} {scope : Scope} {f : Addr} {fd : FuncData} {N ps : List Str} {k : Nat} {g : Ss} (F : FunD K x x params body scope [] [] f fd) (hx : mg x = some (.ref f)) (hb : Binds K fd ps []) (S : FnScope N ps scope)
    (hbody : ∀ (cdv : Value) (A : Around) (outer : List PySem.Env) (s : Shared) (H : Hp) (E : XK), Room k (A.deeper (envOfC x scope s.heap.objs.size f cdv)) →
      PSs (cxOf (L2.CX P w) P w K mg base N x scope f cdv A outer s H E) body (tS ⟨K, mg, T, wE E⟩ g)) : Dn P w K mg base T (k + 1) x ps.length (fnOf N.length g) :=
  ⟨f, fd, ps, rfl, F.ok S (fun vs H Q E h => h.1) (fun cdv A outer s H vs Q E hr h => ⟨_, hbody cdv A outer s H E hr, fn_start (C := ⟨K, mg, T, wE E⟩) rfl h⟩), hx, F.kp, hb⟩
theorem dn_zeroD {x : Str} {params : Arguments} {body : List Stmt} {scope : Scope} {f : Addr} {fd : FuncData} {ps : List Str} {k : Nat} (F : FunD K x x params body scope [] [] f fd) (hx : mg x = some (.ref f)) (hb : Binds K fd ps []) : Dn P w K mg base T k x ps.length (fun _ _ => .stuck) :=
  ⟨f, fd, ps, rfl, ⟨fun vs H Q E h => h.1, fun A outer s H args us vs Q E hr he hbb hv h => by obtain ⟨_, _, _, _, _, _, _, _, _, _, q⟩ := h; exact q.elim⟩, hx, F.kp, hb⟩
/-- a def whose code object is told -/
theorem fnOk_code {CX : CXT} {x : Str} {params : Arguments} {body : List Stmt} {scope : Scope} {f c : Addr} {fd : FuncData} {N ps : List Str} {k : Nat} {sp : Sp} (F : FunD K x x params body scope [] [] f fd) (hc : fd.code = .ref c) (S : FnScope N ps scope) (len : ∀ vs H Q E, sp vs H Q E → vs.length = ps.length)
    (hbody : ∀ (A : Around) (outer : List PySem.Env) (s : Shared) (H : Hp) (vs : List V) (Q : VK) (E : XK), Room k (A.deeper (envOfC x scope s.heap.objs.size f (.ref c))) → sp vs H Q E →
      ∃ t, PSs (cxOf CX P w K mg base N x scope f (.ref c) A outer s H E) body t ∧ t { nx := fun _ H' => Q .non H', rt := Q } (L2.start N vs) H) : FnOk P w K mg base CX (k + 1) f fd ps sp := by
  obtain ⟨oc, od, dV, kV, doc, pm, an, cdv, ct, osl, rfl, lk, hcd, _, _⟩ := F.ex
  have e : cdv = .ref c := hc
  subst e
  exact fn_of lk hcd S len hbody
end
theorem bare_ints : ∀ ns : List Int, D.bareL (ns.map D.int) = true
  | [] => rfl
  | _ :: ns => bare_ints ns
/-- what the law is asked -/
def spLaw (K : PySem.W.Frag) (Pt : Addr) : Sp := fun vs H Q _ => ∃ (a : Addr) (ns : List Int), vs = [.ref a] ∧ SqL K H a (ns.map V.int) ∧ ns.length ≤ 63 ∧ (∀ z ∈ ns, Builtin.Int.intBits z ≤ 1048576) ∧ H Pt = some (.tbl #[]) ∧ ∀ H', Q (.bl true) H'
/-- the first statement lays the hand: from there on it stands in the common memory -/
theorem law_run {C : Cf} {n : Nat} {fh : Sm Ev} {rest : Ss} {a Pt : Addr} {q : Str} {H : Hp} {ns cells : List Int} {k : Int} {Dn : Ends} (hT : C.T = [(Pt, q)]) (hP : H Pt = some (.tbl #[])) (hS : SqL C.K H a (ns.map V.int))
    (h1 : ∀ d, (d = .sc ns ∨ d = .lst (ns.map D.int)) → fh (some (.d d) :: List.replicate (n + 1) none) [] = .ok (.d (.lst [.lst (cells.map D.int), .int 0, .int 0, .int k, .int 0])) [])
    (h2 : ∃ M', rest (none :: some (.d (.ob 0)) :: List.replicate n none) [.lst [.ob 1, .int 0, .int 0, .int k, .int 0], .lst (cells.map D.int)] = .rt (.bl true) M') (hD : ∀ H', Dn.rt (.bl true) H') :
    tSeq (tAsg (tE C fh) (gName 1)) (tS C rest) Dn (some (.ref a) :: List.replicate (n + 1) none) H := by
  have tab : LamX.Tabs C.T H := fun p hp => by
    rw [hT] at hp
    rw [List.mem_singleton.mp hp]
    exact LamX.TabS.nil hP
  have pad : ∀ k, ER C.K H [] [] H (List.replicate k none) (List.replicate k none) [] := by
    intro k
    induction k with
    | zero => exact ⟨rfl, rfl⟩
    | succ k ih => exact ⟨none, List.replicate k none, rfl, ih⟩
  have go : ∀ d, (d = .sc ns ∨ d = .lst (ns.map D.int)) → Rp C.K [] [] H d (.ref a) → tSeq (tAsg (tE C fh) (gName 1)) (tS C rest) Dn (some (.ref a) :: List.replicate (n + 1) none) H := by
    intro d hd r
    have F : FR C H [] [] [] H (some (.d d) :: List.replicate (n + 1) none) (some (.ref a) :: List.replicate (n + 1) none) [] :=
      ⟨⟨rfl, List.nodup_nil, fun n a o h => by simp at h⟩, tab, ⟨_, _, [], [], rfl, rfl, ⟨rfl, r⟩, pad _⟩, List.nodup_nil, fun a h => (nomatch h), fun a h => (nomatch h), fun a h => (nomatch h), Stp.refl _ _⟩
    refine ⟨H, [], [], [], _, [], F, ?_⟩
    rw [h1 d hd]
    intro H' v s w t r
    obtain ⟨p, vs, rfl, hp, _, v0, r0, rfl, hc, rs⟩ := r
    obtain ⟨c, ws, rfl, hc, _, rc⟩ := hc
    have rs' : Rps C.K [p, c] [p, c] H' [.int 0, .int 0, .int k, .int 0] r0 := Rps.bare _ _ rfl (by
      obtain ⟨v1, r1, rfl, e1, v2, r2, rfl, e2, v3, r3, rfl, e3, v4, r4, rfl, e4, rfl⟩ := rs
      exact ⟨v1, _, rfl, e1, v2, _, rfl, e2, v3, _, rfl, e3, v4, _, rfl, e4, rfl⟩ : Rps C.K [] [p, c] H' [.int 0, .int 0, .int k, .int 0] r0)
    have hne : p ≠ c := fun z => by
      subst z
      rw [hp] at hc
      have e := Rps.ints rc
      rw [e] at hc
      cases cells with
      | nil => cases hc
      | cons x xs => cases hc
    have hw : WR C.K [p, c] [.lst [.ob 1, .int 0, .int 0, .int k, .int 0], .lst (cells.map D.int)] H' := by
      refine ⟨rfl, by simp [hne], fun i b o e1 e2 => ?_⟩
      match i, e1, e2 with
      | 0, e1, e2 =>
        simp at e1 e2
        subst e1; subst e2
        exact ⟨_, hp, rfl, _, _, rfl, ⟨c, rfl, rfl⟩, rs'⟩
      | 1, e1, e2 =>
        simp at e1 e2
        subst e1; subst e2
        refine ⟨_, hc, ?_, ?_⟩
        · exact bare_ints cells
        · rw [Rps.ints rc]; exact Rps.of_ints _
    have F2 : FR C H' [p, c] [p, c] [.lst [.ob 1, .int 0, .int 0, .int k, .int 0], .lst (cells.map D.int)] H' (none :: some (.d (.ob 0)) :: List.replicate n none) ((some (.ref a) :: List.replicate (n + 1) none).set 1 (some (.ref p))) [] := by
      refine ⟨hw, t, ⟨_, _, rfl, ?_⟩, List.nodup_nil, fun a h => (nomatch h), fun a h => h, fun b hb => ?_, Stp.refl _ _⟩
      · have pad' : ∀ k, ER C.K H' [p, c] [p, c] H' (List.replicate k none) (List.replicate k none) [] := by
          intro k
          induction k with
          | zero => exact ⟨rfl, rfl⟩
          | succ k ih => exact ⟨none, List.replicate k none, rfl, ih⟩
        exact ⟨_, _, [], [], rfl, rfl, ⟨rfl, p, rfl, rfl⟩, pad' n⟩
      · rcases List.mem_cons.mp hb with z | z
        · rw [z]; exact ⟨_, hp, trivial⟩
        · rw [List.mem_singleton.mp z]; exact ⟨_, hc, trivial⟩
    refine ⟨H', [p, c], [p, c], _, _, [], F2, ?_⟩
    obtain ⟨M', e⟩ := h2
    rw [e]
    intro H2 v2 _ _ _ rv
    have := rv [] (fun a h => nomatch h)
    rw [show v2 = V.bl true from this]
    exact hD H2
  rcases hS with (h | ⟨o, h⟩) | h
  · exact go (.lst (ns.map D.int)) (.inr rfl) ⟨a, _, rfl, h, by simp, Rps.of_ints ns⟩
  · exact go (.sc ns) (.inl rfl) ⟨a, rfl, .inl ⟨o, h⟩⟩
  · exact go (.sc ns) (.inl rfl) ⟨a, rfl, .inr h⟩
end DL

set_option Elab.async false
set_option linter.all false
set_option maxRecDepth 100000
set_option maxHeartbeats 4000000
/-! The data layer: built-ins over tuples that the library's rules leave out. -/
namespace TpX
open PySem PyProof.Rows Srt SrtO
section
variable {prog : Program} {w : World} {A : Around} {E : Value → Shared → Prop} {s : Shared}
/-- the items of a tuple, collected -/
theorem collect_tup {tp : Addr} {its : List Value} {Q : List Value → Shared → Prop} (ht : IsTup s.heap tp its.toArray) (hz : its.length ≤ sizeLine)
    (hQ : Q its { s with heap := (s.heap.push (seqObj "list" #[] 0)).update s.heap.objs.size (Obj.mapSeq (· ++ its.toArray)) }) : wpAny (model prog w) A (collect (.ref tp)) Q E s := by
  obtain ⟨ot, h1, h2, nt, h3⟩ := id ht
  unfold collect; refine wpAny_bind (wpAny_runValue (codeAny_builtin entry_proto_collect' ?_))
  show wpAny (model prog w) _ (do again (.builtin "list.__iadd__" ⟨[← newList [], .ref tp], []⟩)) _ _ s
  refine wpAny_bind (wpAny_newList (wpAny_pure (And.intro (Code.quiet_builtin _ (by decide +kernel)) (codeAny_builtin entry_list_iadd' ?_))))
  show wpAny (model prog w) _ (Builtin.List.listExtendWith (.ref s.heap.objs.size) (.ref tp) (.ref s.heap.objs.size)) _ _ { s with heap := s.heap.push (seqObj "list" #[] 0) }
  have g1 : (s.heap.push (seqObj "list" #[] 0)).get? tp = some ot := Heap.get?_push_of_some _ h1
  unfold Builtin.List.listExtendWith; refine wpAny_bind (wpAny_typeOf (T := "tuple") ⟨ot, g1, h2⟩ ?_)
  rw [if_pos (by rw [show (Value.type "tuple" == Value.type "tuple") = true by rfl, Bool.or_true])]
  refine wpAny_bind (listItems_at g1 h3 (wpAny_bind (listItems_at (xs := #[]) (n := 0) (Heap.get?_push_size _ rfl) rfl ?_)))
  rw [if_neg (by simp)]
  refine wpAny_bind (listUpdate_at (xs := #[]) (n := 0) (Heap.get?_push_size _ rfl) rfl (wpAny_pure ?_) (Nat.zero_le _) (by show (#[] ++ its.toArray).size ≤ sizeLine + 1; rw [Array.size_append, List.size_toArray]; simp only [List.size_toArray, List.length_nil]; omega))
  show wpAny (model prog w) _ (do
      let ol ← load s.heap.objs.size
      match ol.data with
      | .seq zs _ => pure zs.toList
      | _ => unsupported "internal:collect") Q E { s with heap := (s.heap.push (seqObj "list" #[] 0)).update s.heap.objs.size (Obj.mapSeq (· ++ its.toArray)) }
  refine wpAny_bind (wpAny_load (get?_update_seq (Heap.get?_push_size _ rfl) _) ?_)
  show wpAny (model prog w) _ (pure ((#[] : Array Value) ++ its.toArray).toList) Q E _
  rw [show ((#[] : Array Value) ++ its.toArray).toList = its by simp]
  exact wpAny_pure hQ
/-- sorted of a tuple -/
theorem sorted_tup {tp : Addr} {its : List Value} {lt : Value → Value → Bool} {Q : Value → Shared → Prop} (O : Swo lt) (ht : IsTup s.heap tp its.toArray) (hz : its.length ≤ sizeLine)
    (hS : 2 ≤ its.length → ∀ (hh : Heap) (a : Addr), hh.get? a = some (seqObj "list" its.toArray 0) → (∀ b o, s.heap.get? b = some o → b ≠ a ∧ hh.get? b = some o) → SortableO prog w A.in1.in1 { s with heap := hh } a its lt)
    (hQ : ∀ out : List Value, Srtd lt out → Stb lt out its → Q (.ref (s.heap.objs.size + 1)) { s with heap := sortedAll s.heap its out.toArray }) : wpAny (model prog w) A (call (.builtin "sorted") [.ref tp]) Q E s := by
  refine Calls.call_function_entry kind_sorted plain_sorted entry_sorted (args_sorted1 (.ref tp)) ?_
  unfold Builtin.«sorted»; refine wpAny_bind (m := checkCount "sorted" 1 1 _) (wpAny_pure ?_)
  refine wpAny_bind (collect_tup ht hz (wpAny_bind (wpAny_newList ?_ hz)))
  have e1 : ((s.heap.push (seqObj "list" #[] 0)).update s.heap.objs.size (Obj.mapSeq (· ++ its.toArray))).objs.size = s.heap.objs.size + 1 := by rw [Heap.size_update, size_push']
  have e2 : (((s.heap.push (seqObj "list" #[] 0)).update s.heap.objs.size (Obj.mapSeq (· ++ its.toArray))).push (seqObj "list" its.toArray 0)).get? (s.heap.objs.size + 1) = some (seqObj "list" its.toArray 0) := by rw [← e1]; exact Heap.get?_push_size _ rfl
  have e3 : ∀ b o, s.heap.get? b = some o → b ≠ s.heap.objs.size + 1 ∧ (((s.heap.push (seqObj "list" #[] 0)).update s.heap.objs.size (Obj.mapSeq (· ++ its.toArray))).push (seqObj "list" its.toArray 0)).get? b = some o := fun b o q => by
    have lt1 : b < s.heap.objs.size := Heap.lt_size q
    exact ⟨Nat.ne_of_lt (Nat.lt_succ_of_lt lt1), Heap.get?_push_of_some _ (by rw [Heap.get?_update_ne _ _ _ _ (Nat.ne_of_lt lt1)]; exact Heap.get?_push_of_some _ q)⟩
  show wpAny (model prog w) _ _ _ _ { s with heap := ((s.heap.push (seqObj "list" #[] 0)).update s.heap.objs.size (Obj.mapSeq (· ++ its.toArray))).push (seqObj "list" its.toArray 0) }
  rw [e1]
  refine wpAny_bind (wpAny_holding (wpAny_call_entry slot_list_sort ⟨_, e2, rfl⟩ entry_list_sort (list_sort_ord O e2 hz (fun h2 => hS h2 _ _ e2 e3) fun out o1 o2 => ⟨_, rfl, wpAny_pure ⟨_, rfl, hQ out o1 o2⟩⟩) (args_list_sort _)))
/-- a tuple once, the empty one any number of times -/
theorem tuple_mul1 (l : Addr) (items : Array Value) (n : Nat) (dd : Option Addr) (sl : Array (Option Value)) (x : Int) (u : Tok) (c0 : (decide (x < -(2 ^ 63)) || decide (x ≥ 2 ^ 63)) = false) (c1 : (items.isEmpty || x == 1) = true) :
    Meets (Builtin.«tuple.__mul__» ⟨[.ref l, .int x u], []⟩) (fun _ R s => s.heap.get? l = some { cls := .type "tuple", dict := dd, data := .seq items n, slots := sl } ∧ R (.ok (.ret (Value.ref l))) s) :=
  .of_wp fun prog w A R s h => by
    obtain ⟨hp, g, d, tk, os⟩ := s
    obtain ⟨hl, h⟩ := h
    have fi := AutoSeq1.idx_int
    wp_walk using AutoSeq1.wpAny_loadPart' hl
    refine wpAny_ite_false (decide_eq_false (by rw [c0]; exact Bool.false_ne_true)) ?_; wp_walk using AutoSeq1.wpAny_loadPart' hl
    exact ⟨_, rfl, h⟩
/-- enumerate(v): its two new cells, v told by what its iterator begins with -/
theorem enum_new1 {v : Value} {o : Obj} {G : Heap → Prop} (B : Begins v o G) :
    Meets (Builtin.«enumerate.__new__» ⟨[.type "enumerate", v], []⟩) (fun _ R s => G s.heap ∧ R (.ok (.ret (.ref (s.heap.push o).objs.size))) { s with heap := (s.heap.push o).push { cls := .type "enumerate", data := .fields #[.none, .bool false, .ref s.heap.objs.size, rawInt 0, .none, .none] } }) :=
  .of_wp fun prog w A R s h => by
    obtain ⟨hp, g, d, tk, os⟩ := s
    obtain ⟨hG, h⟩ := h
    have sb := sub_enumerate
    have go : ∀ {A' : Around} {E : Value → Shared → Prop} {Q : Value → Shared → Prop}, Q (.ref hp.objs.size) ⟨hp.push o, g, d, tk, os⟩ → wpAny (model prog w) A' (pyIter v) Q E ⟨hp, g, d, tk, os⟩ := fun q => B.iter prog w _ _ ⟨hp, g, d, tk, os⟩ _ hG q
    wp_walk using go
    refine wpAny_stack_any fun st => wpAny_pure ?_
    split
    · rename_i c _ _ _ _ _
      cases (c == Value.type "enumerate") <;> (wp_walk using go; exact ⟨_, rfl, h⟩)
    · wp_walk using go; exact ⟨_, rfl, h⟩
theorem call_enum1 {v : Value} {o : Obj} {G : Heap → Prop} {Q : Value → Shared → Prop} (B : Begins v o G) (hG : G s.heap)
    (hQ : ∀ h', IsEnum h' (s.heap.objs.size + 1) s.heap.objs.size 0 .none → h'.get? s.heap.objs.size = some o → (∀ b o, s.heap.get? b = some o → h'.get? b = some o) → Q (.ref (s.heap.objs.size + 1)) { s with heap := h' }) : wpAny (model prog w) A (call (.type "enumerate") [v]) Q E s := by
  refine callType_new F.called_enumerate (by decide) (F.typeCall_enumerate_1 v) (F.newCall_enumerate_1 v) (fun obj => F.args_object_init_2 obj v) F.entry_enumerate_new (enum_new1 B) ⟨hG, ?_⟩
  have hz : (s.heap.push o).objs.size = s.heap.objs.size + 1 := Heap.size_push ..
  show _ ∧ _
  rw [hz]
  have he : IsEnum ((s.heap.push o).push { cls := .type "enumerate", data := .fields #[.none, .bool false, .ref s.heap.objs.size, rawInt 0, .none, .none] }) (s.heap.objs.size + 1) s.heap.objs.size 0 .none := by
    have e := Heap.get?_push_size (s.heap.push o) (o := { cls := .type "enumerate", data := .fields #[.none, .bool false, .ref s.heap.objs.size, rawInt 0, .none, .none] }) rfl
    rw [hz] at e; exact e
  exact ⟨⟨_, he, rfl⟩, hQ _ he (Heap.get?_push_of_some _ (Heap.get?_push_size _ B.free)) fun b o x => Heap.get?_push_of_some _ (Heap.get?_push_of_some _ x)⟩
end
end TpX
namespace DL
open PySem PySem.Spec PyProof.Rows L2
theorem drawsEnd {prog : Program} {w : World} {A : Around} (hh : A.handled = none) (it t : Addr) (items : Array Value) (n : Nat) (hn : items.size ≤ n) :
    Draws prog w A it [it, t] n (fun _ _ => False) (fun k h => k = n ∧ h.IsTupleIter it t n ∧ h.IsTuple t items) where
  live := fun _ _ st => let ⟨o, ho, _⟩ := st.2.1; ⟨o, ho⟩
  frame := fun _ _ _ st hk => ⟨st.1, st.2.1.at fun o e => hk it (by simp) o e, st.2.2.at fun o e => hk t (by simp) o e⟩
  item := fun i s Q E hi st hQ => by have := st.1; omega
  done := fun s Q E st hE => wpAny_nextOf_tuple_end hh st.2.1 st.2.2 (by simp [hn]) hE
/-- a tuple that is told: the very one -/
theorem tup_is {h : Heap} {a : Addr} {its : Array Value} (p : IsTup h a its) : h.IsTuple a its := p
/-- the tuple at a as it stands at each turn, each item in a new pair -/
def IteT (K : PySem.W.Frag) (a : Addr) : It :=
  ⟨fun i H => ∃ (xs : List V) (x : V), SqT K H a xs ∧ xs[i]? = some x, fun i H v H' => ∃ N x, v = .ref N ∧ H N = none ∧ H' = upd H N (.tup [.int (i : Nat), x]) ∧ ∀ xs, SqT K H a xs → xs[i]? = some x, fun i H => ∃ xs : List V, SqT K H a xs ∧ xs.length ≤ i⟩
theorem turn_enumT {P : Program} {w : World} {K : PySem.W.Frag} {elts : List Expr} {kk : Nat} {tpos : Pos} (a e it : Addr) (hat : a ≠ it) (hae : a ≠ e) :
    Turn P w K (.Tuple elts kk tpos) (IteT K a) [e, it] e (fun i h => (∃ old, IsEnum h e it ((i : Nat) : Int) old) ∧ h.IsTupleIter it a i ∧ e ≠ it) where
  mem := by simp
  obj := fun i h st b hb => by
    obtain ⟨⟨old, he⟩, ⟨o, ho, hc, hd⟩, _⟩ := st
    rcases (show b = e ∨ b = it by simpa using hb) with z | z
    · rw [z]; exact ⟨_, he, fun v q => nomatch q⟩
    · rw [z]; exact ⟨o, ho, fun v q => by rw [hd] at q; cases q⟩
  keep := fun i h h' st k => ⟨st.1.elim fun old he => ⟨old, k e (by simp) _ he⟩, st.2.1.at fun o q => k it (by simp) o q, st.2.2⟩
  item := by
    intro X hP hw hK hc i pins s σ H E I hf st hg
    subst hP hw hK
    obtain ⟨⟨old, he⟩, hit, hne⟩ := st
    obtain ⟨xs, x, hq, hx⟩ := hg
    obtain ⟨its, rv, p, hz⟩ := I.tuple hq
    obtain ⟨u, hu, ru⟩ := rv.get hx
    have e1 : e < s.heap.objs.size := Heap.lt_size he
    have e2 : it < s.heap.objs.size := by obtain ⟨_, q, _⟩ := hit; exact Heap.lt_size q
    have hi : i < its.toArray.size := by rw [List.size_toArray]; exact (List.getElem?_eq_some_iff.mp hu).1
    refine wpAny_pyNext_enum_itemD (Draws.tuple (A := X.A.in1) (I.ok.hd hc) it a hat its.toArray) he ⟨hit, tup_is p⟩ hi hne (by simp [hne, hae.symm]) fun y h' tk hy ho hit' hT hsz hk => ?_
    have ey : y = u := by
      have z : its.toArray[i]? = some u := by simpa using hu
      rw [z] at hy; exact (Option.some.inj hy).symm
    subst ey
    refine ⟨_, rfl, wpAny_letOwnedTupleGo_enum (s := { s with heap := h', toks := tk + 1 }) ho fun h'' he' sb => ?_⟩
    have hT2 : h''.get? s.heap.objs.size = some { cls := .type "tuple", data := .seq #[.int i tk, y] } := (sb.2 _ (Nat.ne_of_gt e1)).trans hT
    have laid : ObjOk X.prog X.w (upd H s.heap.objs.size (.tup [.int (i : Nat), x])) h'' s.heap.objs.size (.tup [.int (i : Nat), x]) := ⟨by show 2 ≤ sizeLine; decide, [.int i tk, y], .cons ⟨_, rfl⟩ (.cons ru .nil), ⟨_, hT2, rfl, _, rfl⟩⟩
    have I1 : Inv X pins σ (upd H s.heap.objs.size (.tup [.int (i : Nat), x])) { s with heap := h'', toks := tk + 1 } :=
      I.turnedNew (ch := [e, it]) (fun b ob hb q => (sb.2 b (fun z => hb (by simp [z]))).trans (hk b ob (fun z => hb (by simp [z])) (fun z => hb (by simp [z])) q)) hf (Nat.le_refl _) laid
    refine ⟨.ref s.heap.objs.size, _, I1, rfl, ⟨_, x, rfl, I.hok.fresh (Nat.le_refl _), rfl, fun ys hy => by rw [I.tuple_inj hy hq]; exact hx⟩, ⟨⟨y, ?_⟩, hit'.1.at fun o q => (sb.2 it (Ne.symm hne)).trans q, hne⟩, fun b hb => ?_⟩
    · rw [show ((i + 1 : Nat) : Int) = (i : Int) + 1 by omega]; exact he'
    · have lb : b < s.heap.objs.size := by
        rcases (show b = e ∨ b = it by simpa using hb) with z | z
        · rw [z]; exact e1
        · rw [z]; exact e2
      rw [upd_ne (Nat.ne_of_lt lb)]; exact (hf b hb).1
  done := by
    intro X hP hw hK hc i pins s σ H E I hf st hg
    subst hP hw hK
    obtain ⟨⟨old, he⟩, hit, hne⟩ := st
    obtain ⟨xs, hq, hx⟩ := hg
    obtain ⟨its, rv, p, hz⟩ := I.tuple hq
    obtain ⟨f0, f1, f2, f3, f4, f5⟩ := hf it (by simp)
    have hl := rv.length
    exact wpAny_pyNext_enum_endD (drawsEnd (A := X.A.in1) (I.ok.hd hc) it a its.toArray i (by rw [List.size_toArray]; omega)) he ⟨rfl, hit, tup_is p⟩ fun h' eb => ⟨rfl, I.turned (t' := s.toks) (fun b o hb q => eb b o hb q) f0 f1 f3 f4 f5⟩
  self := fun A i s Q E st h => st.1.elim fun _ he => wpAny_pyIter_enum he h
end DL

set_option Elab.async false
set_option linter.all false
set_option maxRecDepth 100000
set_option maxHeartbeats 4000000
/-! The data layer: tuples turned about, sorted, told with their places, several times. -/
namespace TpX
open PySem PyProof.Rows
theorem adj_rev (n : Nat) : Builtin.Slice.sliceAdjust none none (-1) (n : Int) = ((n : Int) - 1, -1) := by
  unfold Builtin.Slice.sliceAdjust
  simp
theorem plc_rev (n : Nat) : Builtin.Slice.slicePlaces ((n : Int) - 1) (-1) (-1) = n := by
  unfold Builtin.Slice.slicePlaces
  by_cases h : n = 0
  · subst h; rfl
  · have h2 : (-1 : Int) < (n : Int) - 1 := by omega
    simp [h2]
theorem fm_congr {α β : Type} {f g : α → Option β} : ∀ {l : List α}, (∀ k ∈ l, f k = g k) → l.filterMap f = l.filterMap g
  | [], _ => rfl
  | a :: l, h => by
    rw [List.filterMap_cons, List.filterMap_cons, h a List.mem_cons_self, fm_congr fun k hk => h k (List.mem_cons_of_mem _ hk)]
theorem pick_rev (xs : Array Value) : ((List.range xs.size).filterMap fun (k : Nat) => xs[(((xs.size : Int) - 1) + (k : Int) * (-1)).toNat]?).toArray = xs.toList.reverse.toArray := by
  have e : ∀ k ∈ List.range xs.size, xs[(((xs.size : Int) - 1) + (k : Int) * (-1)).toNat]? = xs.toList.reverse[k]? := by
    intro k hk
    have hk' := List.mem_range.mp hk
    rw [List.getElem?_reverse (by simpa using hk'), Array.getElem?_toList]
    congr 1
    rw [Array.length_toList]
    omega
  have e2 : (List.range xs.size).filterMap (fun (k : Nat) => xs[(((xs.size : Int) - 1) + (k : Int) * (-1)).toNat]?) = (List.range xs.size).filterMap (fun k => xs.toList.reverse[k]?) := fm_congr e
  rw [e2]
  have e3 : ∀ l : List Value, (List.range l.length).filterMap (fun k => l[k]?) = l := by
    intro l
    induction l with
    | nil => rfl
    | cons x r ih =>
      rw [List.length_cons, List.range_succ_eq_map, List.filterMap_cons]
      show x :: _ = _
      rw [List.filterMap_map]
      congr 1
  have e4 := e3 xs.toList.reverse
  rw [List.length_reverse, Array.length_toList] at e4
  rw [e4]
section
variable {prog : Program} {w : World} {A : Around} {E : Value → Shared → Prop} {s : Shared}
theorem applied_rev {sl : Addr} {vl vu vs : Value} {n : Nat} {Q : Int × Int × Nat → Shared → Prop} (hs : s.heap.IsSliceOf sl vl vu vs) (pl : IsPart vl none) (pu : IsPart vu none) (ps : IsPart vs (some (-1)))
    (hQ : Q ((n : Int) - 1, -1, n) s) : wpAny (model prog w) A (Builtin.Slice.sliceApplied (.ref sl) (pure (n : Int))) Q E s := by
  obtain ⟨ob, h1, h2, h3⟩ := id hs
  unfold Builtin.Slice.sliceApplied Builtin.Slice.sliceFields; refine wpAny_bind (wpAny_bind (wpAny_field h1 h3 (x := vl) rfl (wpAny_bind (wpAny_field h1 h3 (x := vu) rfl (wpAny_bind (wpAny_field h1 h3 (x := vs) rfl (wpAny_pure ?_)))))))
  refine wpAny_bind (HT.slicePart_ ps ?_)
  show wpAny (model prog w) A (if ((-1 : Int) == 0) = true then _ else _) _ _ s
  rw [if_neg (by decide)]
  refine wpAny_bind (HT.slicePart_ pl (wpAny_bind (HT.slicePart_ pu (wpAny_bind (wpAny_pure ?_)))))
  show wpAny (model prog w) A (match Builtin.Slice.sliceAdjust none none (-1) (n : Int) with | (l, h) => pure (l, (-1 : Int), Builtin.Slice.slicePlaces l h (-1))) _ _ s
  rw [adj_rev n]
  show wpAny (model prog w) A (pure ((n : Int) - 1, (-1 : Int), Builtin.Slice.slicePlaces ((n : Int) - 1) (-1) (-1))) _ _ s
  rw [plc_rev]
  exact wpAny_pure hQ
theorem getItem_tuple_rev {t sl : Addr} {items : Array Value} {vl vu vs : Value} {Q : Value → Shared → Prop} (ht : IsTup s.heap t items) (hs : s.heap.IsSliceOf sl vl vu vs) (pl : IsPart vl none) (pu : IsPart vu none) (ps : IsPart vs (some (-1)))
    (hQ : Q (.ref s.heap.objs.size) { s with heap := s.heap.push { cls := .type "tuple", data := .seq items.toList.reverse.toArray } }) (hz : items.size ≤ sizeLine) : wpAny (model prog w) A (getItem (.ref t) (.ref sl)) Q E s := by
  have hk : sizeOk (.seq items.toList.reverse.toArray) := by
    show items.toList.reverse.toArray.size ≤ sizeLine
    rw [List.size_toArray, List.length_reverse, Array.length_toList]; exact hz
  obtain ⟨ob, h1, h2, h3⟩ := id hs
  unfold getItem
  try with_reducible refine wpAny_holding ?_
  first | refine wpAny_bind (wpAny_pure ?_) | skip
  refine wpAny_bind (wpAny_sequenceKey ht.typeIs (by decide) (wpAny_bind (wpAny_callSpecial?_slot (name := Str.ofString "__getitem__") ht.typeIs PyProof.Rows.slot_tuple_getitem (wpAny_call_entry PyProof.Rows.slot_tuple_getitem ht.typeIs entry_tuple_getitem ?_ (args_tuple_getitem _ _)))))
  show wpAny (model prog w) _ (Builtin.Tuple.tupleItemsOf (.ref t) >>= _) _ _ s
  refine wpAny_bind (tupleItemsOf_ ht (wpAny_bind (wpAny_typeOf (T := "slice") ⟨ob, h1, h2⟩ ?_)))
  rw [if_pos (by decide)]
  refine wpAny_bind (applied_rev hs pl pu ps ?_)
  show wpAny (model prog w) _ (if (((items.size : Int) - 1) == 0 && (-1 : Int) == 1 && items.size == items.size) = true then _ else _) _ _ s
  rw [if_neg (by simp), pick_rev]
  first
    | exact wpAny_bind (m := Builtin.Tuple.tupleExact _) (wpAny_newObj_type (wpAny_pure ⟨_, rfl, wpAny_pure hQ⟩) hk)
    | exact wpAny_bind (m := Builtin.Tuple.tupleExact _) (wpAny_newObj_type (wpAny_bind (wpAny_pure (wpAny_pure ⟨_, rfl, wpAny_pure hQ⟩))) hk)
    | exact wpAny_bind (wpAny_bind (m := Builtin.Tuple.tupleExact _) (wpAny_newObj_type (wpAny_pure (wpAny_pure ⟨_, rfl, wpAny_pure hQ⟩)) hk))
    | exact wpAny_bind (wpAny_bind (m := Builtin.Tuple.tupleExact _) (wpAny_newObj_type (wpAny_pure ⟨_, rfl, wpAny_pure hQ⟩) hk))
end
end TpX
namespace L2
open PySem PySem.Spec PyProof.Rows
section
variable {X : Cx} {e : Expr} {te : TE}
/-- t[::-1] -/
def tRevT (K : PySem.W.Frag) (te : TE) : TE := fun σ H Q => te σ H fun x H1 => ∃ a xs, x = .ref a ∧ ((SqL K H1 a xs ∧ ∀ p, H1 p = none → Q (.ref p) (upd H1 p (.lst xs.reverse))) ∨ (SqT K H1 a xs ∧ ∀ p, H1 p = none → Q (.ref p) (upd H1 p (.tup xs.reverse))))
theorem pe_revA {k : Nat} {p1 p2 p3 pos : Pos} (he : PE X e te) : PE X (.Subscript e (.Slice none none (some (.UnaryOp .USub (.Constant (.int 1) k p1) p2)) p3) pos) (tRevT X.K te) := by
  refine ⟨fun pins s σ H Q I h => Subscript_ (thn (he.run pins s σ H _ I h) fun v s1 ⟨x, H1, I1, r1, q1⟩ => ?_)⟩
  obtain ⟨a, xs, rfl, q⟩ := q1
  cases r1
  have hst : PO X (some (.UnaryOp .USub (.Constant (.int 1) k p1) p2)) (tPart (tUn (rU fun i => .int (-i)) (tC (.int 1)))) := po_some (pe_un un_neg pe_int)
  refine wpAny_Slice (thn (po_none.run pins s1 σ H1 (fun o H2 => o = none ∧ H2 = H1) I1 ⟨rfl, rfl⟩) fun vl s2 ⟨l, H2, I2, pl, g1, g2⟩ => ?_)
  subst g1 g2
  refine thn (po_none.run pins s2 σ H2 (fun o H3 => o = none ∧ H3 = H2) I2 ⟨rfl, rfl⟩) fun vu s3 ⟨u, H3, I3, pu, g3, g4⟩ => ?_
  subst g3 g4
  refine thn (hst.run pins s3 σ H3 (fun o H4 => o = some (-1) ∧ H4 = H3) I3 ⟨1, rfl, -1, rfl, rfl, rfl⟩) fun vs s4 ⟨o, H4, I4, ps, g5, g6⟩ => ?_
  subst g5 g6
  have I5 : Inv X pins σ H4 { s4 with heap := s4.heap.push { cls := .type "slice", data := .fields #[vl, vu, vs] } } := I4.kept (t' := s4.toks) fun b ob z => Heap.get?_push_of_some _ z
  show wpAny (model X.prog X.w) X.A (subscriptTail e (.Slice none none (some (.UnaryOp .USub (.Constant (.int 1) k p1) p2)) p3) (.ref a) (.ref s4.heap.objs.size)) (EP X pins σ Q) X.xe { s4 with heap := s4.heap.push { cls := .type "slice", data := .fields #[vl, vu, vs] } }
  rcases q with ⟨hx, q⟩ | ⟨hx, q⟩
  · obtain ⟨its, r, ht, hz⟩ := I5.list hx
    have hlen := r.length
    refine tail_any (ops := [.ref a, .ref s4.heap.objs.size]) ht.isList.typeIs (PySem.slot_list_getitem.lookup) (wpAny_getItem_list_slice ht.isList (Heap.IsSliceOf.new _ vl vu vs) pl pu ps (by decide) ?_ (by rw [List.size_toArray]; omega)) (by with_unfolding_all rfl)
    rw [PySem.W.krv_pick]
    exact ⟨.ref _, _, I5.laid (t' := s4.toks) (o := .lst xs.reverse) (fun b ob z => Heap.get?_push_of_some _ z) (Nat.le_refl _) ⟨by rw [List.length_reverse]; exact hz, _, 0, r.reverse, Heap.get?_push_size _ rfl⟩, rfl, q _ (I5.hok.fresh (Nat.le_refl _))⟩
  · obtain ⟨its, r, ht, hz⟩ := I5.tuple hx
    have hlen := r.length
    refine tail_any (ops := [.ref a, .ref s4.heap.objs.size]) ht.typeIs (PyProof.Rows.slot_tuple_getitem.lookup) (TpX.getItem_tuple_rev ht (Heap.IsSliceOf.new _ vl vu vs) pl pu ps ?_ (by rw [List.size_toArray]; omega)) (by with_unfolding_all rfl)
    exact ⟨.ref _, _, I5.laid (t' := s4.toks) (o := .tup xs.reverse) (fun b ob z => Heap.get?_push_of_some _ z) (Nat.le_refl _) ⟨by rw [List.length_reverse]; exact hz, _, r.reverse, IsTup.new _ _⟩, rfl, q _ (I5.hok.fresh (Nat.le_refl _))⟩
/-- sorted(t), ints -/
def rSortedT (K : PySem.W.Frag) : List V → Hp → VK → Prop := fun vs H Q => ∃ (a : Addr) (ns : List Int), vs = [V.ref a] ∧ SqT K H a (ns.map V.int) ∧ ∀ (ns' : List Int) (p : Addr), ns'.Perm ns → ns'.Pairwise (· ≤ ·) → H p = none → Q (.ref p) (upd H p (.lst (ns'.map V.int)))
theorem cr_sortedT : CallR X (.builtin "sorted") (rSortedT X.K) := by
  intro pins s σ H vs us Q I r h
  obtain ⟨a, ns, rfl, hs, q⟩ := h
  obtain ⟨its, rv, ht, hz⟩ := I.tuple hs
  rw [Vals.ref1 r]
  have hi := rv.ints
  refine TpX.sorted_tup SrtO.swo_int ht (by rw [← rv.length]; exact hz) (fun h2 hh a' _ _ => SrtO.ints_sortable hi h2) fun out o1 o2 => ?_
  obtain ⟨k1, k2, k3⟩ := SrtO.ints_out hi o1 o2
  obtain ⟨ep, he'⟩ := PyProof.Rows.sortedAll_at s.heap its out.toArray
  have hl : ((out.map SrtO.iv).map V.int).length ≤ sizeLine := by
    rw [List.length_map, k2.length_eq]
    simpa using hz
  exact ⟨.ref _, upd H (s.heap.objs.size + 1) (.lst ((out.map SrtO.iv).map V.int)), I.laid (t' := s.toks) (fun _ _ => PyProof.Rows.sortedAll_old) (Nat.le_succ _) ⟨hl, out, ep, vals_of_ints k1, he'⟩, rfl, q _ _ k2 k3 (I.hok.fresh (Nat.le_succ _))⟩
/-- t * 1, () * k: the same tuple -/
def rRep1 (K : PySem.W.Frag) : R2 := fun x y H Q => ∃ l k xs, x = .ref l ∧ y = .int k ∧ SqT K H l xs ∧ (xs = [] ∨ k = 1) ∧ -1000000 ≤ k ∧ k ≤ 1000000 ∧ Q (.ref l) H
theorem op_rep1 : OpR X (binaryOp .Mult) (rRep1 X.K) := by
  intro pins s σ H x y v u Q I rx ry h
  obtain ⟨l, k, xs, rfl, rfl, hT, hc, b1, b2, q⟩ := h
  cases rx
  obtain ⟨t, rfl⟩ := ry
  obtain ⟨its, r, ⟨⟨cls, dd, data, sl⟩, h1, h2, n, h3⟩, hz⟩ := I.tuple hT
  simp only at h2 h3
  subst h2 h3
  have c0 : (decide (k < -(2 ^ 63)) || decide (k ≥ 2 ^ 63)) = false := by rw [decide_eq_false (by omega), decide_eq_false (by omega)] <;> rfl
  have c1 : (its.toArray.isEmpty || k == 1) = true := by
    rcases hc with e | e
    · subst e; cases r; rfl
    · subst e; simp
  exact wpAny_binaryOp_repeat_ref (T := "tuple") (U := "int") (by decide) ⟨_, h1, rfl⟩ (fun s' => typeIs_int s' k t) noFill_tuple_mul F.fills_int_mul F.slot_int_rmul repeat_tuple F.slot_int_index.lookup (call_meets F.slot_int_rmul (typeIs_int s k t) F.entry_int_rmul (F.args_int_rmul_2 _ _) (int_rmul_tuple k t l its.toArray n dd sl)
    ⟨h1, rfl, ⟨_, h1, rfl⟩, call_meets F.slot_tuple_mul ⟨_, h1, rfl⟩ F.entry_tuple_mul (F.args_tuple_mul_2 _ _) (TpX.tuple_mul1 l its.toArray n dd sl k t c0 c1) ⟨h1, ⟨.ref l, H, I, rfl, q⟩⟩⟩)
/-- enumerate(x), a list or a tuple -/
def iEnumA (K : PySem.W.Frag) (ta : TA) : TI := fun σ H R => ta σ H fun vs H1 => ∃ a xs, vs = [.ref a] ∧ ((SqT K H1 a xs ∧ R (DL.IteT K a) H1) ∨ (SqL K H1 a xs ∧ R (Ite K a) H1))
theorem pi_enumA {p pos tpos : Pos} {elts : List Expr} {kk : Nat} {ta : TA} (hg : Gl X "enumerate") (hm : X.mg "enumerate" = none) (ha : PA X [e] ta) (hs : starEach [e] X.env = [(false, eval e X.env)] := by rfl) : PI X (.Tuple elts kk tpos) (.Call (.Name "enumerate" p) [e] [] pos) (iEnumA X.K ta) := by
  refine ⟨fun pins s σ H R I h => Call_ (ld_blt I hg hm boot_enumerate (PyProof.Rows.callWith_type1 (thn (ha.run pos pins s σ H _ I h) fun us s1 ⟨vs, H1, I1, r1, q1⟩ => ?_) hs rfl))⟩
  obtain ⟨a, xs, rfl, q⟩ := q1
  obtain rfl : us = [.ref a] := Vals.ref1 r1
  have fps : ∀ b ∈ [s1.heap.objs.size + 1, s1.heap.objs.size], s1.heap.objs.size ≤ b := fun b hb => by
    rcases (show b = s1.heap.objs.size + 1 ∨ b = s1.heap.objs.size by simpa using hb) with z | z
    · rw [z]; exact Nat.le_add_right _ _
    · rw [z]; exact Nat.le_refl _
  rcases q with ⟨hq, q⟩ | ⟨hq, q⟩
  · obtain ⟨its, rv, pt, hz⟩ := I1.tuple hq
    have la : a < s1.heap.objs.size := by obtain ⟨o, e, _⟩ := pt; exact Heap.lt_size e
    refine TpX.call_enum1 (begins_tuple a its.toArray) (DL.tup_is pt) fun h' he hit hk => wpAny_pyIter_enum he ?_
    have I2 : Inv X pins σ H1 { s1 with heap := h' } := I1.kept (t' := s1.toks) hk
    exact ⟨s1.heap.objs.size + 1, [s1.heap.objs.size + 1, s1.heap.objs.size], _, _, H1, rfl, I2, DL.turn_enumT a (s1.heap.objs.size + 1) s1.heap.objs.size (Nat.ne_of_lt la) (Nat.ne_of_lt (Nat.lt_succ_of_lt la)), ⟨⟨.none, he⟩, ⟨_, hit, rfl, rfl⟩, Nat.succ_ne_self _⟩, fun b hb => I1.fpOk (fps b hb) (I1.hok.fresh (fps b hb)), q⟩
  · obtain ⟨its, rv, pl, hz⟩ := I1.list hq
    refine call_enumerate_list pl.isList fun h' he hit hsz hk => wpAny_pyIter_enum he ?_
    have I2 : Inv X pins σ H1 { s1 with heap := h' } := I1.kept (t' := s1.toks) hk
    exact ⟨s1.heap.objs.size + 1, [s1.heap.objs.size + 1, s1.heap.objs.size], _, _, H1, rfl, I2, turn_enum a (s1.heap.objs.size + 1) s1.heap.objs.size, ⟨⟨.none, he⟩, hit, Nat.succ_ne_self _⟩, fun b hb => I1.fpOk (fps b hb) (I1.hok.fresh (fps b hb)), q⟩
end
end L2

set_option Elab.async false
set_option linter.all false
set_option maxRecDepth 100000
set_option maxHeartbeats 2000000
/-! The data layer: rules over tuples. -/
namespace DL
open PySem PySem.Spec PyProof.Rows L2
section
variable {X : Cx} {T : List (Addr × Str)} {W : WX} {a b c e : Expr} {es : List Expr} {tg : Expr} {pos p : Pos} {f g : Sm Ev} {fs : Sm (List Ev)} {k : Bool}
/-- a * b, tuples too -/
def opMulT (l : List D) (k : Int) (M : Mem) : R Ev := if (l = [] ∨ k = 1) ∧ -1000000 ≤ k ∧ k ≤ 1000000 then .ok (.d (.tup l)) M else if l ≠ [] ∧ 2 ≤ k ∧ k ≤ 1000 ∧ l.length ≤ 1000 then .ok (.d (.tup (List.replicate k.toNat l).flatten)) M else .stuck
instance (l : List D) : Decidable (l = []) := match l with
  | [] => isTrue rfl
  | _ :: _ => isFalse (fun h => nomatch h)
def opMulA (a b : Ev) (M : Mem) : R Ev := match a, b with
  | .d (.tup l), .d (.int k) => opMulT l k M
  | a, b => opMul a b M
theorem ok_mulA {C : Cf} : OpOk C opMulA (fun x y H Q => (rRep1 C.K x y H Q ∨ rRepT C.K x y H Q) ∨ (rI cMul (fun i j => .int (i * j)) x y H Q ∨ rRep x y H Q)) := by
  intro H0 A m M H ρ σ P x y v w Q F rx ry h
  unfold opMulA at h
  split at h
  · rename_i l k
    obtain ⟨a, vs, e, hs, r⟩ := rx
    unfold opMulT at h
    have hn : ∀ {l : List D} {vs : List V}, Rps C.K A m H l vs → (vs = [] ↔ l = []) := fun {l vs} r => by
      have := Rps.len r
      constructor <;> intro z <;> subst z <;> simp at this
      · exact List.eq_nil_of_length_eq_zero this.symm
      · exact this
    split at h
    · rename_i hc
      exact .inl (.inl ⟨a, k, vs, e, ry, SqT.of hs, hc.1.imp (hn r).mpr id, hc.2.1, hc.2.2, h.fin F (by rw [← e]; exact ⟨a, vs, e, hs, r⟩)⟩)
    · split at h
      · rename_i hc
        exact .inl (.inr ⟨a, k, vs, e, ry, SqT.of hs, fun z => hc.1 ((hn r).mp z), hc.2.1, hc.2.2.1, by rw [Rps.len r]; exact hc.2.2.2, fun p hp => h.made F hp (newT (C := C) hp (Rps.rep r _))⟩)
      · exact h.elim
  · exact .inr (ok_mul H0 A m M H ρ σ P _ _ v w Q F rx ry h)
theorem de_mulA (ha : PE X a (tE (cf X T W) f)) (hb : PE X b (tE (cf X T W) g)) : PE X (.BinOp a .Mult b pos) (tE (cf X T W) (eBin opMulA f g)) :=
  ⟨fun pins s σ H Q I q => (pe_op ((op_rep1.or op_repT).or op_mulA) ha hb).run pins s σ H Q I (tE_bin ok_mulA q)⟩
/-- x[::-1] -/
def revD : Ev → Option D
  | .d (.tup l) => some (.tup l.reverse)
  | x => (lstOf x).map fun l => .lst l.reverse
def eRev (f : Sm Ev) : Sm Ev := fun ρ M => bnd (f ρ M) fun x M1 => match revD x with
  | some d => .ok (.d d) M1
  | none => .stuck
theorem de_rev {k : Nat} {p1 p2 p3 : Pos} (he : PE X e (tE (cf X T W) f)) : PE X (.Subscript e (.Slice none none (some (.UnaryOp .USub (.Constant (.int 1) k p1) p2)) p3) pos) (tE (cf X T W) (eRev f)) := by
  refine ⟨fun pins s σ H Q I q => (pe_revA he).run pins s σ H Q I ?_⟩
  obtain ⟨H0, A, m, M, ρ, P, F, q⟩ := q
  refine sub F q fun x M1 H1 v F1 _ r1 q1 => ?_
  split at q1
  · rename_i d hd
    unfold revD at hd
    split at hd
    · rename_i l
      cases hd
      obtain ⟨a, vs, ev, hs, r⟩ := r1
      exact ⟨a, vs, ev, .inr ⟨SqT.of hs, fun p hp => q1.made F1 hp (newT (C := cf X T W) hp (Rps.rev r))⟩⟩
    · cases e : lstOf x with
      | none => rw [e] at hd; cases hd
      | some l =>
        rw [e] at hd; cases hd
        obtain ⟨a, vs, ev, hs, r⟩ := lstOf_at e r1
        exact ⟨a, vs, ev, .inl ⟨SqL.of hs, fun p hp => q1.made F1 hp (newL F1 hp (Rps.rev r))⟩⟩
  · exact q1.elim
/-- sorted, ints -/
theorem srt_uniq : ∀ {a b : List Int}, a.Pairwise (· ≤ ·) → b.Pairwise (· ≤ ·) → a.Perm b → a = b
  | [], b, _, _, h => by have := h.length_eq; simp at this; exact (List.eq_nil_of_length_eq_zero this.symm).symm
  | x :: a, [], _, _, h => by have := h.length_eq; simp at this
  | x :: a, y :: b, ha, hb, h => by
    have e : x = y := by
      rw [List.pairwise_cons] at ha hb
      have h1 : x ∈ y :: b := h.subset List.mem_cons_self
      have h2 : y ∈ x :: a := h.symm.subset List.mem_cons_self
      rcases List.mem_cons.mp h1 with z | z
      · exact z
      · rcases List.mem_cons.mp h2 with z2 | z2
        · exact z2.symm
        · have := ha.1 y z2; have := hb.1 x z; omega
    subst e
    rw [List.pairwise_cons] at ha hb
    rw [srt_uniq ha.2 hb.2 (List.Perm.cons_inv h)]
def srt (ns : List Int) : List Int := ns.mergeSort (fun a b => decide (a ≤ b))
theorem srt_is {ns ns' : List Int} (h1 : ns'.Perm ns) (h2 : ns'.Pairwise (· ≤ ·)) : ns' = srt ns := by
  have s1 : (srt ns).Pairwise (fun a b => decide (a ≤ b) = true) := List.pairwise_mergeSort (by intro a b c; simp; omega) (by intro a b; simp; omega) ns
  exact srt_uniq h2 (s1.imp fun {a b} h => by simpa using h) (h1.trans (List.mergeSort_perm ns _).symm)
def bSorted (xs : List Ev) (M : Mem) : R Ev := match xs with
  | [.d (.tup l)] => match toInts l with
    | some ns => .ok (.d (.lst ((srt ns).map D.int))) M
    | none => .stuck
  | [x] => match intsOf x with
    | some ns => .ok (.d (.lst ((srt ns).map D.int))) M
    | none => .stuck
  | _ => .stuck
theorem ints_back {K : PySem.W.Frag} {A m : List Addr} {H : Hp} {l : List D} {ns : List Int} {vs : List V} (h : toInts l = some ns) (r : Rps K A m H l vs) : vs = ns.map V.int := by
  rw [toInts_map h] at r
  exact Rps.ints r
theorem bi_sorted : BIs X T W (.builtin "sorted") bSorted := by
  refine ⟨_, cr_sortedT.or cr_sortedI, ?_⟩
  intro H0 A m M H ρ σ P xs vs Q F ra h
  unfold bSorted at h
  split at h
  · rename_i l
    obtain ⟨v, rfl, r⟩ := Paired.one ra
    split at h
    · rename_i ns hl
      obtain ⟨a, ws, e, hs, q⟩ := r
      have ew := ints_back hl q
      subst ew
      refine .inl ⟨a, ns, by rw [e], SqT.of hs, fun ns' p h1 h2 hp => ?_⟩
      rw [srt_is h1 h2]
      exact h.made F hp (newL (C := cf X T W) F hp (Rps.of_ints _))
    · exact h.elim
  · rename_i x _
    obtain ⟨v, rfl, r⟩ := Paired.one ra
    split at h
    · rename_i ns hl
      obtain ⟨a, e, hs⟩ := intsOf_at hl r
      refine .inr ⟨a, ns, by rw [e], SqL.of hs, fun ns' p h1 h2 hp => ?_⟩
      rw [srt_is h1 h2]
      exact h.made F hp (newL (C := cf X T W) F hp (Rps.of_ints _))
    · exact h.elim
  · exact h.elim
/-- {} as a thing -/
def eDk : Sm Ev := fun _ M => .ok (.d (.dK [] [])) M
theorem de_dk : PE X (.Dict [] [] pos) (tE (cf X T W) eDk) := by
  refine ⟨fun pins s σ H Q I q => pe_dnewK.run pins s σ H Q I ?_⟩
  obtain ⟨H0, A, m, M, ρ, P, F, q⟩ := q
  exact fun p hp => q.made F hp ⟨p, [], rfl, upd_same, rfl, F.new hp, rfl⟩
/-- enumerate, tuples too -/
def enumA (k : Bool) (xs : List Ev) : Option (List D) := match xs with
  | [.d (.tup l)] => some (pairL l)
  | [x] => (itemsOf k x).map pairL
  | _ => none
theorem wk_enumT {C : Cf} {m : List Addr} {Rch : List Addr → Hp → Prop} {a : Addr} {l : List D} {vs : List V} (hl : vs.length = l.length) (st : ∀ A' H2, Rch A' H2 → H2 a = some (.tup vs) ∧ Rps C.K A' m H2 l vs) : Wk C m Rch (pairL l) (IteT C.K a) := by
  refine ⟨fun A' H2 hr i d hd => ?_, fun A' H2 hr => ?_⟩
  · obtain ⟨x, hx, rfl⟩ := pairL_get hd
    obtain ⟨h2, q⟩ := st A' H2 hr
    obtain ⟨u, e1, e2⟩ := Rps.get q hx
    refine ⟨⟨vs, u, SqT.of h2, e1⟩, fun y H3 hy => ?_⟩
    obtain ⟨p, z, rfl, hp, rfl, hz⟩ := hy
    have e3 := hz vs (SqT.of h2)
    rw [e1] at e3; cases e3
    exact ⟨.inr ⟨p, _, hp, rfl⟩, pair_new hp rfl e2⟩
  · obtain ⟨h2, q⟩ := st A' H2 hr
    exact ⟨vs, SqT.of h2, by rw [pairL_len, hl]; exact Nat.le_refl _⟩
theorem di_enumA {elts : List Expr} {kk : Nat} {tpos : Pos} (hg : Gl X "enumerate") (hm : X.mg "enumerate" = none) (ha : PA X [e] (tA (cf X T W) fs)) (hs : starEach [e] X.env = [(false, eval e X.env)] := by rfl) : PI X (.Tuple elts kk tpos) (.Call (.Name "enumerate" p) [e] [] pos) (tI (cf X T W) k (iO (enumA k) fs)) := by
  refine ⟨fun pins s σ H G I q => (pi_enumA hg hm ha hs).run pins s σ H G I ?_⟩
  obtain ⟨H0, A, m, M, ρ, P, F, q⟩ := q
  refine di_O F q fun xs items M1 H1 vs F1 r1 e q1 => ?_
  unfold enumA at e
  split at e
  · rename_i l
    cases e
    obtain ⟨v, rfl, r⟩ := Paired.one r1
    obtain ⟨a, vs, ev, hl, len, st⟩ := tup_stays (k := k) F1 r
    exact ⟨a, vs, by rw [ev], .inl ⟨SqT.of hl, q1 _ (wk_enumT len st)⟩⟩
  · rename_i x hx
    obtain ⟨v, rfl, r⟩ := Paired.one r1
    cases e2 : itemsOf k x with
    | none => rw [e2] at e; cases e
    | some l =>
      rw [e2] at e
      cases e
      obtain ⟨a, vs, ev, hl, len, st⟩ := list_stays F1 (fun ⟨l, z⟩ => hx l (by rw [z])) e2 r
      exact ⟨a, vs, by rw [ev], .inr ⟨SqL.of hl, q1 _ (wk_enum len st)⟩⟩
  · cases e
end
end DL

set_option Elab.async false
set_option linter.all false
set_option maxRecDepth 100000
set_option maxHeartbeats 2000000
/-! The data layer: rows of new lists. -/
namespace DL
open PySem PySem.Spec PyProof.Rows L2
def lcR (g : Tgt) (vs : List Nat) (f : Sm (List D)) (ρ : Env) : List (List D) → List D → Mem → R (List (List D))
  | acc, [], M => .ok acc M
  | acc, d :: r, M => match tgE g (wipeE ρ vs) d with
    | some ρ1 => bnd (noX (f ρ1 M)) fun row M2 => lcR g vs f ρ (acc ++ [row]) r M2
    | none => .stuck
def nRows (it : Sm (List D)) (g : Tgt) (vs : List Nat) (f : Sm (List D)) : Sm Ev := fun ρ M => bnd (it ρ M) fun items M1 => if items.length ≤ most then bnd (lcR g vs f ρ [] items M1) (fun rows M2 => .ok (.rw .own rows) M2) else .stuck
theorem lcR_noX {g : Tgt} {vs : List Nat} {f : Sm (List D)} {ρ : Env} : ∀ (its : List D) (acc : List (List D)) (M : Mem), NoE (lcR g vs f ρ acc its M)
  | [], acc, M => trivial
  | d :: r, acc, M => by
    unfold lcR
    cases tgE g (wipeE ρ vs) d with
    | none => trivial
    | some ρ1 => exact NoE.bnd fun y M2 => lcR_noX r _ M2
theorem RowsR.app {K : PySem.W.Frag} {A m : List Addr} {H : Hp} : ∀ {rows rows' : List (List D)} {vs vs' : List V} {P P' : List Addr}, RowsR K A m H rows vs P → RowsR K A m H rows' vs' P' → RowsR K A m H (rows ++ rows') (vs ++ vs') (P ++ P')
  | [], _, _, _, _, _, ⟨e, eP⟩, h => by rw [e, eP]; exact h
  | row :: rows, _, vs, _, P, _, ⟨b, ws, r, P1, e, eP, hb, hr, ht⟩, h => ⟨b, ws, r ++ _, P1 ++ _, by rw [e]; rfl, by rw [eP]; rfl, hb, hr, RowsR.app ht h⟩
def GdR (Z : List (List D) → Mem → Prop) (r : R (List (List D))) : Prop := match r with
  | .ok l M => Z l M
  | _ => False
section
variable {X : Cx} {T : List (Addr × Str)} {W : WX}
theorem lcR_run {it : Sm (List D)} {tgt : Tgt} {vs : List Nat} {f : Sm (List D)} (hv : ∀ i ∈ tgt.slots, i ∈ vs) {σ : L2.St} {H : Hp} {Q : VK} (q : tN (cf X T W) (nRows it tgt vs f) σ H Q) : tLc (tI (cf X T W) true it) (tgG X.K tgt) (tT (cf X T W0) tYesE) (tF (cf X T W0) f) vs σ H Q := by
  obtain ⟨H0, A, m, M, ρ, P, F, q⟩ := q
  refine ⟨H0, A, m, M, ρ, P, F, ?_⟩
  unfold nRows at q
  cases e : it ρ M with
  | stuck => rw [e] at q; exact q.elim
  | exc c g M1 => rw [e] at q; exact q
  | ok items M1 =>
    rw [e, bnd_ok] at q
    intro J H1 s w tb Wl La nD
    have F1 := F.step s w tb
    have hLm : La ∉ m := fun z => by obtain ⟨o, e, _⟩ := F1.wr.aok La z; rw [nD] at e; cases e
    have lv01 : ∀ {p : Addr}, ¬ Lv H1 p → ¬ Lv H p := fun {p} h z => by
      by_cases hm : p ∈ m
      · obtain ⟨o, e, mu⟩ := F1.wr.aok p hm; exact h ⟨o, e, muta_tbl mu⟩
      · exact h (s.lv z hm)
    by_cases hc : items.length ≤ most
    · rw [if_pos hc] at q
      have q' : GdR (fun rows M' => PN (cf X T W) m H0 A H σ (.ok (.rw .own rows) M') Q) (lcR tgt vs f ρ [] items M1) := by
        cases e2 : lcR tgt vs f ρ [] items M1 with
        | stuck => rw [e2] at q; exact q
        | exc c g M2 => have z := lcR_noX (g := tgt) (vs := vs) (f := f) (ρ := ρ) items [] M1; rw [e2] at z; exact z.elim
        | ok l M2 => rw [e2] at q; exact q
      have G0 : FR (cf X T W0) H0 (La :: A) m M1 (upd H1 La (.lst [])) ρ σ P := (F1.more nD (o := .lst []) trivial).wish rfl rfl
      refine ⟨fun i k H2 => k + i = items.length ∧ ∃ Ai Pi M2 rows accV, RchC A m H1 Ai H2 ∧ FR (cf X T W0) H0 Ai m M2 H2 ρ σ P ∧ H2 La = some (.lst accV) ∧ RowsR X.K Ai m H2 rows accV Pi ∧ (La :: Pi).Nodup ∧ (∀ a ∈ La :: Pi, a ∈ Ai ∧ ¬ Lv H1 a) ∧ rows.length ≤ i ∧
        GdR (fun rows M' => PN (cf X T W) m H0 A H σ (.ok (.rw .own rows) M') Q) (lcR tgt vs f ρ rows (items.drop i) M2),
        ⟨items.length, by simp, La :: A, [], M1, [], [], ⟨fun a ha => (List.mem_cons.mp ha).elim (fun z => .inr (by rw [z]; exact not_lv_of nD)) .inl, fun a ha => List.mem_cons_of_mem _ ha, Stp.upd nD⟩, G0, upd_same, ⟨rfl, rfl⟩, by simp, fun a ha => by
          rw [List.mem_singleton.mp ha]; exact ⟨List.mem_cons_self, not_lv_of nD⟩, Nat.le_refl _, by simpa using q'⟩, fun i k H2 h => ?_⟩
      obtain ⟨hk, Ai, Pi, M2, rows, accV, hr, F2, hL, rR, nd, ow, la, q2⟩ := h
      cases k with
      | zero =>
        have hi : i = items.length := by omega
        subst hi
        rw [List.drop_length] at q2
        have q3 : PN (cf X T W) m H0 A H σ (.ok (.rw .own rows) M2) Q := q2
        refine .inl ⟨Wl.stop Ai H2 hr, q3 Ai (La :: Pi) H2 (.ref La) ⟨fun a ha => (hr.1 a ha).imp id lv01, hr.2.1, s.trans hr.2.2⟩ F2.wr F2.tb F2.aok ⟨La, accV, Pi, rfl, hL, rfl, rR⟩ nd fun p hp => ⟨(ow p hp).1, lv01 (ow p hp).2⟩⟩
      | succ k =>
        have hi : i < items.length := by omega
        have ed : items.drop i = items[i] :: items.drop (i + 1) := List.drop_eq_getElem_cons hi
        rw [ed] at q2
        obtain ⟨hgo, hy⟩ := Wl.go Ai H2 hr i items[i] (List.getElem?_eq_getElem hi)
        refine .inr ⟨hgo, fun H' => ∃ Ai Pi M2 rows accV, RchC A m H1 Ai H' ∧ FR (cf X T W0) H0 Ai m M2 H' ρ σ P ∧ H' La = some (.lst accV) ∧ RowsR X.K Ai m H' rows accV Pi ∧ (La :: Pi).Nodup ∧ (∀ a ∈ La :: Pi, a ∈ Ai ∧ ¬ Lv H1 a) ∧ rows.length ≤ i + 1 ∧
          GdR (fun rows M' => PN (cf X T W) m H0 A H σ (.ok (.rw .own rows) M') Q) (lcR tgt vs f ρ rows (items.drop (i + 1)) M2),
          fun H' h => ⟨k, Nat.lt_succ_self k, by omega, h⟩, fun v H3 hv3 => ?_⟩
        obtain ⟨h3, r3⟩ := hy v H3 hv3
        have F3 : FR (cf X T W0) H0 Ai m M2 H3 ρ σ P ∧ Stp m H2 H3 := by
          rcases h3 with rfl | ⟨p, o, hp, rfl⟩
          · exact ⟨F2, Stp.refl _ _⟩
          · exact ⟨F2.grow hp, Stp.upd hp⟩
        unfold lcR at q2
        split at q2
        · rename_i ρ1 h1
          refine tg_blk F3.1 hv r3 h1 fun σ' P' F4 hw => ⟨hw, ?_⟩
          refine ⟨H0, Ai, m, M2, ρ1, P', F4, ?_⟩
          intro H5 b s5 w5 t5 r5
          cases (show true = b from r5)
          rw [if_pos rfl]
          have F5 := F4.step s5 w5 t5
          refine ⟨H0, Ai, m, M2, ρ1, P', F5, ?_⟩
          cases e2 : f ρ1 M2 with
          | stuck => rw [e2] at q2; exact q2.elim
          | exc c g M6 => rw [e2] at q2; exact q2.elim
          | ok row M6 =>
            rw [e2] at q2
            intro H6 p ws s6 w6 t6 n6 hp6 r6
            have s26 : Stp m H2 H6 := (F3.2.trans s5).trans s6
            have hLm6 : H6 La = some (.lst accV) := s26 La _ hL hLm lst_tbl
            have n2 : ¬ Lv H2 p := fun z => n6 (by
              by_cases hm : p ∈ m
              · obtain ⟨o, e, mu⟩ := F5.wr.aok p hm; exact ⟨o, e, muta_tbl mu⟩
              · exact (F3.2.trans s5).lv z hm)
            have n1 : ¬ Lv H1 p := fun z => n2 (by
              by_cases hm : p ∈ m
              · obtain ⟨o, e, mu⟩ := F2.wr.aok p hm; exact ⟨o, e, muta_tbl mu⟩
              · exact hr.2.2.lv z hm)
            obtain ⟨nA, nm, nP, n0⟩ := F2.not_live n2
            have rch : RchC Ai m H2 (p :: Ai) H6 := ⟨fun a ha => (List.mem_cons.mp ha).elim (fun z => .inr (by rw [z]; exact n2)) .inl, fun a ha => List.mem_cons_of_mem _ ha, s26⟩
            have k6 : AOk (p :: Ai) H6 := fun a ha => by
              rcases List.mem_cons.mp ha with z | z
              · exact ⟨.lst ws, by rw [z]; exact hp6, trivial⟩
              · exact (F2.step s26 w6 t6).aok a z
            have F6 : FR (cf X T W0) H0 (p :: Ai) m M6 H6 ρ σ P := F2.gro rch w6 t6 k6
            have hLA : La ∈ Ai := (ow La List.mem_cons_self).1
            have hLP : La ∉ P := fun z => (not_in_A F1.aok (not_lv_of nD)) (by
              have hz := (F1.own La z).1
              exact hz)
            have h0 : ¬ Lv H0 La := F1.h0 nD
            have F7 := F6.write (a := La) (o' := .lst (accV ++ [.ref p])) (List.mem_cons_of_mem _ hLA) hLm hLP h0 hLm6 trivial trivial
            have neL : p ≠ La := fun z => nA (by rw [z]; exact hLA)
            have rr6 : RowsR X.K (p :: Ai) m H6 rows accV Pi := RowsR.step F2.wr.aok (fun a ha => List.mem_cons_of_mem _ (F2.ma a ha)) s26 (fun a ha => by
              have := (ow a (List.mem_cons_of_mem _ ha)).2
              exact fun z => by
                obtain ⟨o, e, mu⟩ := F1.wr.aok a z
                exact this ⟨o, e, muta_tbl mu⟩) (RowsR.avoid rch.1 rR)
            have rr7 : RowsR X.K (p :: Ai) m (upd H6 La (.lst (accV ++ [.ref p]))) (rows ++ [row]) (accV ++ [.ref p]) (Pi ++ [p]) := by
              refine RowsR.step (B := [La]) (aok_one hLm6 trivial) (fun x hx => by rw [List.mem_singleton.mp hx]; exact List.mem_cons_of_mem _ hLA) stp_upd (fun a ha z => ?_) (RowsR.app rr6 ⟨p, ws, [], [], rfl, rfl, hp6, r6, rfl, rfl⟩)
              have ez := List.mem_singleton.mp z
              rcases List.mem_append.mp ha with y | y
              · exact (List.nodup_cons.mp nd).1 (by rw [← ez]; exact y)
              · exact neL (by rw [← List.mem_singleton.mp y]; exact ez)
            have lenV : accV.length = rows.length := RowsR.len rR
            refine ⟨accV, hLm6, by have := most_line hc; omega, p :: Ai, Pi ++ [p], M6, rows ++ [row], accV ++ [.ref p], ⟨fun a ha => ?_, fun a ha => List.mem_cons_of_mem _ (hr.2.1 a ha), fun a o ea na ta => ?_⟩, F7, upd_same, rr7, ?_, fun a ha => ?_, by simp; omega, q2⟩
            · rcases List.mem_cons.mp ha with z | z
              · exact .inr (by rw [z]; exact n1)
              · exact hr.1 a z
            · have hne : a ≠ La := fun z => by rw [z, nD] at ea; cases ea
              rw [upd_ne hne]
              exact s26 a o (hr.2.2 a o ea na ta) na ta
            · rw [← List.cons_append, List.nodup_append]
              exact ⟨nd, by simp, fun a ha b hb z => nA (by rw [List.mem_singleton.mp hb] at z; rw [← z]; exact (ow a ha).1)⟩
            · rw [← List.cons_append] at ha
              rcases List.mem_append.mp ha with z | z
              · exact ⟨List.mem_cons_of_mem _ (ow a z).1, (ow a z).2⟩
              · rw [List.mem_singleton.mp z]; exact ⟨List.mem_cons_self, n1⟩
        · exact q2.elim
    · rw [if_neg hc] at q; exact q.elim
theorem ds_rows {i : Nat} {y : Str} {py pos : Pos} {elt tg iter : Expr} {scope : Scope} {own : List (Str × Nat)} {spos : Pos} {it : Sm (List D)} {tgt : Tgt} {f : Sm (List D)} (hc : X.calm = true) (hN : X.N.Nodup) (hi : PI X tg iter (tI (cf X T W) true it)) (ok : BlkOk X.N X.env.scope scope own)
    (hg : ∀ (s : Shared) (H : Hp) (C : Addr) (cl : List (Str × Addr)) (fp : List Addr), PG (X.blk s H scope (compEnvC scope cl C X.env) fp) tg (tgG X.K tgt)) (he : ∀ (s : Shared) (H : Hp) (C : Addr) (cl : List (Str × Addr)) (fp : List Addr), PE (X.blk s H scope (compEnvC scope cl C X.env) fp) elt (tF (cf X T W0) f))
    (hsw : swapsWith (.ListComp elt [⟨tg, iter, [], 0⟩] scope pos) (some (.Name y py)) spos.line X.env = pure true) (hy : X.N[i]? = some y := by rfl) (hyl : X.env.scope.names.lookup y = some .local := by rfl) (hv : ∀ i ∈ tgt.slots, i ∈ own.map (·.2) := by decide) (hs : ∀ x, foldedSetIterable iter X.env x = pure x := by intro _; rfl) :
    PS X (.Assign [.Name y py] (.ListComp elt [⟨tg, iter, [], 0⟩] scope pos) spos) (tS (cf X T W) (sSetN i (nRows it tgt (own.map (·.2)) f))) :=
  ⟨fun pins s σ H Dn I q => (ps_setLc hc hN hy hyl hsw hi ok hg (fun s H C cl fp => dts_nil (X := X.blk s H scope (compEnvC scope cl C X.env) fp)) he hs).run pins s σ H Dn I (lcR_run hv (setN_run q))⟩
end
end DL

set_option Elab.async false
set_option linter.all false
set_option maxRecDepth 100000
set_option maxHeartbeats 2000000
/-! The data layer: the built-ins' names. -/
namespace DL
open PySem PySem.Spec PyProof.Rows L2
theorem bo_len : bootBuiltins ("len" : Str) = some (.builtin "len") := by kernel_rfl
theorem bo_abs : bootBuiltins ("abs" : Str) = some (.builtin "abs") := by kernel_rfl
theorem bo_max : bootBuiltins ("max" : Str) = some (.builtin "max") := by kernel_rfl
theorem bo_min : bootBuiltins ("min" : Str) = some (.builtin "min") := by kernel_rfl
theorem bo_sum : bootBuiltins ("sum" : Str) = some (.builtin "sum") := by kernel_rfl
theorem bo_all : bootBuiltins ("all" : Str) = some (.builtin "all") := by kernel_rfl
theorem bo_any : bootBuiltins ("any" : Str) = some (.builtin "any") := by kernel_rfl
theorem bo_isinstance : bootBuiltins ("isinstance" : Str) = some (.builtin "isinstance") := by kernel_rfl
theorem bo_sorted : bootBuiltins ("sorted" : Str) = some (.builtin "sorted") := by kernel_rfl
theorem bo_int : bootBuiltins ("int" : Str) = some (.type "int") := by kernel_rfl
theorem bo_bool : bootBuiltins ("bool" : Str) = some (.type "bool") := by kernel_rfl
theorem bo_str : bootBuiltins ("str" : Str) = some (.type "str") := by kernel_rfl
theorem bo_tuple : bootBuiltins ("tuple" : Str) = some (.type "tuple") := by kernel_rfl
theorem bo_list : bootBuiltins ("list" : Str) = some (.type "list") := by kernel_rfl
theorem bo_dict : bootBuiltins ("dict" : Str) = some (.type "dict") := by kernel_rfl
theorem bo_set : bootBuiltins ("set" : Str) = some (.type "set") := by kernel_rfl
theorem bo_float : bootBuiltins ("float" : Str) = some (.type "float") := by kernel_rfl
end DL

set_option Elab.async false
set_option linter.all false
set_option maxRecDepth 100000
set_option maxHeartbeats 2000000
/-! The data layer's readings, plainly: loops, comprehensions. -/
namespace DL
open PySem PySem.Spec PyProof.Rows L2
theorem forL_inv {g : Tgt} {f : Ss} (Inv : Nat → Env → Mem → Prop) : ∀ (items : List D) (k : Nat) (ρ : Env) (M : Mem),
    (∀ i d ρ M, items[i]? = some d → Inv (k + i) ρ M → ∃ ρ1 ρ' M', tgE g ρ d = some ρ1 ∧ f ρ1 M = .nx ρ' M' ∧ Inv (k + i + 1) ρ' M') → Inv k ρ M → ∃ ρ' M', forL g f items ρ M = .nx ρ' M' ∧ Inv (k + items.length) ρ' M'
  | [], k, ρ, M, _, h => ⟨ρ, M, rfl, h⟩
  | d :: r, k, ρ, M, hs, h => by
    obtain ⟨ρ1, ρ', M', e1, e2, h'⟩ := hs 0 d ρ M rfl h
    obtain ⟨ρ2, M2, e3, h2⟩ := forL_inv Inv r (k + 1) ρ' M' (fun i d ρ M hd hi => by
      have := hs (i + 1) d ρ M (by simpa using hd) (by rw [show k + (i + 1) = k + 1 + i by omega]; exact hi)
      rw [show k + (i + 1) + 1 = k + 1 + i + 1 by omega] at this
      exact this) h'
    refine ⟨ρ2, M2, ?_, by rw [List.length_cons, show k + (r.length + 1) = k + 1 + r.length by omega]; exact h2⟩
    simp only [forL, e1, e2, e3]
theorem sWhile_inv {tc : Sm Bool} {f : Ss} (Inv : Nat → Env → Mem → Prop) (Post : Env → Mem → Prop)
    (hs : ∀ m ρ M, Inv m ρ M → (∃ M1, tc ρ M = .ok false M1 ∧ Post ρ M1) ∨ ∃ M1 ρ' M' m', tc ρ M = .ok true M1 ∧ f ρ M1 = .nx ρ' M' ∧ m' < m ∧ Inv m' ρ' M') :
    ∀ (n m : Nat) (ρ : Env) (M : Mem), m < n → Inv m ρ M → ∃ ρ' M', sWhile tc f n ρ M = .nx ρ' M' ∧ Post ρ' M'
  | 0, m, ρ, M, hn, _ => by omega
  | n + 1, m, ρ, M, hn, h => by
    rcases hs m ρ M h with ⟨M1, e1, hp⟩ | ⟨M1, ρ', M', m', e1, e2, hm, h'⟩
    · refine ⟨ρ, M1, ?_, hp⟩
      simp [sWhile, e1, sE]
    · obtain ⟨ρ2, M2, e3, hp⟩ := sWhile_inv Inv Post hs n m' ρ' M' (by omega) h'
      refine ⟨ρ2, M2, ?_, hp⟩
      simp only [sWhile, e1, e2, e3, sE, if_true]
theorem lcL_inv {g : Tgt} {vs : List Nat} {t : Sm Bool} {f : Sm Ev} {ρ : Env} (Inv : Nat → List D → Mem → Prop) : ∀ (items : List D) (k : Nat) (acc : List D) (M : Mem),
    (∀ i d acc M, items[i]? = some d → Inv (k + i) acc M → ∃ ρ1 b M1, tgE g (wipeE ρ vs) d = some ρ1 ∧ t ρ1 M = .ok b M1 ∧ ((b = true ∧ ∃ y M2, f ρ1 M1 = .ok (.d y) M2 ∧ Inv (k + i + 1) (acc ++ [y]) M2) ∨ (b = false ∧ Inv (k + i + 1) acc M1))) →
    Inv k acc M → ∃ l M', lcL g vs t f ρ acc items M = .ok l M' ∧ Inv (k + items.length) l M'
  | [], k, acc, M, _, h => ⟨acc, M, rfl, h⟩
  | d :: r, k, acc, M, hs, h => by
    have step : ∀ i d acc M, r[i]? = some d → Inv (k + 1 + i) acc M → ∃ ρ1 b M1, tgE g (wipeE ρ vs) d = some ρ1 ∧ t ρ1 M = .ok b M1 ∧ ((b = true ∧ ∃ y M2, f ρ1 M1 = .ok (.d y) M2 ∧ Inv (k + 1 + i + 1) (acc ++ [y]) M2) ∨ (b = false ∧ Inv (k + 1 + i + 1) acc M1)) := fun i d acc M hd hi => by
      have := hs (i + 1) d acc M (by simpa using hd) (by rw [show k + (i + 1) = k + 1 + i by omega]; exact hi)
      rw [show k + (i + 1) + 1 = k + 1 + i + 1 by omega] at this
      exact this
    obtain ⟨ρ1, b, M1, e1, e2, h2⟩ := hs 0 d acc M rfl h
    rcases h2 with ⟨rfl, y, M2, e3, h'⟩ | ⟨rfl, h'⟩
    · obtain ⟨l, M', e4, h4⟩ := lcL_inv Inv r (k + 1) (acc ++ [y]) M2 step h'
      refine ⟨l, M', ?_, by rw [List.length_cons, show k + (r.length + 1) = k + 1 + r.length by omega]; exact h4⟩
      simp only [lcL, e1, e2, e3, e4, noX, bnd, if_true]
    · obtain ⟨l, M', e4, h4⟩ := lcL_inv Inv r (k + 1) acc M1 step h'
      refine ⟨l, M', ?_, by rw [List.length_cons, show k + (r.length + 1) = k + 1 + r.length by omega]; exact h4⟩
      simp only [lcL, e1, e2, e4, noX, bnd, Bool.false_eq_true, if_false]
/-- each item told by a function, nothing else changes -/
theorem lcL_map {g : Tgt} {vs : List Nat} {f : Sm Ev} {ρ : Env} {M : Mem} (y : D → D) (items : List D) (hs : ∀ d ∈ items, ∃ ρ1, tgE g (wipeE ρ vs) d = some ρ1 ∧ f ρ1 M = .ok (.d (y d)) M) : lcL g vs tYesE f ρ [] items M = .ok (items.map y) M := by
  obtain ⟨l, M', e, h1, h2⟩ := lcL_inv (g := g) (vs := vs) (t := tYesE) (f := f) (ρ := ρ) (fun i acc M' => acc = (items.take i).map y ∧ M' = M) items 0 [] M (fun i d acc M1 hd hi => by
    obtain ⟨e1, e2⟩ := hi
    subst e2
    obtain ⟨ρ1, h1, h2⟩ := hs d (List.mem_of_getElem? hd)
    refine ⟨ρ1, true, M1, h1, rfl, .inl ⟨rfl, y d, M1, h2, ?_, rfl⟩⟩
    rw [e1, Nat.zero_add, List.take_add_one, hd, List.map_append]
    rfl) ⟨rfl, rfl⟩
  rw [e, h1, h2, Nat.zero_add, List.take_length]
theorem lcR_map {g : Tgt} {vs : List Nat} {f : Sm (List D)} {ρ : Env} {M : Mem} (row : List D) : ∀ (items : List D) (acc : List (List D)), (∀ d ∈ items, ∃ ρ1, tgE g (wipeE ρ vs) d = some ρ1 ∧ f ρ1 M = .ok row M) → lcR g vs f ρ acc items M = .ok (acc ++ List.replicate items.length row) M
  | [], acc, _ => by simp [lcR]
  | d :: r, acc, hs => by
    obtain ⟨ρ1, e1, e2⟩ := hs d List.mem_cons_self
    simp only [lcR, e1, e2, noX, bnd]
    rw [lcR_map row r _ fun d hd => hs d (List.mem_cons_of_mem _ hd), List.append_assoc, List.length_cons, List.replicate_succ]
    rfl
theorem rangeL_len (lo : Int) (n : Nat) (c : Int) : (rangeL lo n c).length = n := by unfold rangeL; simp
theorem rangeL_get {lo : Int} {n : Nat} {c : Int} {i : Nat} {d : D} (h : (rangeL lo n c)[i]? = some d) : i < n ∧ d = .int (lo + (i : Int) * c) := by
  unfold rangeL at h
  rw [List.getElem?_map] at h
  by_cases hi : i < n
  · rw [List.getElem?_range hi] at h
    exact ⟨hi, (Option.some.inj h).symm⟩
  · rw [List.getElem?_eq_none (by simpa using hi)] at h; cases h
theorem atI_get' {α : Type} (l : List α) (i : Nat) : atI l (i : Int) = l[i]? := by
  unfold atI ixN
  by_cases h : i < l.length
  · rw [if_pos (by omega), if_pos (by omega)]; simp
  · rw [if_pos (by omega), if_neg (by omega)]
    simp at h
    simp [h]
theorem ixN_nat {n i : Nat} (h : i < n) : ixN n (i : Int) = some i := by
  unfold ixN
  rw [if_pos (by omega), if_pos (by omega)]; simp
/-- slot i holds x -/
def At (ρ : Env) (i : Nat) (x : Ev) : Prop := ρ[i]? = some (some x)
theorem At.ne {ρ : Env} {i j : Nat} {x : Ev} {y : Option Ev} (h : At ρ i x) (hj : j ≠ i) : At (ρ.set j y) i x := by
  unfold At; rw [List.getElem?_set_ne hj]; exact h
theorem At.eq {ρ : Env} {i : Nat} {x : Ev} (h : i < ρ.length) : At (ρ.set i (some x)) i x := by
  unfold At; rw [List.getElem?_set_self h]
theorem At.lt {ρ : Env} {i : Nat} {x : Ev} (h : At ρ i x) : i < ρ.length := (List.getElem?_eq_some_iff.mp h).1
theorem At.v {ρ : Env} {i : Nat} {x : Ev} {M : Mem} (h : At ρ i x) : eVar i ρ M = .ok (look x) M := by
  unfold At at h; simp only [eVar, h]
section
variable {ρ ρ' : Env} {M M' M'' : Mem} {f g : Ss} {t u : Sm Bool} {e e' : Sm Ev} {d : D} {x y : Ev} {c : Str} {fld : Option (Str × D)} {i : Nat} {es : Sm (List Ev)} {xs : List Ev}
theorem q_nx (h : f ρ M = .nx ρ' M') : sSeq f g ρ M = g ρ' M' := by simp only [sSeq, h]
theorem q_rt (h : f ρ M = .rt d M') : sSeq f g ρ M = .rt d M' := by simp only [sSeq, h]
theorem q_exc (h : f ρ M = .exc c fld ρ' M') : sSeq f g ρ M = .exc c fld ρ' M' := by simp only [sSeq, h]
theorem q_if1 (h : t ρ M = .ok true M') : sIf t f g ρ M = f ρ M' := by simp only [sIf, sE, h, if_true]
theorem q_if0 (h : t ρ M = .ok false M') : sIf t f g ρ M = g ρ M' := by simp only [sIf, sE, h, Bool.false_eq_true, if_false]
theorem q_skip (h : t ρ M = .ok false M') : sIf t f sNext ρ M = .nx ρ M' := by rw [q_if0 h]; rfl
theorem q_ret (h : e ρ M = .ok x M') (hx : retD x = some d) : sRet e ρ M = .rt d M' := by simp only [sRet, sE, h, hx]
theorem q_or1 (h : t ρ M = .ok true M') : bOr t u ρ M = .ok true M' := by simp only [bOr, bnd, h, if_true]
theorem q_or0 (h : t ρ M = .ok false M') : bOr t u ρ M = u ρ M' := by simp only [bOr, bnd, h, Bool.false_eq_true, if_false]
theorem q_and1 (h : t ρ M = .ok true M') : bAnd t u ρ M = u ρ M' := by simp only [bAnd, bnd, h, if_true]
theorem q_and0 (h : t ρ M = .ok false M') : bAnd t u ρ M = .ok false M' := by simp only [bAnd, bnd, h, Bool.false_eq_true, if_false]
theorem q_not {b : Bool} (h : t ρ M = .ok b M') : bNot t ρ M = .ok (!b) M' := by simp only [bNot, bnd, h]
theorem q_eand1 (h : e ρ M = .ok x M') (hx : truth x = some true) : eAnd e e' ρ M = e' ρ M' := by simp only [eAnd, bnd, h, hx]
theorem q_eand0 (h : e ρ M = .ok x M') (hx : truth x = some false) : eAnd e e' ρ M = .ok x M' := by simp only [eAnd, bnd, h, hx]
theorem q_set (h : e ρ M = .ok x M') (hx : stor x = some y) (hi : i < ρ.length) : sAsg i e ρ M = .nx (ρ.set i (some y)) M' := by simp only [sAsg, sE, h, hx, if_pos hi]
theorem q_setN (h : e ρ M = .ok x M') (hi : i < ρ.length) : sSetN i e ρ M = .nx (ρ.set i (some x)) M' := by simp only [sSetN, sE, h, if_pos hi]
theorem q_bin {o : Ev → Ev → Mem → R Ev} (h : e ρ M = .ok x M') (h' : e' ρ M' = .ok y M'') : eBin o e e' ρ M = o x y M'' := by simp only [eBin, bnd, h, h']
theorem q_cmp {o : Ev → Ev → Mem → R Ev} {b : Bool} (h : eBin o e e' ρ M = .ok (bv b) M') : tCmpE o e e' ρ M = .ok b M' := by simp only [tCmpE, asB, h, bnd]
theorem q_cons (h : e ρ M = .ok x M') (h' : es ρ M' = .ok xs M'') : aCons e es ρ M = .ok (x :: xs) M'' := by simp only [aCons, bnd, h, h']
theorem q_cons1 (h : e ρ M = .ok x M') : aCons e aNil ρ M = .ok [x] M' := by simp only [aCons, bnd, h, aNil]
theorem q_cons2 (h : e ρ M = .ok x M') (h' : e' ρ M' = .ok y M'') : aCons e (aCons e' aNil) ρ M = .ok [x, y] M'' := by simp only [aCons, bnd, h, h', aNil]
theorem q_B {o : List Ev → Mem → R Ev} (h : es ρ M = .ok xs M') : eB o es ρ M = o xs M' := by simp only [eB, bnd, h]
theorem q_call {F : Fn} {n : Nat} {ys : List Ev} (h : es ρ M = .ok xs M') (hp : passL xs = some ys) (hn : ys.length = n) (hF : F ys M' = .ok d M'') : eCall n F es ρ M = .ok (.d d) M'' := by simp only [eCall, bnd, h, hp, if_pos hn, hF]
theorem q_var (h : ρ[i]? = some (some x)) : eVar i ρ M = .ok (look x) M := by simp only [eVar, h]
end
theorem at_0 {α : Type} (a : α) (l : List α) : atI (a :: l) (0 : Int) = some a := by simp [atI, ixN]
theorem at_1 {α : Type} (a b : α) (l : List α) : atI (a :: b :: l) (1 : Int) = some b := by
  have := atI_get' (a :: b :: l) 1; simpa using this
theorem at_2 {α : Type} (a b c : α) (l : List α) : atI (a :: b :: c :: l) (2 : Int) = some c := by
  have := atI_get' (a :: b :: c :: l) 2; simpa using this
theorem at_3 {α : Type} (a b c d : α) (l : List α) : atI (a :: b :: c :: d :: l) (3 : Int) = some d := by
  have := atI_get' (a :: b :: c :: d :: l) 3; simpa using this
theorem at_4 {α : Type} (a b c d e : α) (l : List α) : atI (a :: b :: c :: d :: e :: l) (4 : Int) = some e := by
  have := atI_get' (a :: b :: c :: d :: e :: l) 4; simpa using this
theorem q_for {it : Sm (List D)} {g : Tgt} {f : Ss} {ρ : Env} {M M' : Mem} {items : List D} {r : SR} (h : it ρ M = .ok items M') (hf : forL g f items ρ M' = r) : sFor it g f ρ M = r := by simp only [sFor, sE, h, hf]
theorem tg1 {i : Nat} {ρ : Env} {d : D} (h : i < ρ.length) : tgE (.one i) ρ d = some (ρ.set i (some (.d d))) := by simp only [tgE, if_pos h]
theorem q_rng1 {f : Sm Ev} {ρ : Env} {M M' : Mem} {n : Nat} (hn : n ≤ 1000000) (e : f ρ M = .ok (.d (.int (n : Int))) M') : iO rng1 (aCons f aNil) ρ M = .ok (rangeL 0 n 1) M' := by
  have k : rngOk (n : Int) := by unfold rngOk; omega
  have e1 := q_cons1 e
  simp only [iO, e1, bnd, rng1, if_pos k, optR, Int.toNat_natCast]
theorem q_rng2 {f g : Sm Ev} {ρ : Env} {M M' M'' : Mem} {a n : Nat} (ha : a ≤ n) (hn : n ≤ 1000000) (e : f ρ M = .ok (.d (.int (a : Int))) M') (e' : g ρ M' = .ok (.d (.int (n : Int))) M'') : iO rng2 (aCons f (aCons g aNil)) ρ M = .ok (rangeL (a : Int) (n - a) 1) M'' := by
  have k : rngOk (a : Int) ∧ rngOk (n : Int) := by unfold rngOk; omega
  have e1 := q_cons2 e e'
  have e2 : ((n : Int) - (a : Int)).toNat = n - a := by omega
  simp only [iO, e1, bnd, rng2, if_pos k, optR, e2]
/-! ### the hand of the laws -/
structure Hd (cells : List Int) (B : Nat) (M : Mem) : Prop where
  ex : ∃ p v s c : Int, M = [.lst [.ob 1, .int p, .int v, .int s, .int c], .lst (cells.map D.int)] ∧ 0 ≤ p ∧ 0 ≤ v ∧ 0 ≤ s ∧ s < 2147483648 ∧ 0 ≤ c ∧ c ≤ B
end DL

set_option Elab.async false
set_option linter.all false
set_option maxRecDepth 100000
set_option maxHeartbeats 4000000
/-! The data layer: the laws' own draws. -/
namespace DL
open PySem PySem.Spec PyProof.Rows L2
def fnEnd : SR → R D
  | .nx _ M' => .ok .non M'
  | .rt d M' => .ok d M'
  | .exc c g _ M' => .exc c g M'
  | _ => .stuck
theorem fnOf_eq (n : Nat) (f : Ss) (xs : List Ev) (M : Mem) : fnOf n f xs M = fnEnd (f (xs.map some ++ List.replicate (n - xs.length) none) M) := by
  unfold fnOf fnEnd
  cases f (xs.map some ++ List.replicate (n - xs.length) none) M <;> rfl
def S_drA : Ss := (sIf (bAnd (tCmpE (opEq false) (eBin opIx (eVar 0) (eC (.int 2))) (eC (.int 0))) (tCmpE opLt (eBin opIx (eVar 0) (eC (.int 1))) (eB bLen (aCons (eBin opIx (eVar 0) (eC (.int 0))) aNil)))) (sSeq (sAsg 2 (eBin opIx (eBin opIx (eVar 0) (eC (.int 0))) (eBin opIx (eVar 0) (eC (.int 1))))) (sSeq (sPut 0 (eC (.int 1)) (eBin opAdd (eBin opIx (eVar 0) (eC (.int 1))) (eC (.int 1)))) (sSeq (sPut 0 (eC (.int 3)) (eBin opMod (eB bInt (aCons (eBin opAdd (eBin opAdd (eBin opMulA (eBin opIx (eVar 0) (eC (.int 3))) (eC (.int 69621))) (eBin opMulA (eVar 2) (eC (.int 40692)))) (eC (.int 23))) aNil)) (eC (.int 2147483629)))) (sIf (tCmpE opGe (eVar 2) (eBin opPow (eC (.int 10)) (eC (.int 18)))) (sPut 0 (eC (.int 2)) (eVar 2)) sNext)))) sNext)
def S_drB : Ss := (sIf (tCmpE opGt (eBin opIx (eVar 0) (eC (.int 2))) (eC (.int 0))) (sSeq (sAsg 3 (eBin opMod (eB bInt (aCons (eBin opIx (eVar 0) (eC (.int 2))) aNil)) (eVar 1))) (sSeq (sPut 0 (eC (.int 2)) (eBin opDiv (eBin opIx (eVar 0) (eC (.int 2))) (eVar 1))) (sRet (eVar 3)))) sNext)
def S_drC : Ss := (sSeq (sPut 0 (eC (.int 4)) (eBin opAdd (eBin opIx (eVar 0) (eC (.int 4))) (eC (.int 1)))) (sSeq (sAsg 4 (eBin opMod (eB bInt (aCons (eBin opMulA (eB bInt (aCons (eBin opAdd (eBin opIx (eVar 0) (eC (.int 3))) (eBin opMulA (eC (.int 7919)) (eBin opIx (eVar 0) (eC (.int 4))))) aNil)) (eC (.int 48271))) aNil)) (eC (.int 2147483647)))) (sSeq (sAsg 4 (eBin opMod (eB bInt (aCons (eBin opMulA (eVar 4) (eBin opAdd (eBin opDiv (eVar 4) (eC (.int 1009))) (eC (.int 69621)))) aNil)) (eC (.int 2147483647)))) (sSeq (sAsg 4 (eBin opMod (eB bInt (aCons (eBin opMulA (eVar 4) (eBin opAdd (eBin opDiv (eVar 4) (eC (.int 2003))) (eC (.int 40014)))) aNil)) (eC (.int 2147483563)))) (sRet (eBin opMod (eB bInt (aCons (eBin opDiv (eVar 4) (eC (.int 16))) aNil)) (eVar 1)))))))
def S_draw : Ss := sSeq S_drA (sSeq S_drB S_drC)
def F_draw : Fn := fnOf 5 S_draw
theorem cm64 {i j : Int} (h1 : -(2 ^ 64) < i) (h2 : i < 2 ^ 64) (h3 : -(2 ^ 64) < j) (h4 : j < 2 ^ 64) : cMul i j := by
  have a := intBits_le_64 h1 h2
  have b := intBits_le_64 h3 h4
  unfold cMul; omega
theorem cmW {i j : Int} (h1 : Builtin.Int.intBits i ≤ 1048576) (h3 : -(2 ^ 64) < j) (h4 : j < 2 ^ 64) : cMul i j := by
  have b := intBits_le_64 h3 h4
  unfold cMul; omega
theorem drC {cells : List Int} {B : Nat} {many : Int} (hB : B ≤ 1000000) (hm : 0 < many) (hm2 : many.natAbs.log2 < 9000) (x2 : Option Ev) (p v s c : Int) (hp : 0 ≤ p) (hv : 0 ≤ v) (hs1 : 0 ≤ s) (hs2 : s < 2147483648) (hc1 : 0 ≤ c) (hc2 : c ≤ B) :
    ∃ r M', fnEnd (S_drC [some (.d (.ob 0)), some (.d (.int many)), x2, none, none] [.lst [.ob 1, .int p, .int v, .int s, .int c], .lst (cells.map D.int)]) = .ok (.int r) M' ∧ 0 ≤ r ∧ r < many ∧ Hd cells (B + 1) M' := by
  have e1 : cMul 7919 (c + 1) := cm64 (by omega) (by omega) (by omega) (by omega)
  have e2 : cMul (s + 7919 * (c + 1)) 48271 := cm64 (by omega) (by omega) (by omega) (by omega)
  generalize hn : (s + 7919 * (c + 1)) * 48271 % 2147483647 = n1
  have b1 : 0 ≤ n1 ∧ n1 < 2147483647 := by rw [← hn]; exact ⟨Int.emod_nonneg _ (by omega), Int.emod_lt_of_pos _ (by omega)⟩
  have q1 : 0 ≤ n1 / 1009 ∧ n1 / 1009 ≤ n1 := ⟨Int.ediv_nonneg b1.1 (by omega), Int.ediv_le_self _ b1.1⟩
  have e3 : cMul n1 (n1 / 1009 + 69621) := cm64 (by omega) (by omega) (by omega) (by omega)
  generalize hn2 : n1 * (n1 / 1009 + 69621) % 2147483647 = n2
  have b2 : 0 ≤ n2 ∧ n2 < 2147483647 := by rw [← hn2]; exact ⟨Int.emod_nonneg _ (by omega), Int.emod_lt_of_pos _ (by omega)⟩
  have q2 : 0 ≤ n2 / 2003 ∧ n2 / 2003 ≤ n2 := ⟨Int.ediv_nonneg b2.1 (by omega), Int.ediv_le_self _ b2.1⟩
  have e4 : cMul n2 (n2 / 2003 + 40014) := cm64 (by omega) (by omega) (by omega) (by omega)
  have d1 : cDiv n1 1009 := ⟨by omega, by decide⟩
  have d2 : cDiv n2 2003 := ⟨by omega, by decide⟩
  have d3 : cDiv (n2 * (n2 / 2003 + 40014) % 2147483563) 16 := ⟨by omega, by decide⟩
  refine ⟨n2 * (n2 / 2003 + 40014) % 2147483563 / 16 % many, [.lst [.ob 1, .int p, .int v, .int s, .int (c + 1)], .lst (cells.map D.int)], ?_, Int.emod_nonneg _ (by omega), Int.emod_lt_of_pos _ hm, ⟨p, v, s, c + 1, rfl, hp, hv, hs1, hs2, by omega, by omega⟩⟩
  simp [fnEnd, S_drC, sSeq, sIf, sAsg, sPut, sRet, sE, sNext, tCmpE, asB, eBin, eVar, look, eC, eB, aCons, aNil, bnd, opIx, atI, ixN, opMod, opDiv, opMulA, opMul, bInt, stor, put2, putO, retD, D.bareL, D.bare, opAdd, e1, e2, hn, d1, e3, hn2, d2, e4, d3, hm]
theorem drB {cells : List Int} {B : Nat} {many : Int} (hB : B ≤ 1000000) (hm : 0 < many) (hm2 : many.natAbs.log2 < 9000) (x2 : Option Ev) (p v s c : Int) (hp : 0 ≤ p) (hv : 0 ≤ v) (hs1 : 0 ≤ s) (hs2 : s < 2147483648) (hc1 : 0 ≤ c) (hc2 : c ≤ B) :
    ∃ r M', fnEnd (sSeq S_drB S_drC [some (.d (.ob 0)), some (.d (.int many)), x2, none, none] [.lst [.ob 1, .int p, .int v, .int s, .int c], .lst (cells.map D.int)]) = .ok (.int r) M' ∧ 0 ≤ r ∧ r < many ∧ Hd cells (B + 1) M' := by
  by_cases hv0 : 0 < v
  · have e1 : cDiv v many := ⟨hm, hm2⟩
    refine ⟨v % many, [.lst [.ob 1, .int p, .int (v / many), .int s, .int c], .lst (cells.map D.int)], ?_, Int.emod_nonneg _ (by omega), Int.emod_lt_of_pos _ hm, ⟨p, v / many, s, c, rfl, hp, Int.ediv_nonneg hv (by omega), hs1, hs2, hc1, by omega⟩⟩
    simp [fnEnd, S_drB, sSeq, sIf, sAsg, sPut, sRet, sE, sNext, tCmpE, asB, eBin, eVar, look, eC, eB, aCons, aNil, bnd, opIx, atI, ixN, opMod, opDiv, bInt, stor, put2, putO, retD, D.bareL, D.bare, opI2, hv0, hm, e1]
  · have e0 : S_drB [some (.d (.ob 0)), some (.d (.int many)), x2, none, none] [.lst [.ob 1, .int p, .int v, .int s, .int c], .lst (cells.map D.int)] = .nx [some (.d (.ob 0)), some (.d (.int many)), x2, none, none] [.lst [.ob 1, .int p, .int v, .int s, .int c], .lst (cells.map D.int)] := by
      simp [S_drB, sIf, sE, sNext, tCmpE, asB, eBin, eVar, look, eC, bnd, opIx, atI, ixN, opI2, hv0]
    simp only [sSeq, e0]
    exact drC hB hm hm2 x2 p v s c hp hv hs1 hs2 hc1 hc2
theorem drA {cells : List Int} (hc : ∀ z ∈ cells, 0 ≤ z ∧ Builtin.Int.intBits z ≤ 1048576) {many : Int} (p v s c : Int) (hp : 0 ≤ p) (hv : 0 ≤ v) (hs1 : 0 ≤ s) (hs2 : s < 2147483648) :
    ∃ (x2 : Option Ev) (p' v' s' : Int), S_drA [some (.d (.ob 0)), some (.d (.int many)), none, none, none] [.lst [.ob 1, .int p, .int v, .int s, .int c], .lst (cells.map D.int)] = .nx [some (.d (.ob 0)), some (.d (.int many)), x2, none, none] [.lst [.ob 1, .int p', .int v', .int s', .int c], .lst (cells.map D.int)] ∧ 0 ≤ p' ∧ 0 ≤ v' ∧ 0 ≤ s' ∧ s' < 2147483648 := by
  by_cases h0 : v = 0
  · subst h0
    by_cases h1 : p < (cells.length : Int)
    · obtain ⟨z, hz⟩ : ∃ z, cells[p.toNat]? = some z := ⟨_, List.getElem?_eq_getElem (by omega)⟩
      obtain ⟨z1, z2⟩ := hc z (List.mem_of_getElem? hz)
      have at1 : atI (cells.map D.int) p = some (.int z) := by
        have e : p = (p.toNat : Int) := by omega
        rw [e, atI_get', List.getElem?_map, hz]; rfl
      have e1 : cMul s 69621 := cm64 (by omega) (by omega) (by omega) (by omega)
      have e2 : cMul z 40692 := cmW z2 (by omega) (by omega)
      have b1 : 0 ≤ (s * 69621 + z * 40692 + 23) % 2147483629 ∧ (s * 69621 + z * 40692 + 23) % 2147483629 < 2147483629 := ⟨Int.emod_nonneg _ (by omega), Int.emod_lt_of_pos _ (by omega)⟩
      have e3 : CPow 10 18 := ⟨by omega, by omega, by decide⟩
      have test : (bAnd (tCmpE (opEq false) (eBin opIx (eVar 0) (eC (.int 2))) (eC (.int 0))) (tCmpE opLt (eBin opIx (eVar 0) (eC (.int 1))) (eB bLen (aCons (eBin opIx (eVar 0) (eC (.int 0))) aNil)))) [some (.d (.ob 0)), some (.d (.int many)), none, none, none] [.lst [.ob 1, .int p, .int 0, .int s, .int c], .lst (cells.map D.int)] = .ok true [.lst [.ob 1, .int p, .int 0, .int s, .int c], .lst (cells.map D.int)] := by
        simp [bAnd, tCmpE, asB, eBin, eVar, look, eC, eB, aCons, aNil, bnd, opIx, at_0, at_1, at_2, opEq, eqR, opLt, opI2, bLen, h1]
      by_cases h2 : z < 1000000000000000000
      · have h2' : ¬ (1000000000000000000 ≤ z) := by omega
        refine ⟨some (.d (.int z)), p + 1, 0, (s * 69621 + z * 40692 + 23) % 2147483629, ?_, by omega, by omega, b1.1, by omega⟩
        simp only [S_drA, sIf, sE, test, if_true]
        simp [sIf, tCmpE, sSeq, sAsg, sPut, sE, sNext, asB, eBin, eVar, look, eC, eB, aCons, aNil, bnd, opIx, at_0, at_1, at_2, at_3, at_4, ixN, opMod, opMulA, opMul, bInt, stor, put2, putO, D.bareL, D.bare, opI2, opAdd, at1, e1, e2, e3, h2']
      · have h2' : 1000000000000000000 ≤ z := by omega
        refine ⟨some (.d (.int z)), p + 1, z, (s * 69621 + z * 40692 + 23) % 2147483629, ?_, by omega, by omega, b1.1, by omega⟩
        simp only [S_drA, sIf, sE, test, if_true]
        simp [sIf, tCmpE, sSeq, sAsg, sPut, sE, sNext, asB, eBin, eVar, look, eC, eB, aCons, aNil, bnd, opIx, at_0, at_1, at_2, at_3, at_4, ixN, opMod, opMulA, opMul, bInt, stor, put2, putO, D.bareL, D.bare, opI2, opAdd, at1, e1, e2, e3, h2']
    · refine ⟨none, p, 0, s, ?_, hp, hv, hs1, hs2⟩
      simp [S_drA, sIf, sE, sNext, tCmpE, asB, eBin, eVar, look, eC, eB, aCons, aNil, bnd, bAnd, opIx, at_0, at_1, at_2, at_3, at_4, ixN, opEq, eqR, opLt, bLen, h1]
  · refine ⟨none, p, v, s, ?_, hp, hv, hs1, hs2⟩
    simp [S_drA, sIf, sE, sNext, tCmpE, asB, eBin, eVar, look, eC, bnd, bAnd, opIx, at_0, at_1, at_2, at_3, at_4, ixN, opEq, eqR, h0]
theorem draw_ok {cells : List Int} {B : Nat} {M : Mem} {many : Int} (hc : ∀ z ∈ cells, 0 ≤ z ∧ Builtin.Int.intBits z ≤ 1048576) (h : Hd cells B M) (hB : B ≤ 1000000) (hm : 0 < many) (hm2 : many.natAbs.log2 < 9000) :
    ∃ r M', F_draw [.d (.ob 0), .d (.int many)] M = .ok (.int r) M' ∧ 0 ≤ r ∧ r < many ∧ Hd cells (B + 1) M' := by
  obtain ⟨p, v, s, c, rfl, hp, hv, hs1, hs2, hc1, hc2⟩ := h.ex
  obtain ⟨x2, p', v', s', e, g1, g2, g3, g4⟩ := drA hc (many := many) p v s c hp hv hs1 hs2
  obtain ⟨r, M', e2, r1, r2, r3⟩ := drB hB hm hm2 x2 p' v' s' c g1 g2 g3 g4 hc1 hc2
  refine ⟨r, M', ?_, r1, r2, r3⟩
  unfold F_draw
  rw [fnOf_eq]
  show fnEnd (sSeq S_drA (sSeq S_drB S_drC) [some (.d (.ob 0)), some (.d (.int many)), none, none, none] _) = _
  have e3 : sSeq S_drA (sSeq S_drB S_drC) [some (.d (.ob 0)), some (.d (.int many)), none, none, none] [.lst [.ob 1, .int p, .int v, .int s, .int c], .lst (cells.map D.int)] = sSeq S_drB S_drC [some (.d (.ob 0)), some (.d (.int many)), x2, none, none] [.lst [.ob 1, .int p', .int v', .int s', .int c], .lst (cells.map D.int)] := by
    simp only [sSeq, e]
  rw [e3]
  exact e2
end DL

set_option Elab.async false
set_option linter.all false
set_option maxRecDepth 100000
set_option maxHeartbeats 4000000
/-! The data layer: the laws' own hand, choice, comparison. -/
namespace DL
open PySem PySem.Spec PyProof.Rows L2
def S_any : Ss := (sRet (eBin opIx (eVar 1) (eCall 2 F_draw (aCons (eVar 0) (aCons (eB bLen (aCons (eVar 1) aNil)) aNil)))))
def F_any : Fn := fnOf 2 S_any
def S_hand : Ss := (sSeq (sSetN 1 (nE (eF (fLc (iSeq true (eSl (eVar 0) oNone (oSome (eC (.int 63))))) (.one 2) [2] tYesE (eB bAbs (aCons (eB bInt (aCons (eVar 2) aNil)) aNil)))))) (sRet (eLst (aCons (eVar 1) (aCons (eC (.int 0)) (aCons (eC (.int 0)) (aCons (eBin opAdd (eC (.int 47)) (eBin opMulA (eC (.int 7)) (eB bLen (aCons (eVar 1) aNil)))) (aCons (eC (.int 0)) aNil))))))))
def F_hand : Fn := fnOf 3 S_hand
def S_is (Fr : Fn) : Ss := (sSeq (sIf (tTru (eB bIsi (aCons (eVar 1) (aCons (eTup (aCons (eC (.ty "tuple")) (aCons (eC (.ty "list")) aNil))) aNil)))) (sSeq (sIf (bOr (tCmpE (opEq true) (eB bIsi (aCons (eVar 0) (aCons (eC (.ty "tuple")) aNil))) (eB bIsi (aCons (eVar 1) (aCons (eC (.ty "tuple")) aNil)))) (tCmpE (opEq true) (eB bIsi (aCons (eVar 0) (aCons (eC (.ty "list")) aNil))) (eB bIsi (aCons (eVar 1) (aCons (eC (.ty "list")) aNil))))) (sRet (eC (.bl false))) sNext) (sRet (eAnd (eBin (opEq false) (eB bLen (aCons (eVar 0) aNil)) (eB bLen (aCons (eVar 1) aNil))) (eB bAll (aCons (eF (fLc (iO (zip2 true) (aCons (eVar 0) (aCons (eVar 1) aNil))) (.many [2, 3]) [2, 3] tYesE (eCall 2 Fr (aCons (eVar 2) (aCons (eVar 3) aNil))))) aNil))))) sNext) (sSeq (sIf (bOr (tCmpE (opIs false) (eVar 1) (eC .non)) (tCmpE (opIs false) (eVar 0) (eC .non))) (sRet (eAnd (eBin (opIs false) (eVar 1) (eC .non)) (eBin (opIs false) (eVar 0) (eC .non)))) sNext) (sSeq (sIf (bOr (tCmpE (opEq true) (eB bIsi (aCons (eVar 0) (aCons (eC (.ty "bool")) aNil))) (eB bIsi (aCons (eVar 1) (aCons (eC (.ty "bool")) aNil)))) (tCmpE (opEq true) (eB bIsi (aCons (eVar 0) (aCons (eC (.ty "int")) aNil))) (eB bIsi (aCons (eVar 1) (aCons (eC (.ty "int")) aNil))))) (sRet (eC (.bl false))) sNext) (sRet (eAnd (eBin (opEq false) (eB bIsi (aCons (eVar 0) (aCons (eC (.ty "str")) aNil))) (eB bIsi (aCons (eVar 1) (aCons (eC (.ty "str")) aNil)))) (eBin (opEq false) (eVar 0) (eVar 1)))))))
def R_is : Nat → Fn
  | 0 => fun _ _ => .stuck
  | n + 1 => fnOf 4 (S_is (R_is n))
theorem log2_small {n : Nat} (h : n < 2 ^ 64) : n.log2 < 9000 := by
  by_cases e : n = 0
  · subst e; decide
  · have := (Nat.log2_lt e).mpr h; omega
theorem any_ok {cells : List Int} {B : Nat} {M : Mem} {l : List D} (hc : ∀ z ∈ cells, 0 ≤ z ∧ Builtin.Int.intBits z ≤ 1048576) (h : Hd cells B M) (hB : B ≤ 1000000) (hl : 0 < l.length) (hl2 : l.length < 1000000) :
    ∃ d M', F_any [.d (.ob 0), .d (.lst l)] M = .ok d M' ∧ d ∈ l ∧ Hd cells (B + 1) M' := by
  obtain ⟨r, M', e, r0, r1, h'⟩ := draw_ok hc h hB (many := (l.length : Int)) (by omega) (log2_small (by simp; omega))
  obtain ⟨j, rfl⟩ : ∃ j : Nat, r = (j : Int) := ⟨r.toNat, by omega⟩
  have hj : j < l.length := by omega
  have e2 : atI l (j : Int) = some l[j] := by rw [atI_get', List.getElem?_eq_getElem hj]
  refine ⟨l[j], M', ?_, List.getElem_mem _, h'⟩
  unfold F_any
  rw [fnOf_eq]
  simp [fnEnd, S_any, sRet, sE, eBin, eVar, look, eCall, eB, aCons, aNil, bnd, bLen, seqOf, passL, pass1, e, opIx, e2, retD]
theorem sIx63 {n : Nat} (h : n ≤ 63) : HT.sIx n n (some 63) = n := by
  have := HT.sIx_nat n n 63
  rw [show ((63 : Nat) : Int) = 63 from rfl] at this
  rw [this]; omega
theorem hand_ok (ns : List Int) (h : ns.length ≤ 63) (d : D) (hd : d = .sc ns ∨ d = .lst (ns.map D.int)) : F_hand [.d d] [] = .ok (.lst [.lst ((ns.map fun z => (z.natAbs : Int)).map D.int), .int 0, .int 0, .int (47 + 7 * (ns.length : Int)), .int 0]) [] := by
  have sl : eSl (eVar 0) oNone (oSome (eC (.int 63))) [some (.d d), none, none] [] = .ok (.d (.lst (ns.map D.int))) [] := by
    have cut : cutD (ns.map D.int) none (some 63) = ns.map D.int := by
      unfold cutD
      rw [HT.sIx_none, List.length_map, sIx63 h]
      exact List.take_of_length_le (by simp)
    rcases hd with rfl | rfl
    · simp [eSl, eVar, look, oNone, oSome, eC, bnd, opSl, cut]
    · simp [eSl, eVar, look, oNone, oSome, eC, bnd, opSl, lstOf, cut]
  have lc : fLc (iSeq true (eSl (eVar 0) oNone (oSome (eC (.int 63))))) (.one 2) [2] tYesE (eB bAbs (aCons (eB bInt (aCons (eVar 2) aNil)) aNil)) [some (.d d), none, none] [] = .ok ((ns.map D.int).map fun d => match d with | .int z => .int (z.natAbs : Int) | x => x) [] := by
    have hm : (ns.map D.int).length ≤ most := by rw [List.length_map]; unfold most; omega
    have e1 : iSeq true (eSl (eVar 0) oNone (oSome (eC (.int 63)))) [some (.d d), none, none] [] = .ok (ns.map D.int) [] := by
      simp [iSeq, sl, bnd, itemsOf]
    simp only [fLc, e1, bnd, if_pos hm]
    refine lcL_map _ _ fun x hx => ?_
    obtain ⟨z, _, rfl⟩ := List.mem_map.mp hx
    refine ⟨[some (.d d), none, some (.d (.int z))], by simp [tgE, wipeE], ?_⟩
    have : (if z < 0 then -z else z) = (z.natAbs : Int) := by split <;> omega
    simp [eB, aCons, aNil, eVar, look, bnd, bInt, bAbs, this]
  have e3 : ((ns.map D.int).map fun d => match d with | .int z => .int (z.natAbs : Int) | x => x) = (ns.map fun z => (z.natAbs : Int)).map D.int := by
    rw [List.map_map, List.map_map]; rfl
  rw [e3] at lc
  have cm : cMul 7 (ns.length : Int) := cm64 (by omega) (by omega) (by omega) (by omega)
  unfold F_hand
  rw [fnOf_eq]
  simp [fnEnd, S_hand, sSeq, sSetN, nE, eF, sE, bnd, lc, stor, optR, sRet, eLst, aCons, aNil, eVar, look, eC, eBin, opAdd, opMulA, opMul, eB, bLen, seqOf, cm, datas, retD, most]
theorem bits_abs {z : Int} (h : Builtin.Int.intBits z ≤ 1048576) : Builtin.Int.intBits (z.natAbs : Int) ≤ 1048576 := by
  unfold Builtin.Int.intBits at h ⊢
  by_cases e : z = 0
  · subst e; decide
  · have e2 : ((z.natAbs : Int) == 0) = false := by simp [e]
    have e3 : (z == 0) = false := by simp [e]
    rw [e2]; rw [e3] at h
    simpa using h
theorem eqR_bl (a b : Bool) : eqR (.d (.bl a)) (.d (.bl b)) = some (decide (a = b)) := by cases a <;> cases b <;> decide +kernel
theorem isi1 {ρ : Env} {M : Mem} {i : Nat} {x : Ev} {a b : String} (h : eVar i ρ M = .ok x M) (ht : tyN x = some a) (hb : b ∈ clNs) : eB bIsi (aCons (eVar i) (aCons (eC (.ty b)) aNil)) ρ M = .ok (bv (isOf a b)) M := by
  simp only [eB, aCons, aNil, h, bnd, eC, bIsi, ht, if_pos hb]
theorem isi2 {ρ : Env} {M : Mem} {i : Nat} {x : Ev} {a b c : String} (h : eVar i ρ M = .ok x M) (ht : tyN x = some a) (hb : b ∈ clNs) (hc : c ∈ clNs) : eB bIsi (aCons (eVar i) (aCons (eTup (aCons (eC (.ty b)) (aCons (eC (.ty c)) aNil))) aNil)) ρ M = .ok (bv (isOf a b || isOf a c)) M := by
  simp [eB, aCons, aNil, h, bnd, eC, eTup, datas, most, bIsi, ht, toTys, hb, hc]
theorem neB {f g : Sm Ev} {ρ : Env} {M : Mem} {a b : Bool} (h1 : f ρ M = .ok (bv a) M) (h2 : g ρ M = .ok (bv b) M) : tCmpE (opEq true) f g ρ M = .ok (!decide (a = b)) M := by
  simp [tCmpE, asB, eBin, h1, h2, bnd, opEq, eqR_bl]
theorem eqB {f g : Sm Ev} {ρ : Env} {M : Mem} {a b : Bool} (h1 : f ρ M = .ok (bv a) M) (h2 : g ρ M = .ok (bv b) M) : eBin (opEq false) f g ρ M = .ok (bv (decide (a = b))) M := by
  simp [eBin, h1, h2, bnd, opEq, eqR_bl]
theorem truV {f : Sm Ev} {ρ : Env} {M M' : Mem} {b : Bool} (h : f ρ M = .ok (bv b) M') : tTru f ρ M = .ok b M' := by
  simp [tTru, truB, h, bnd, truth]
theorem is_int (n : Nat) (a b : Int) (M : Mem) : R_is (n + 1) [.d (.int a), .d (.int b)] M = .ok (.bl (decide (a = b))) M := by
  show fnOf 4 (S_is (R_is n)) _ _ = _
  rw [fnOf_eq]
  have v0 : eVar 0 [some (.d (.int a)), some (.d (.int b)), none, none] M = .ok (.d (.int a)) M := rfl
  have v1 : eVar 1 [some (.d (.int a)), some (.d (.int b)), none, none] M = .ok (.d (.int b)) M := rfl
  have t1 := truV (isi2 (b := "tuple") (c := "list") v1 (a := "int") rfl (by decide) (by decide))
  have t2 : (bOr (tCmpE (opIs false) (eVar 1) (eC .non)) (tCmpE (opIs false) (eVar 0) (eC .non))) [some (.d (.int a)), some (.d (.int b)), none, none] M = .ok false M := rfl
  have t3 := neB (isi1 (b := "bool") v0 (a := "int") rfl (by decide)) (isi1 (b := "bool") v1 (a := "int") rfl (by decide))
  have t4 := neB (isi1 (b := "int") v0 (a := "int") rfl (by decide)) (isi1 (b := "int") v1 (a := "int") rfl (by decide))
  have t5 := eqB (isi1 (b := "str") v0 (a := "int") rfl (by decide)) (isi1 (b := "str") v1 (a := "int") rfl (by decide))
  rw [show (isOf "int" "tuple" || isOf "int" "list") = false by decide] at t1
  rw [show (!decide (isOf "int" "bool" = isOf "int" "bool")) = false by decide] at t3
  rw [show (!decide (isOf "int" "int" = isOf "int" "int")) = false by decide] at t4
  rw [show decide (isOf "int" "str" = isOf "int" "str") = true by decide] at t5
  show fnEnd (S_is (R_is n) [some (.d (.int a)), some (.d (.int b)), none, none] M) = _
  have t6 : eBin (opEq false) (eVar 0) (eVar 1) [some (.d (.int a)), some (.d (.int b)), none, none] M = .ok (bv (decide (a = b))) M := by rw [q_bin v0 v1]; rfl
  rw [S_is, q_nx (q_skip t1), q_nx (q_skip t2), q_nx (q_skip (by rw [q_or0 t3]; exact t4)), q_ret (x := bv (decide (a = b))) (by rw [q_eand1 t5 rfl]; exact t6) rfl]
  rfl
theorem is_tup (n : Nat) (l l' : List D) (M : Mem) (hl : l.length = l'.length) (hm : l.length ≤ most) (h : ∀ p ∈ l.zip l', R_is n [.d p.1, .d p.2] M = .ok (.bl true) M) : R_is (n + 1) [.d (.tup l), .d (.tup l')] M = .ok (.bl true) M := by
  have lc : fLc (iO (zip2 true) (aCons (eVar 0) (aCons (eVar 1) aNil))) (.many [2, 3]) [2, 3] tYesE (eCall 2 (R_is n) (aCons (eVar 2) (aCons (eVar 3) aNil))) [some (.d (.tup l)), some (.d (.tup l')), none, none] M = .ok ((zipL l l').map fun _ => .bl true) M := by
    have e1 : iO (zip2 true) (aCons (eVar 0) (aCons (eVar 1) aNil)) [some (.d (.tup l)), some (.d (.tup l')), none, none] M = .ok (zipL l l') M := by
      simp [iO, aCons, aNil, eVar, look, bnd, zip2, optR]
    have hz : (zipL l l').length ≤ most := by rw [zipL_len]; omega
    simp only [fLc, e1, bnd, if_pos hz]
    refine lcL_map _ _ fun x hx => ?_
    unfold zipL at hx
    obtain ⟨p, hp, rfl⟩ := List.mem_map.mp hx
    refine ⟨[some (.d (.tup l)), some (.d (.tup l')), some (.d p.1), some (.d p.2)], by simp [tgE, wipeE, setAllE], ?_⟩
    simp [eCall, aCons, aNil, eVar, look, bnd, passL, pass1, h p hp]
  have tb : ∀ m : List D, toBls (m.map fun _ => D.bl true) = some (m.map fun _ => true) := by
    intro m
    induction m with
    | nil => rfl
    | cons x m ih => simp [toBls, ih]
  show fnOf 4 (S_is (R_is n)) _ _ = _
  rw [fnOf_eq]
  have v0 : eVar 0 [some (.d (.tup l)), some (.d (.tup l')), none, none] M = .ok (.d (.tup l)) M := rfl
  have v1 : eVar 1 [some (.d (.tup l)), some (.d (.tup l')), none, none] M = .ok (.d (.tup l')) M := rfl
  have t1 := truV (isi2 (b := "tuple") (c := "list") v1 (a := "tuple") rfl (by decide) (by decide))
  have t3 := neB (isi1 (b := "tuple") v0 (a := "tuple") rfl (by decide)) (isi1 (b := "tuple") v1 (a := "tuple") rfl (by decide))
  have t4 := neB (isi1 (b := "list") v0 (a := "tuple") rfl (by decide)) (isi1 (b := "list") v1 (a := "tuple") rfl (by decide))
  rw [show (isOf "tuple" "tuple" || isOf "tuple" "list") = true by decide] at t1
  rw [show (!decide (isOf "tuple" "tuple" = isOf "tuple" "tuple")) = false by decide] at t3
  rw [show (!decide (isOf "tuple" "list" = isOf "tuple" "list")) = false by decide] at t4
  have t5 : eBin (opEq false) (eB bLen (aCons (eVar 0) aNil)) (eB bLen (aCons (eVar 1) aNil)) [some (.d (.tup l)), some (.d (.tup l')), none, none] M = .ok (bv true) M := by
    simp [eBin, eB, aCons, aNil, v0, v1, bnd, bLen, seqOf, opEq, eqR, hl]
  show fnEnd (S_is (R_is n) [some (.d (.tup l)), some (.d (.tup l')), none, none] M) = _
  have t6 : eB bAll (aCons (eF (fLc (iO (zip2 true) (aCons (eVar 0) (aCons (eVar 1) aNil))) (.many [2, 3]) [2, 3] tYesE (eCall 2 (R_is n) (aCons (eVar 2) (aCons (eVar 3) aNil))))) aNil) [some (.d (.tup l)), some (.d (.tup l')), none, none] M = .ok (bv true) M := by
    have e1 : eF (fLc (iO (zip2 true) (aCons (eVar 0) (aCons (eVar 1) aNil))) (.many [2, 3]) [2, 3] tYesE (eCall 2 (R_is n) (aCons (eVar 2) (aCons (eVar 3) aNil)))) [some (.d (.tup l)), some (.d (.tup l')), none, none] M = .ok (.d (.lst ((zipL l l').map fun _ => .bl true))) M := by
      simp only [eF, lc, bnd]
    rw [q_B (q_cons e1 rfl)]
    simp [bAll, blsOf, lstOf, tb]
  rw [S_is, q_rt (d := .bl true) (M' := M) (by rw [q_if1 t1, q_nx (q_skip (by rw [q_or0 t3]; exact t4)), q_ret (x := bv true) (by rw [q_eand1 t5 rfl]; exact t6) rfl])]
  rfl
theorem is_lst (n : Nat) (l l' : List D) (M : Mem) (hl : l.length = l'.length) (hm : l.length ≤ most) (h : ∀ p ∈ l.zip l', R_is n [.d p.1, .d p.2] M = .ok (.bl true) M) : R_is (n + 1) [.d (.lst l), .d (.lst l')] M = .ok (.bl true) M := by
  have lc : fLc (iO (zip2 true) (aCons (eVar 0) (aCons (eVar 1) aNil))) (.many [2, 3]) [2, 3] tYesE (eCall 2 (R_is n) (aCons (eVar 2) (aCons (eVar 3) aNil))) [some (.d (.lst l)), some (.d (.lst l')), none, none] M = .ok ((zipL l l').map fun _ => .bl true) M := by
    have e1 : iO (zip2 true) (aCons (eVar 0) (aCons (eVar 1) aNil)) [some (.d (.lst l)), some (.d (.lst l')), none, none] M = .ok (zipL l l') M := by
      simp [iO, aCons, aNil, eVar, look, bnd, zip2, itemsOf, optR]
    have hz : (zipL l l').length ≤ most := by rw [zipL_len]; omega
    simp only [fLc, e1, bnd, if_pos hz]
    refine lcL_map _ _ fun x hx => ?_
    unfold zipL at hx
    obtain ⟨p, hp, rfl⟩ := List.mem_map.mp hx
    refine ⟨[some (.d (.lst l)), some (.d (.lst l')), some (.d p.1), some (.d p.2)], by simp [tgE, wipeE, setAllE], ?_⟩
    simp [eCall, aCons, aNil, eVar, look, bnd, passL, pass1, h p hp]
  have tb : ∀ m : List D, toBls (m.map fun _ => D.bl true) = some (m.map fun _ => true) := by
    intro m
    induction m with
    | nil => rfl
    | cons x m ih => simp [toBls, ih]
  show fnOf 4 (S_is (R_is n)) _ _ = _
  rw [fnOf_eq]
  have v0 : eVar 0 [some (.d (.lst l)), some (.d (.lst l')), none, none] M = .ok (.d (.lst l)) M := rfl
  have v1 : eVar 1 [some (.d (.lst l)), some (.d (.lst l')), none, none] M = .ok (.d (.lst l')) M := rfl
  have t1 := truV (isi2 (b := "tuple") (c := "list") v1 (a := "list") rfl (by decide) (by decide))
  have t3 := neB (isi1 (b := "tuple") v0 (a := "list") rfl (by decide)) (isi1 (b := "tuple") v1 (a := "list") rfl (by decide))
  have t4 := neB (isi1 (b := "list") v0 (a := "list") rfl (by decide)) (isi1 (b := "list") v1 (a := "list") rfl (by decide))
  rw [show (isOf "list" "tuple" || isOf "list" "list") = true by decide] at t1
  rw [show (!decide (isOf "list" "tuple" = isOf "list" "tuple")) = false by decide] at t3
  rw [show (!decide (isOf "list" "list" = isOf "list" "list")) = false by decide] at t4
  have t5 : eBin (opEq false) (eB bLen (aCons (eVar 0) aNil)) (eB bLen (aCons (eVar 1) aNil)) [some (.d (.lst l)), some (.d (.lst l')), none, none] M = .ok (bv true) M := by
    simp [eBin, eB, aCons, aNil, v0, v1, bnd, bLen, seqOf, opEq, eqR, hl]
  show fnEnd (S_is (R_is n) [some (.d (.lst l)), some (.d (.lst l')), none, none] M) = _
  have t6 : eB bAll (aCons (eF (fLc (iO (zip2 true) (aCons (eVar 0) (aCons (eVar 1) aNil))) (.many [2, 3]) [2, 3] tYesE (eCall 2 (R_is n) (aCons (eVar 2) (aCons (eVar 3) aNil))))) aNil) [some (.d (.lst l)), some (.d (.lst l')), none, none] M = .ok (bv true) M := by
    have e1 : eF (fLc (iO (zip2 true) (aCons (eVar 0) (aCons (eVar 1) aNil))) (.many [2, 3]) [2, 3] tYesE (eCall 2 (R_is n) (aCons (eVar 2) (aCons (eVar 3) aNil)))) [some (.d (.lst l)), some (.d (.lst l')), none, none] M = .ok (.d (.lst ((zipL l l').map fun _ => .bl true))) M := by
      simp only [eF, lc, bnd]
    rw [q_B (q_cons e1 rfl)]
    simp [bAll, blsOf, lstOf, tb]
  rw [S_is, q_rt (d := .bl true) (M' := M) (by rw [q_if1 t1, q_nx (q_skip (by rw [q_or0 t3]; exact t4)), q_ret (x := bv true) (by rw [q_eand1 t5 rfl]; exact t6) rfl])]
  rfl
end DL

set_option Elab.async false
set_option linter.all false
set_option maxRecDepth 100000
set_option maxHeartbeats 2000000
/-! The data layer: texts, constants of the module, wider targets. -/
namespace DL
open PySem PySem.Spec PyProof.Rows L2
section
variable {X : Cx} {T : List (Addr × Str)} {W : WX} {a b c e o : Expr} {es : List Expr} {tg : Expr} {pos p : Pos} {f g : Sm Ev} {fs : Sm (List Ev)} {k : Bool}
/-- a whole number of the module -/
theorem de_gint {x : Str} {i : Int} (hg : Gl X x) (hm : ∃ t, X.mg x = some (.int i t)) (hd : (x == ("__debug__" : Str)) = false := by decide) : PE X (.Name x pos) (tE (cf X T W) (eC (.int i))) := by
  obtain ⟨t, hm⟩ := hm
  exact de_glob (v := .int i) hg hm ⟨t, rfl⟩ (fun _ _ _ => rfl) hd
/-- a text of the module -/
theorem de_gstr {x z : Str} (hg : Gl X x) (hm : ∃ t, X.mg x = some (.str z t)) (hd : (x == ("__debug__" : Str)) = false := by decide) : PE X (.Name x pos) (tE (cf X T W) (eC (.str z))) := by
  obtain ⟨t, hm⟩ := hm
  exact de_glob (v := .str z) hg hm ⟨t, rfl⟩ (fun _ _ _ => rfl) hd
/-- texts of a list -/
def toStrs : List D → Option (List Str)
  | [] => some []
  | .str s :: l => (toStrs l).map (s :: ·)
  | _ => none
theorem strs_at {K : PySem.W.Frag} {A m : List Addr} {H : Hp} : ∀ {l : List D} {ys : List Str} {vs : List V}, toStrs l = some ys → Rps K A m H l vs → vs = ys.map V.str
  | [], _, _, h, r => by cases h; exact r
  | .str s :: l, ys, _, h, ⟨v, r, e, h1, h2⟩ => by
    unfold toStrs at h
    cases q : toStrs l with
    | none => rw [q] at h; cases h
    | some zs =>
      rw [q] at h; cases h
      rw [e, show v = V.str s from h1, strs_at q h2]; rfl
  | .non :: _, _, _, h, _ => by cases h
  | .bl _ :: _, _, _, h, _ => by cases h
  | .int _ :: _, _, _, h, _ => by cases h
  | .ty _ :: _, _, _, h, _ => by cases h
  | .at _ :: _, _, _, h, _ => by cases h
  | .ob _ :: _, _, _, h, _ => by cases h
  | .sc _ :: _, _, _, h, _ => by cases h
  | .tup _ :: _, _, _, h, _ => by cases h
  | .lst _ :: _, _, _, h, _ => by cases h
  | .dK _ _ :: _, _, _, h, _ => by cases h
  | .dT _ _ :: _, _, _, h, _ => by cases h
def joinO (x y : Ev) : Option Str := match x, seqOf y with
  | .d (.str a), some l => match toStrs l with
    | some ys => if (ys.map (·.length)).sum + ys.length * a.length ≤ most then some (Txt.join a ys) else none
    | none => none
  | _, _ => none
def eJoin (f g : Sm Ev) : Sm Ev := fun ρ M => bnd (f ρ M) fun x M1 => match x with
  | .d (.str a) => bnd (g ρ M1) fun y M2 => match joinO (.d (.str a)) y with
    | some z => .ok (.d (.str z)) M2
    | none => .stuck
  | _ => .stuck
theorem de_join {apos : Pos} (ho : PE X o (tE (cf X T W) f)) (he : PE X e (tE (cf X T W) g)) (hs : starEach [e] X.env = [(false, eval e X.env)] := by rfl) (hbase : attributeBase o "join" X.env (eval o X.env) = eval o X.env := by rfl) (hline : (apos.endLine == pos.line) = true := by rfl) :
    PE X (.Call (.Attribute o "join" apos) [e] [] pos) (tE (cf X T W) (eJoin f g)) := by
  refine ⟨fun pins s σ H Q I q => (pe_join ho he hs hbase hline).run pins s σ H Q I ?_⟩
  obtain ⟨H0, A, m, M, ρ, P, F, q⟩ := q
  refine sub F q fun x M1 H1 v F1 _ r1 q1 => ?_
  split at q1
  · rename_i a0
    have ev : v = V.str a0 := r1
    refine ⟨⟨a0, ev⟩, ?_⟩
    refine sub F1 q1 fun y M2 H2 w F2 s2 r2 q2 => ?_
    split at q2
    · rename_i z hz
      unfold joinO at hz
      split at hz
      · rename_i a1 l e1 hl
        cases e1
        split at hz
        · rename_i ys hy
          split at hz
          · rename_i hc
            cases hz
            obtain ⟨p0, vs, ew, hq, r⟩ := seqOf_at hl r2
            have evs := strs_at hy r
            subst evs
            exact ⟨_, p0, ys, ev, by rw [ew], hq, by unfold most at hc; omega, q2.fin F2 rfl⟩
          · cases hz
        · cases hz
      · cases hz
    · exact q2.elim
  · exact q1.elim
/-- x[a:b], texts too -/
def opSlS (x : Ev) (lo hi : Option Int) (M : Mem) : R Ev := match x with
  | .d (.str z) => if z.length ≤ most then .ok (.d (.str (cutS z lo hi))) M else .stuck
  | x => opSl x lo hi M
theorem ok_slS : SOk (cf X T W) opSlS (fun x lo hi H Q => rSlS x lo hi H Q ∨ (rSlL X.K x lo hi H Q ∨ rSlA X.K x lo hi H Q)) := by
  intro H0 A m M H ρ σ P x v lo hi Q F r h
  unfold opSlS at h
  split at h
  · rename_i z
    split at h
    · rename_i hc
      exact .inl ⟨z, r, most_line hc, h.fin F rfl⟩
    · exact h.elim
  · exact .inr (ok_sl H0 A m M H ρ σ P _ v lo hi Q F r h)
def eSlS (f : Sm Ev) (lo hi : Sm (Option Int)) : Sm Ev := fun ρ M => bnd (f ρ M) fun x M1 => bnd (lo ρ M1) fun i M2 => bnd (hi ρ M2) fun j M3 => opSlS x i j M3
theorem de_slS {lo hi : Option Expr} {ol oh : Sm (Option Int)} {p2 : Pos} (ha : PE X a (tE (cf X T W) f)) (hl : PO X lo (tOI (cf X T W) ol)) (hh : PO X hi (tOI (cf X T W) oh)) : PE X (.Subscript a (.Slice lo hi none p2) pos) (tE (cf X T W) (eSlS f ol oh)) := by
  refine ⟨fun pins s σ H Q I q => (pe_slice (sl_str.or sl_A) ha hl hh).run pins s σ H Q I ?_⟩
  obtain ⟨H0, A, m, M, ρ, P, F, q⟩ := q
  refine sub F q fun x M1 H1 v F1 _ r1 q1 => ?_
  refine sub F1 q1 fun i M2 H2 i' F2 s2 r2 q2 => ?_
  refine sub F2 q2 fun j M3 H3 j' F3 s3 r3 q3 => ?_
  cases (show i = i' from r2)
  cases (show j = j' from r3)
  exact ok_slS H0 A m M3 H3 ρ σ P x v i j Q F3 (EvR.step F2.wr.aok F2.ma s3 (EvR.step F1.wr.aok F1.ma s2 r1)) q3
/-- the signs of a text -/
def chars (z : Str) : List D := z.cps.toList.map fun c => .str ⟨#[c]⟩
def iStrS (f : Sm Ev) : Sm (List D) := fun ρ M => bnd (f ρ M) fun x M1 => match x with
  | .d (.str z) => .ok (chars z) M1
  | _ => .stuck
theorem di_str (ha : PE X e (tE (cf X T W) f)) : PI X tg e (tI (cf X T W) k (iStrS f)) := by
  refine ⟨fun pins s σ H G I q => (pi_str ha).run pins s σ H G I ?_⟩
  obtain ⟨H0, A, m, M, ρ, P, F, q⟩ := q
  refine subI F q fun x M1 H1 v F1 r1 q1 => ?_
  by_cases hx : ∃ z, x = .d (.str z)
  · obtain ⟨z, rfl⟩ := hx
    refine ⟨z, r1, q1 _ H1 (Stp.refl _ _) F1.wr F1.tb ⟨fun A' H2 _ i d hd => ?_, fun A' H2 _ => ?_⟩⟩
    · unfold chars at hd
      rw [List.getElem?_map] at hd
      cases hq : z.cps.toList[i]? with
      | none => rw [hq] at hd; cases hd
      | some c =>
        rw [hq] at hd; cases hd
        refine ⟨by have := (List.getElem?_eq_some_iff.mp hq).1; show i < z.cps.size; simpa using this, fun y H3 hy => ?_⟩
        obtain ⟨e1, c', e2, e3⟩ := hy
        rw [← Array.getElem?_toList, hq] at e2
        cases e2
        exact ⟨.inl e1, e3⟩
    · show z.cps.size ≤ (chars z).length
      unfold chars; simp
  · exfalso
    revert q1
    cases x with
    | d x => cases x with
      | str z => exact (hx ⟨z, rfl⟩).elim
      | _ => exact fun h => h.elim
    | _ => exact fun h => h.elim
/-! many names at once, some of own lists -/
def gNames : List Nat → TGs
  | [] => gNil
  | i :: is => gCons (gName i) (gNames is)
theorem gNames_run {Q : L2.St → Hp → Prop} : ∀ {is : List Nat} {vs : List V} {σ : L2.St} {H : Hp}, vs.length = is.length → Q (setAll σ is vs) H → gNames is vs σ H Q
  | [], [], _, _, _, h => ⟨rfl, h⟩
  | [], _ :: _, _, _, e, _ => by cases e
  | _ :: _, [], _, _, e, _ => by cases e
  | i :: is, v :: vs, σ, H, e, h => ⟨v, vs, rfl, gNames_run (is := is) (by simpa using e) h⟩
theorem parG_run {C : Cf} {fs : Sm (List Ev)} {is : List Nat} {σ : L2.St} {H : Hp} {Dn : Ends} (q : tS C (sParN is fs) Dn σ H) (hb : is.length ≤ sizeLine) : tAsg (tTup (tNs C fs)) (gTup C.K is.length (gNames is)) Dn σ H := by
  obtain ⟨H0, A, m, M, ρ, P, F, q⟩ := q
  refine ⟨H0, A, m, M, ρ, P, F, ?_⟩
  unfold sParN at q
  cases e1 : fs ρ M with
  | stuck => rw [e1] at q; exact q.elim
  | exc c g M1 =>
    rw [e1] at q
    exact fun H' cls d s w t x => q A H' σ P cls d (Ext.step s F.ma) (F.step s w t) x
  | ok xs M1 =>
    rw [e1] at q
    intro A1 P1 H1 vs r1 w1 t1 k1 x1 n1 h1
    have F1 := F.gro r1 w1 t1 k1
    have q' : PZ C H0 A m H (if xs.length = is.length ∧ ∀ i ∈ is, i < ρ.length then .nx (setEvs ρ is xs) M1 else .stuck) Dn := q
    by_cases hi : xs.length = is.length ∧ ∀ i ∈ is, i < ρ.length
    · rw [if_pos hi] at q'
      obtain ⟨P', F'⟩ := FR.setNs F1 x1 n1 (fun p hp => ⟨(h1 p hp).1, (F.not_live (h1 p hp).2).2.1, (F.not_live (h1 p hp).2).2.2.2, (F.not_live (h1 p hp).2).2.2.1⟩) hi.2
      have el : vs.length = is.length := by rw [SlRs.len x1]; exact hi.1
      refine ⟨by rw [el]; exact hb, fun p hp => ⟨p, vs, rfl, SqT.of upd_same, el, gNames_run el ?_⟩⟩
      exact q' A1 _ _ P' ⟨fun a h _ => r1.2.1 a h, r1.1, (r1.2.2.mono F.ma).trans (Stp.upd hp)⟩ (F'.grow hp)
    · rw [if_neg hi] at q'; exact q'.elim
theorem ds_parG {is : List Nat} {ts : List Expr} {kt k2 : Nat} {pt pt2 : Pos} (hc : X.calm = true) (ha : PA X es (tNs (cf X T W) fs)) (hg : PGs X ts (gNames is)) (hb : is.length ≤ sizeLine := by decide)
    (hn : (assignEach ts X.env).length = is.length := by rfl) (hst : (assignEach ts X.env).findIdx? (·.1) = none := by rfl)
    (hs : swapsWithSole [.Tuple ts kt pt] (.Tuple es k2 pt2) pos.line X.env = pure false := by rfl) (hw : swappedStores [.Tuple ts kt pt] (.Tuple es k2 pt2) X.env = pure none := by rfl) :
    PS X (.Assign [.Tuple ts kt pt] (.Tuple es k2 pt2) pos) (tS (cf X T W) (sParN is fs)) :=
  ⟨fun pins s σ H Dn I q => (ps_asg (pe_tup ha) (pg_tup hc hg hn hst) hs hw).run pins s σ H Dn I (parG_run q hb)⟩
/-! a text so many times -/
def repS (z : Str) (k : Int) : Str := ⟨(List.replicate k.toNat z.cps).foldl (· ++ ·) #[]⟩
theorem rep_size {z : Array Nat} : ∀ {n : Nat} {acc : Array Nat}, ((List.replicate n z).foldl (· ++ ·) acc).size = acc.size + n * z.size
  | 0, acc => by simp
  | n + 1, acc => by rw [List.replicate_succ, List.foldl_cons, rep_size, Array.size_append, Nat.succ_mul]; omega
theorem op_mulS : OpR X (binaryOp .Mult) (fun x y H Q => ∃ z k, x = .str z ∧ y = .int k ∧ 1 ≤ k ∧ k ≤ 1000000 ∧ z.length * k.toNat ≤ sizeLine ∧ Q (.str (repS z k)) H) := by
  intro pins s σ H x y v u Q I rx ry h
  obtain ⟨z, k, rfl, rfl, k1, k2, hz, q⟩ := h
  obtain ⟨t, rfl⟩ := rx
  obtain ⟨t', rfl⟩ := ry
  have hlen : (z.length * k.toNat : Nat) ≤ 16777216 := by unfold sizeLine at hz; exact hz
  refine P.mul_str ?_ (fun _ _ hc => ?_) (fun _ _ => ?_) ?_
  · simp; omega
  · have h2 : (z.length : Int) ≤ 16777216 := by
      have : z.length ≤ z.length * k.toNat := Nat.le_mul_of_pos_right _ (by omega)
      omega
    have h3 : (9223372036854 : Int) ≤ (2 ^ 63 - 1) / k := Int.le_ediv_of_mul_le (by omega) (by omega)
    omega
  · simp [Builtin.Str.tooLong]; exact hz
  · rw [if_neg (by omega)]
    split
    · rename_i h1
      have e : z = repS z k := by
        rcases (by simpa using h1 : k = 1 ∨ z.length = 0) with rfl | e0
        · unfold repS; simp
        · have : z.cps = #[] := by
            apply Array.eq_empty_of_size_eq_zero; exact e0
          unfold repS
          cases z
          simp at this; subst this
          congr
          generalize k.toNat = n
          induction n with
          | zero => rfl
          | succ n ih => rw [List.replicate_succ]; simpa using ih
      exact ⟨.str (repS z k), H, I, ⟨t, by rw [← e]⟩, q⟩
    · refine ⟨?_, .str (repS z k), H, I.tok _, ⟨_, rfl⟩, q⟩
      rw [show Str.length ⟨(List.replicate k.toNat z.cps).foldl (· ++ ·) #[]⟩ = ((List.replicate k.toNat z.cps).foldl (· ++ ·) #[]).size from rfl, rep_size]
      show #[].size + k.toNat * z.cps.size ≤ sizeLine
      rw [Nat.mul_comm]; show 0 + z.length * k.toNat ≤ sizeLine; omega
def opMulS (a b : Ev) (M : Mem) : R Ev := match a, b with
  | .d (.str z), .d (.int k) => if 1 ≤ k ∧ k ≤ 1000000 ∧ z.length * k.toNat ≤ most then .ok (.d (.str (repS z k))) M else .stuck
  | a, b => opMulA a b M
theorem de_mulS (ha : PE X a (tE (cf X T W) f)) (hb : PE X b (tE (cf X T W) g)) : PE X (.BinOp a .Mult b pos) (tE (cf X T W) (eBin opMulS f g)) := by
  refine ⟨fun pins s σ H Q I q => (pe_op (op_mulS.or ((op_rep1.or op_repT).or op_mulA)) ha hb).run pins s σ H Q I (tE_bin ?_ q)⟩
  intro H0 A m M H ρ σ P x y v w Q F rx ry h
  unfold opMulS at h
  split at h
  · rename_i z k
    split at h
    · rename_i hc
      exact .inl ⟨z, k, rx, ry, hc.1, hc.2.1, most_line hc.2.2, h.fin F rfl⟩
    · exact h.elim
  · exact .inr (ok_mulA H0 A m M H ρ σ P _ _ v w Q F rx ry h)
/-! a + b, a list of one's own -/
def catL (a b : Ev) : Option (List D) := match lstOf a, lstOf b with
  | some l, some l' => if l.length + l'.length ≤ most then some (l ++ l') else none
  | _, _ => none
def fCat (f g : Sm Ev) : Sm (List D) := fun ρ M => bnd (f ρ M) fun a M1 => bnd (g ρ M1) fun b M2 => optR (catL a b) M2
theorem df_cat (ha : PE X a (tE (cf X T W) f)) (hb : PE X b (tE (cf X T W) g)) : PE X (.BinOp a .Add b pos) (tF (cf X T W) (fCat f g)) := by
  refine ⟨fun pins s σ H Q I q => (pe_op op_cat ha hb).run pins s σ H Q I ?_⟩
  obtain ⟨H0, A, m, M, ρ, P, F, q⟩ := q
  refine subF F q fun x M1 H1 v F1 s1 r1 q1 => ?_
  have q1' : match bnd (g ρ M1) (fun b M2 => optR (catL x b) M2) with
      | .ok l M' => ∀ H' p vs, Stp m H1 H' → WR X.K m M' H' → LamX.Tabs T H' → ¬ Lv H1 p → H' p = some (.lst vs) → Rps X.K (p :: A) m H' l vs → Q (.ref p) H'
      | .exc c g M' => ∀ H' cls d, Stp m H1 H' → WR X.K m M' H' → LamX.Tabs T H' → XR X.mg H' c g cls d → W cls d σ H'
      | .stuck => False := by
    cases e : bnd (g ρ M1) (fun b M2 => optR (catL x b) M2) with
    | stuck => rw [e] at q1; exact q1
    | exc c g M' => rw [e] at q1; exact fun H' cls d s w t x => q1 H' cls d (s1.trans s) w t x
    | ok l M' =>
      rw [e] at q1
      exact fun H' p vs s w t n hp r => q1 H' p vs (s1.trans s) w t (fun z => by
        by_cases hm : p ∈ m
        · obtain ⟨o, e, mu⟩ := F1.wr.aok p hm; exact n ⟨o, e, muta_tbl mu⟩
        · exact n (s1.lv z hm)) hp r
  refine subF F1 q1' fun y M2 H2 w F2 s2 r2 q2 => ?_
  have r1' := EvR.step F1.wr.aok F1.ma s2 r1
  cases e : catL x y with
  | none => rw [e] at q2; exact q2.elim
  | some l =>
    rw [e] at q2
    unfold catL at e
    split at e
    · rename_i l1 l2 e1 e2
      split at e
      · rename_i hc
        cases e
        obtain ⟨a, vs, ea, hs, k1⟩ := lstOf_at e1 r1'
        obtain ⟨b, ws, eb, ht, k2⟩ := lstOf_at e2 r2
        exact ⟨a, b, vs, ws, ea, eb, hs, ht, by rw [Rps.len k1, Rps.len k2]; exact most_line hc, fun p hp => mk_new F1 F2 s2 (Rps.app k1 k2) hp q2⟩
      · cases e
    · cases e
end
end DL

set_option Elab.async false
set_option linter.all false
set_option maxRecDepth 100000
set_option maxHeartbeats 2000000
/-! The data layer: for .. in a list of one's own: if ..: return .. -/
namespace DL
open PySem PySem.Spec PyProof.Rows L2
section
variable {X : Cx} {T : List (Addr × Str)} {W : WX} {c iter tg : Expr} {p : List Stmt} {pos pos2 : Pos} {tc : Sm Bool} {fr : Ss}
def rtOnly : SR → SR
  | .rt d M' => .rt d M'
  | _ => .stuck
def forI (g : Tgt) (tc : Sm Bool) (fr : Ss) : List D → Ss
  | [] => fun ρ M => .nx ρ M
  | d :: r => fun ρ M => match tgE g ρ d with
    | some ρ1 => match tc ρ1 M with
      | .ok true M1 => rtOnly (fr ρ1 M1)
      | .ok false M1 => forI g tc fr r ρ1 M1
      | _ => .stuck
    | none => .stuck
def sForI (it : Sm (List D)) (g : Tgt) (tc : Sm Bool) (fr : Ss) : Ss := fun ρ M => sE (it ρ M) ρ fun items M1 => forI g tc fr items ρ M1
theorem ds_forI {it : Sm (List D)} {g : Tgt} (hp : PassesOwn (model X.prog X.w) X.A X.env X.xe) (hcalm : X.calm = true) (hi : PI X tg iter (tI (cf X T W) true it)) (hg : PG X tg (tgG X.K g)) (hc : PT X c (tT (cf X T W) tc)) (hb : PSs X p (tS (cf X T W) fr))
    (hs : ∀ x, foldedSetIterable iter X.env x = pure x := by intro _; rfl) : PS X (.For tg iter [.If c p [] pos2] [] pos) (tS (cf X T W) (sForI it g tc fr)) := by
  refine ⟨fun pins s σ H D I q => (ps_for hp hcalm hi hg (pss_one (ps_if hc hb pss_nil)) hs).run pins s σ H D I ?_⟩
  obtain ⟨H0, A, m, M, ρ, P, F, q⟩ := q
  refine ⟨H0, A, m, M, ρ, P, F, ?_⟩
  unfold sForI at q
  cases e : it ρ M with
  | stuck => rw [e] at q; exact q.elim
  | exc c g M1 =>
    rw [e] at q
    exact fun H1 cls d s w t x => q A H1 σ P cls d (Ext.step s F.ma) (F.step s w t) x
  | ok items M1 =>
    rw [e] at q
    intro J H1 s w t K
    have F1 := F.step s w t
    have q1 : PZ (cf X T W) H0 A m H1 (forI g tc fr items ρ M1) D := PZ.step (Ext.step s F.ma) q
    refine ⟨fun i k σ2 H2 => k + i = items.length ∧ ∃ M2 ρ2 P2, Stp m H1 H2 ∧ FR (cf X T W) H0 A m M2 H2 ρ2 σ2 P2 ∧ PZ (cf X T W) H0 A m H2 (forI g tc fr (items.drop i) ρ2 M2) D,
      ⟨items.length, by simp, M1, ρ, P, Stp.refl _ _, F1, by simpa using q1⟩, fun i k σ2 H2 h => ?_⟩
    obtain ⟨hk, M2, ρ2, P2, x2, F2, q2⟩ := h
    have hr : RchC A m H1 A H2 := ⟨fun a h => .inl h, fun a h => h, x2⟩
    cases k with
    | zero =>
      have hi : i = items.length := by omega
      subst hi
      rw [List.drop_length] at q2
      exact .inl ⟨K.stop A H2 hr, q2 A H2 σ2 P2 Ext.refl F2⟩
    | succ k =>
      have hi : i < items.length := by omega
      have ed : items.drop i = items[i] :: items.drop (i + 1) := List.drop_eq_getElem_cons hi
      rw [ed] at q2
      obtain ⟨hgo, hy⟩ := K.go A H2 hr i items[i] (List.getElem?_eq_getElem hi)
      refine .inr ⟨hgo, fun σ' H' => ∃ M3 ρ3 P3, Stp m H1 H' ∧ FR (cf X T W) H0 A m M3 H' ρ3 σ' P3 ∧ PZ (cf X T W) H0 A m H' (forI g tc fr (items.drop (i + 1)) ρ3 M3) D, fun σ' H' h => ⟨k, Nat.lt_succ_self k, by omega, h⟩, fun v H3 hv => ?_⟩
      obtain ⟨h3, r3⟩ := hy v H3 hv
      have F3 : FR (cf X T W) H0 A m M2 H3 ρ2 σ2 P2 ∧ Stp m H2 H3 := by
        rcases h3 with rfl | ⟨p, o, hp, rfl⟩
        · exact ⟨F2, Stp.refl _ _⟩
        · exact ⟨F2.grow hp, Stp.upd hp⟩
      have q3 := PZ.step (Ext.step F3.2 F2.ma) q2
      unfold forI at q3
      split at q3
      · rename_i ρ3 h3
        refine tg_run F3.1 r3 h3 fun σ' P' F' => ?_
        refine ⟨H0, A, m, M2, ρ3, P', F', ?_⟩
        cases e4 : tc ρ3 M2 with
        | stuck => rw [e4] at q3; exact q3.elim
        | exc c g M4 => rw [e4] at q3; exact q3.elim
        | ok b M4 =>
          rw [e4] at q3
          intro H4 v4 s4 w4 t4 r4
          cases (show b = v4 from r4)
          have F4 := F'.step s4 w4 t4
          cases b with
          | true =>
            refine ⟨H0, A, m, M4, ρ3, P', F4, ?_⟩
            have q4 : PZ (cf X T W) H0 A m H4 (rtOnly (fr ρ3 M4)) D := PZ.step (Ext.step s4 F'.ma) q3
            cases e5 : fr ρ3 M4 with
            | rt d M5 => rw [e5] at q4; exact q4
            | nx _ _ => rw [e5] at q4; exact q4.elim
            | bk _ _ => rw [e5] at q4; exact q4.elim
            | ct _ _ => rw [e5] at q4; exact q4.elim
            | exc _ _ _ _ => rw [e5] at q4; exact q4.elim
            | stuck => rw [e5] at q4; exact q4.elim
          | false =>
            exact ⟨M4, ρ3, P', (x2.trans F3.2).trans s4, F4, PZ.step (Ext.step s4 F'.ma) q3⟩
      · exact q3.elim
theorem forI_inv {g : Tgt} {tc : Sm Bool} {fr : Ss} (Inv : Nat → Env → Mem → Prop) : ∀ (items : List D) (k : Nat) (ρ : Env) (M : Mem),
    (∀ i d ρ M, items[i]? = some d → Inv (k + i) ρ M → ∃ ρ1 M', tgE g ρ d = some ρ1 ∧ tc ρ1 M = .ok false M' ∧ Inv (k + i + 1) ρ1 M') → Inv k ρ M → ∃ ρ' M', forI g tc fr items ρ M = .nx ρ' M' ∧ Inv (k + items.length) ρ' M'
  | [], k, ρ, M, _, h => ⟨ρ, M, rfl, h⟩
  | d :: r, k, ρ, M, hs, h => by
    obtain ⟨ρ1, M', e1, e2, h'⟩ := hs 0 d ρ M rfl h
    obtain ⟨ρ2, M2, e3, h2⟩ := forI_inv (fr := fr) Inv r (k + 1) ρ1 M' (fun i d ρ M hd hi => by
      have := hs (i + 1) d ρ M (by simpa using hd) (by rw [show k + (i + 1) = k + 1 + i by omega]; exact hi)
      rw [show k + (i + 1) + 1 = k + 1 + i + 1 by omega] at this
      exact this) h'
    refine ⟨ρ2, M2, ?_, by rw [List.length_cons, show k + (r.length + 1) = k + 1 + r.length by omega]; exact h2⟩
    simp only [forI, e1, e2, e3]
end
end DL

set_option Elab.async false
set_option linter.all false
set_option maxRecDepth 100000
set_option maxHeartbeats 2000000
/-! The data layer: own lists that are written no more; extend; lists compared; a dict of constants. -/
namespace DL
open PySem PySem.Spec PyProof.Rows L2
section
variable {X : Cx} {T : List (Addr × Str)} {W : WX} {st : Stmt} {a b c e : Expr} {es : List Expr} {pos p p2 : Pos} {f g : Ss} {fe : Sm Ev}
variable {K : PySem.W.Frag} {H0 H : Hp} {A A' m : List Addr}
theorem ER.frz : ∀ {ρ : Env} {σ : L2.St} {P : List Addr} {j : Nat} {l : List D}, ER K H0 A m H ρ σ P → P.Nodup → ρ[j]? = some (some (.ls .own l)) →
    ∃ a P', a ∈ P ∧ P'.Nodup ∧ (∀ x ∈ P', x ∈ P) ∧ a ∉ P' ∧ ∀ A', (∀ x ∈ A', x ∈ A) → a ∉ A' → ER K H0 A' m H (ρ.set j (some (.d (.lst l)))) σ P'
  | [], _, _, j, _, _, _, e => by simp at e
  | none :: ρ, σ, P, 0, _, _, _, e => by simp at e
  | none :: ρ, σ, P, j + 1, l, ⟨y, τ, eσ, h⟩, nd, e => by
    obtain ⟨a, P', h1, h2, h3, h4, h5⟩ := ER.frz (j := j) h nd (by simpa using e)
    exact ⟨a, P', h1, h2, h3, h4, fun A' k1 k2 => ⟨y, τ, eσ, h5 A' k1 k2⟩⟩
  | some z :: ρ, σ, P, 0, l, ⟨w, τ, P1, P2, eσ, eP, h1, h2⟩, nd, e => by
    simp at e; subst e
    obtain ⟨a, vs, ew, ha, e1, r⟩ := h1
    subst e1; subst eP
    have nd' := List.nodup_cons.mp nd
    exact ⟨a, P2, List.mem_cons_self, nd'.2, fun x hx => List.mem_cons_of_mem _ hx, nd'.1, fun A' k1 k2 => ⟨w, τ, [], P2, eσ, rfl, ⟨rfl, a, vs, ew, ha, k2, Rps.avoid (fun x hx => .inl (k1 x hx)) _ _ r⟩, ER.avoid (fun x hx => .inl (k1 x hx)) h2⟩⟩
  | some z :: ρ, σ, P, j + 1, l, ⟨w, τ, P1, P2, eσ, eP, h1, h2⟩, nd, e => by
    subst eP
    have nd' := List.nodup_append.mp nd
    obtain ⟨a, P', k1, k2, k3, k4, k5⟩ := ER.frz (j := j) h2 nd'.2.1 (by simpa using e)
    refine ⟨a, P1 ++ P', List.mem_append_right _ k1, ?_, fun x hx => ?_, fun hx => ?_, fun A' q1 q2 => ⟨w, τ, P1, P', eσ, rfl, SlR.avoid (fun x hx => .inl (q1 x hx)) h1, k5 A' q1 q2⟩⟩
    · exact List.nodup_append.mpr ⟨nd'.1, k2, fun x hx y hy => nd'.2.2 x hx y (k3 y hy)⟩
    · rcases List.mem_append.mp hx with hx | hx
      · exact List.mem_append_left _ hx
      · exact List.mem_append_right _ (k3 x hx)
    · rcases List.mem_append.mp hx with hx | hx
      · exact nd'.2.2 a hx a k1 rfl
      · exact k4 hx
/-- an own list is written no more -/
def sFz (j : Nat) : Ss := fun ρ M => match ρ[j]? with
  | some (some (.ls .own l)) => .nx (ρ.set j (some (.d (.lst l)))) M
  | _ => .stuck
theorem tS_frz {C : Cf} {j : Nat} {D : Ends} {σ : L2.St} (h : tS C (sSeq (sFz j) f) D σ H) : tS C f D σ H := by
  obtain ⟨H0, A, m, M, ρ, P, F, q⟩ := h
  unfold sSeq sFz at q
  by_cases hj : ∃ l, ρ[j]? = some (some (.ls .own l))
  · obtain ⟨l, hj⟩ := hj
    rw [hj] at q
    obtain ⟨a, P', h1, h2, h3, h4, h5⟩ := ER.frz F.er F.nd hj
    obtain ⟨o1, o2, o3⟩ := F.own a h1
    have sub : ∀ x ∈ A.filter (fun x => decide (x ≠ a)), x ∈ A := fun x hx => (List.mem_filter.mp hx).1
    have na : a ∉ A.filter (fun x => decide (x ≠ a)) := fun hx => by have := (List.mem_filter.mp hx).2; simp at this
    have inn : ∀ x ∈ A, x ≠ a → x ∈ A.filter (fun x => decide (x ≠ a)) := fun x hx ne => List.mem_filter.mpr ⟨hx, by simp [ne]⟩
    refine ⟨H0, A.filter (fun x => decide (x ≠ a)), m, M, ρ.set j (some (.d (.lst l))), P', ⟨F.wr, F.tb, h5 _ sub na, h2, fun x hx => ?_, fun x hx => inn x (F.ma x hx) fun z => o2 (by rw [← z]; exact hx), fun x hx => F.aok x (sub x hx), F.base⟩, PZ.step (Ext.less sub fun x hx lv => inn x hx fun z => o3 (by rw [← z]; exact lv)) q⟩
    obtain ⟨w1, w2, w3⟩ := F.own x (h3 x hx)
    exact ⟨inn x w1 fun z => h4 (by rw [← z]; exact hx), w2, w3⟩
  · exfalso
    revert q
    cases e : ρ[j]? with
    | none => exact fun q => q
    | some o => cases o with
      | none => exact fun q => q
      | some x => cases x with
        | ls md l => cases md with
          | own => exact (hj ⟨l, e⟩).elim
          | _ => exact fun q => q
        | _ => exact fun q => q
theorem ds_frz {j : Nat} (h : PS X st (tS (cf X T W) f)) : PS X st (tS (cf X T W) (sSeq (sFz j) f)) :=
  ⟨fun pins s σ H D I q => h.run pins s σ H D I (tS_frz q)⟩
/-- own.extend(e) -/
def extO (ρ : Env) (M : Mem) (j : Nat) (x : Ev) : SR := match lstOf x, ρ[j]? with
  | some l', some (some (.ls .own l)) => if l.length + l'.length ≤ most then .nx (ρ.set j (some (.ls .own (l ++ l')))) M else .stuck
  | _, _ => .stuck
def ownB (ρ : Env) (j : Nat) : Bool := match ρ[j]? with
  | some (some (.ls .own _)) => true
  | _ => false
def sExt (j : Nat) (fe : Sm Ev) : Ss := fun ρ M => if ownB ρ j = true then sE (fe ρ M) ρ fun x M1 => extO ρ M1 j x else .stuck
theorem ds_extend {j : Nat} {x : Str} {apos cpos : Pos} (he : PE X e (tE (cf X T W) fe)) (hN : X.N[j]? = some x := by rfl) (hv : Vis X.env.scope x := by first | exact Or.inl rfl | exact Or.inr (Or.inl rfl) | exact Or.inr (Or.inr rfl)) (hd : (x == ("__debug__" : Str)) = false := by decide)
    (hcd : (x == ("__classdict__" : Str)) = false := by decide) (hbase : attributeBase (.Name x p) "extend" X.env (eval (.Name x p) X.env) = eval (.Name x p) X.env := by rfl)
    (hfew : ((backTo cpos (starEach [e] X.env)).all (fun x => !x.1) && (backToKw cpos (keywordEach [] X.env)).all (fun x => x.1.isSome)
      && decide (([e] : List Expr).length + ([] : List Keyword).length + (if ([] : List Keyword).isEmpty then 0 else 1) < 30)) = true := by rfl)
    (hline : (apos.endLine == cpos.line) = true := by rfl) (hs : starEach [e] X.env = (false, eval e X.env) :: starEach [] X.env := by rfl) (hsw : swapsWith (.Call (.Attribute (.Name x p) "extend" apos) [e] [] cpos) none pos.line X.env = pure false := by rfl) :
    PS X (.Expr (.Call (.Attribute (.Name x p) "extend" apos) [e] [] cpos) pos) (tS (cf X T W) (sExt j fe)) := by
  refine ⟨fun pins s σ H Dn I q => (ps_expr (pe_bm PySem.F.plainAttrs_list PySem.F.slot_list_extend PySem.F.type_list_extend mt_extend (pe_var hN hv hd hcd) (pa_cons he pa_nil hs) hbase hfew hline hs rfl) hsw).run pins s σ H Dn I ?_⟩
  obtain ⟨H0, A, m, M, ρ, P, F, q⟩ := q
  have q : PZ (cf X T W) H0 A m H (if ownB ρ j = true then sE (fe ρ M) ρ fun x M1 => extO ρ M1 j x else .stuck) Dn := q
  by_cases hw : ownB ρ j = true
  · rw [if_pos hw] at q
    have first : ∃ l, ρ[j]? = some (some (.ls .own l)) := by
      unfold ownB at hw
      split at hw
      · rename_i l h; exact ⟨l, h⟩
      · cases hw
    obtain ⟨l, h⟩ := first
    obtain ⟨o, vs0, ho, hp0, _⟩ := F.ownL h
    refine ⟨_, ho, .inl ⟨rfl, vs0, SqL.of hp0⟩, ?_⟩
    refine subS F q fun y M1 H1 w F1 s1 r1 q1 => ?_
    unfold extO at q1
    rw [h] at q1
    cases hy : lstOf y with
    | none => rw [hy] at q1; exact q1.elim
    | some l' =>
      rw [hy] at q1
      have q1 : PZ (cf X T W) H0 A m H1 (if l.length + l'.length ≤ most then .nx (ρ.set j (some (.ls .own (l ++ l')))) M1 else .stuck) Dn := q1
      by_cases hc : l.length + l'.length ≤ most
      · rw [if_pos hc] at q1
        obtain ⟨bb, ws, ew, hb, r3⟩ := lstOf_at hy r1
        obtain ⟨p0, vs, e1, hp, hA, hm, r2, wt⟩ := F1.ownL h
        rw [ho] at e1; cases e1
        have F' := wt (l ++ l') (vs ++ ws) (Rps.app (Rps.self hp trivial hA r2) (Rps.self hp trivial hA r3))
        exact ⟨o, bb, vs, ws, rfl, by rw [ew], hp, hb, by rw [Rps.len r2, Rps.len r3]; exact most_line hc, q1 A _ σ P (Ext.write hA) F'⟩
      · rw [if_neg hc] at q1; exact q1.elim
  · rw [if_neg hw] at q; exact q.elim
end
end DL

set_option Elab.async false
set_option linter.all false
set_option maxRecDepth 100000
set_option maxHeartbeats 2000000
/-! The data layer: lists of ints compared; a dict of constants. -/
namespace DL
open PySem PySem.Spec PyProof.Rows L2
theorem firstLt_succ (e r : Nat → Bool) (fin : Bool) : ∀ l : List Nat, SeqAt.firstLt e r fin (l.map Nat.succ) = SeqAt.firstLt (fun j => e (j + 1)) (fun j => r (j + 1)) fin l
  | [] => rfl
  | j :: l => by
    show (if e (j + 1) = true then SeqAt.firstLt e r fin (l.map Nat.succ) else r (j + 1)) = if e (j + 1) = true then _ else _
    rw [firstLt_succ e r fin l]
theorem firstLt_ints : ∀ (ns ms : List Int), SeqAt.firstLt (fun j => decide (ns.getD j 0 = ms.getD j 0)) (fun j => decide (ns.getD j 0 < ms.getD j 0)) (decide (ns.length < ms.length)) (List.range (min ns.length ms.length)) = HT.lexLt ns ms
  | [], [] => rfl
  | [], m :: ms => by simp [SeqAt.firstLt, HT.lexLt_nil_cons]
  | n :: ns, [] => by simp [SeqAt.firstLt, HT.lexLt_cons_nil]
  | n :: ns, m :: ms => by
    rw [HT.lexLt_cons, List.length_cons, List.length_cons, Nat.succ_min_succ, List.range_succ_eq_map]
    show (if decide (n = m) = true then SeqAt.firstLt _ _ _ _ else decide (n < m)) = _
    rw [firstLt_succ]
    by_cases e : n = m
    · subst e
      rw [if_pos (by simp), if_pos rfl]
      have := firstLt_ints ns ms
      simpa using this
    · rw [if_neg (by simpa using e), if_neg e]
theorem intsAre_get : ∀ {us : List Value} {ns : List Int}, IntsAre us ns → ∀ j (h : j < us.length), ∃ t, us[j] = .int (ns.getD j 0) t
  | _, _, .nil, j, h => by simp at h
  | _, _, .cons a t r, 0, h => ⟨t, rfl⟩
  | _, _, .cons a t r, j + 1, h => by
    obtain ⟨u, e⟩ := intsAre_get r j (by simpa using h)
    exact ⟨u, by simpa using e⟩
def rLtL : R2 := fun x y H Q => ∃ a b ns ms, x = .ref a ∧ y = .ref b ∧ H a = some (.lst (ns.map V.int)) ∧ H b = some (.lst (ms.map V.int)) ∧ Q (.bl (HT.lexLt ns ms)) H
theorem op_ltL {X : Cx} (hu : X.A.units < cLine) : OpR X (compareOp .Lt) rLtL := by
  intro pins s σ H x y v u Q I rx ry h
  obtain ⟨a, b, ns, ms, rfl, rfl, ha, hb, q⟩ := h
  cases rx
  cases ry
  obtain ⟨z, its, n, r, hl, e⟩ := I.lstM ha
  obtain ⟨z2, its2, n2, r2, hl2, e2⟩ := I.lstM hb
  have i1 : IntsAre its ns := L2.intsAre_of r
  have i2 : IntsAre its2 ms := L2.intsAre_of r2
  have k := SeqAt.RcLt.lists (A := X.A) (s := s) (l := a) (b := b) (items := its.toArray) (items2 := its2.toArray) (e := fun j => decide (ns.getD j 0 = ms.getD j 0)) (r := fun j => decide (ns.getD j 0 < ms.getD j 0)) ⟨_, e, rfl, _, rfl⟩ ⟨_, e2, rfl, _, rfl⟩ hu
    (fun j h1 h2 => by
      obtain ⟨t, e1⟩ := intsAre_get i1 j (by simpa using h1)
      obtain ⟨t', e1'⟩ := intsAre_get i2 j (by simpa using h2)
      have e3 : its.toArray[j] = .int (ns.getD j 0) t := by simpa using e1
      have e4 : its2.toArray[j] = .int (ms.getD j 0) t' := by simpa using e1'
      rw [e3, e4]
      obtain ⟨k, hk, hk2⟩ := HT.eqAt_int X.A.in1 s (ns.getD j 0) t (ms.getD j 0) t'
      have : decide (ns.getD j 0 = ms.getD j 0) = k := by
        cases k
        · exact decide_eq_false fun z => by have := hk2.mpr z; cases this
        · exact decide_eq_true (hk2.mp rfl)
      rw [this]; exact hk)
    (fun j h1 h2 _ => by
      obtain ⟨t, e1⟩ := intsAre_get i1 j (by simpa using h1)
      obtain ⟨t', e1'⟩ := intsAre_get i2 j (by simpa using h2)
      have e3 : its.toArray[j] = .int (ns.getD j 0) t := by simpa using e1
      have e4 : its2.toArray[j] = .int (ms.getD j 0) t' := by simpa using e1'
      rw [e3, e4]
      exact fun prog w E Q h => HT.rcLt_int _ s _ _ _ _ prog w E Q h)
  have l1 : its.toArray.size = ns.length := by rw [List.size_toArray]; exact i1.length
  have l2 : its2.toArray.size = ms.length := by rw [List.size_toArray]; exact i2.length
  rw [l1, l2, firstLt_ints] at k
  exact k _ _ _ _ ⟨.bl (HT.lexLt ns ms), H, I, rfl, q⟩
def opLtX (a b : Ev) (M : Mem) : R Ev := match a, b with
  | .d (.lst s), .d (.lst t) => match toInts s, toInts t with
    | some ns, some ms => .ok (bv (HT.lexLt ns ms)) M
    | _, _ => .stuck
  | a, b => opLt a b M
theorem ok_ltX {C : Cf} : OpOk C opLtX (fun x y H Q => (rI0 (fun i j => .bl (decide (i < j))) x y H Q ∨ (∃ i j, x = .str i ∧ y = .str j ∧ Q (.bl (decide (i.cps.toList < j.cps.toList))) H) ∨ rLtT C.K x y H Q) ∨ rLtL x y H Q) := by
  intro H0 A m M H ρ σ P x y v w Q F rx ry h
  unfold opLtX at h
  split at h
  · rename_i s t
    split at h
    · rename_i ns ms e1 e2
      have es := toInts_map e1
      have et := toInts_map e2
      subst es; subst et
      obtain ⟨a, vs, e, hs, _, r1⟩ := rx
      obtain ⟨b, ws, e', ht, _, r2⟩ := ry
      rw [Rps.ints r1] at hs
      rw [Rps.ints r2] at ht
      exact .inr ⟨a, b, ns, ms, e, e', hs, ht, h.fin F rfl⟩
    · exact h.elim
  · exact .inl (ok_lt H0 A m M H ρ σ P _ _ v w Q F rx ry h)
theorem ci_ltX {X : Cx} {T : List (Addr × Str)} {W : WX} (hu : X.A.units + 64 < cLine) : CmpIs X T W .Lt opLtX := ⟨_, (op_ltA hu).or (op_ltL (by omega)), ok_ltX⟩
/-! {"a": 1, ..} of three constants -/
theorem de_disp3 {X : Cx} {T : List (Addr × Str)} {W : WX} {k1 k2 k3 : Str} {i1 i2 i3 : Int} {a1 a2 a3 b1 b2 b3 : Nat} {p1 p2 p3 q1 q2 q3 pos : Pos} (hd : (mergeK [] [(.inr k1, .int i1), (.inr k2, .int i2), (.inr k3, .int i3)] : List (Key × V)) = [(.inr k1, .int i1), (.inr k2, .int i2), (.inr k3, .int i3)] := by rfl) :
    PE X (.Dict [some (.Constant (.str k1) a1 p1), some (.Constant (.str k2) a2 p2), some (.Constant (.str k3) a3 p3)] [.Constant (.int i1) b1 q1, .Constant (.int i2) b2 q2, .Constant (.int i3) b3 q3] pos) (tE (cf X T W) (eC (.dK [.inr k1, .inr k2, .inr k3] [.int i1, .int i2, .int i3]))) := by
  refine ⟨fun pins s σ H Q I q => (pe_disp (pps_cons pe_str pe_int (pps_cons pe_str pe_int (pps_cons pe_str pe_int pps_nil))) rfl rfl (by simp) (by simp)).run pins s σ H Q I ?_⟩
  obtain ⟨H0, A, m, M, ρ, P, F, q⟩ := q
  intro p hp
  refine ⟨upd_same, [(.inr k1, .int i1), (.inr k2, .int i2), (.inr k3, .int i3)], rfl, by show 3 ≤ 15; omega, ?_⟩
  rw [hd, upd_upd]
  exact q.made F hp ⟨p, [(.inr k1, .int i1), (.inr k2, .int i2), (.inr k3, .int i3)], rfl, upd_same, rfl, F.new hp, ⟨_, _, rfl, rfl, _, _, rfl, rfl, _, _, rfl, rfl, rfl⟩⟩
end DL

set_option Elab.async false
set_option linter.all false
set_option maxRecDepth 100000
set_option maxHeartbeats 2000000
/-! The data layer: a def whose code object is told; a sign in a text. -/
namespace DL
open PySem PySem.Spec PyProof.Rows L2
section
variable {P : Program} {w : World} {K : PySem.W.Frag} {mg : Str → Option Value} {base : Heap} {T : List (Addr × Str)}
theorem dn_code {x : Str} {params : Arguments} {body : List Stmt} {scope : Scope} {f c : Addr} {fd : FuncData} {N ps : List Str} {k : Nat} {g : Ss} (F : FunD K x x params body scope [] [] f fd) (hc : fd.code = .ref c) (hx : mg x = some (.ref f)) (hb : Binds K fd ps []) (S : FnScope N ps scope)
    (hbody : ∀ (A : Around) (outer : List PySem.Env) (s : Shared) (H : Hp) (E : XK), Room k (A.deeper (envOfC x scope s.heap.objs.size f (.ref c))) →
      PSs (cxOf (L2.CX P w) P w K mg base N x scope f (.ref c) A outer s H E) body (tS ⟨K, mg, T, wE E⟩ g)) : Dn P w K mg base T (k + 1) x ps.length (fnOf N.length g) :=
  ⟨f, fd, ps, rfl, fnOk_code F hc S (fun vs H Q E h => h.1) (fun A outer s H vs Q E hr h => ⟨_, hbody A outer s H E hr, fn_start (C := ⟨K, mg, T, wE E⟩) rfl h⟩), hx, F.kp, hb⟩
end
/-- a sign in a text -/
def opInS (a b : Ev) (M : Mem) : R Ev := match a, b with
  | .d (.str x), .d (.str z) => match x.cps.toList with
    | [c] => .ok (bv (decide (c ∈ z.cps.toList))) M
    | _ => .stuck
  | _, _ => .stuck
theorem ok_inS {C : Cf} : OpOk C opInS (fun x y H Q => ∃ (c : Nat) (z : Str), x = .str ⟨#[c]⟩ ∧ y = .str z ∧ Q (.bl (decide (c ∈ z.cps.toList))) H) := by
  intro H0 A m M H ρ σ P x y v w Q F rx ry h
  unfold opInS at h
  split at h
  · rename_i x z
    split at h
    · rename_i c hc
      have : x = ⟨#[c]⟩ := by
        cases x with
        | mk cps =>
          congr
          apply Array.ext'
          simpa using hc
      subst this
      exact ⟨c, z, rx, ry, h.fin F rfl⟩
    · exact h.elim
  · exact h.elim
theorem ci_inS {X : Cx} {T : List (Addr × Str)} {W : WX} : CmpIs X T W .In opInS := ⟨_, op_in_sign, ok_inS⟩
/-! a text so many times, none too -/
theorem op_mulN {X : Cx} : OpR X (binaryOp .Mult) (fun x y H Q => ∃ z k, x = .str z ∧ y = .int k ∧ k ≤ 0 ∧ -1000000 ≤ k ∧ Q (.str ⟨#[]⟩) H) := by
  intro pins s σ H x y v u Q I rx ry h
  obtain ⟨z, k, rfl, rfl, k1, k2, q⟩ := h
  obtain ⟨t, rfl⟩ := rx
  obtain ⟨t', rfl⟩ := ry
  exact P.mul_str_none (by omega) (by omega) ⟨.str Str.empty, H, I.tok _, ⟨_, rfl⟩, q⟩
def opMulS2 (a b : Ev) (M : Mem) : R Ev := match a, b with
  | .d (.str z), .d (.int k) => if k ≤ 0 ∧ -1000000 ≤ k then .ok (.d (.str ⟨#[]⟩)) M else if 1 ≤ k ∧ k ≤ 1000000 ∧ z.length * k.toNat ≤ most then .ok (.d (.str (repS z k))) M else .stuck
  | a, b => opMulA a b M
theorem de_mulS2 {X : Cx} {T : List (Addr × Str)} {W : WX} {a b : Expr} {pos : Pos} {f g : Sm Ev} (ha : PE X a (tE (cf X T W) f)) (hb : PE X b (tE (cf X T W) g)) : PE X (.BinOp a .Mult b pos) (tE (cf X T W) (eBin opMulS2 f g)) := by
  refine ⟨fun pins s σ H Q I q => (pe_op (op_mulN.or (op_mulS.or ((op_rep1.or op_repT).or op_mulA))) ha hb).run pins s σ H Q I (tE_bin ?_ q)⟩
  intro H0 A m M H ρ σ P x y v w Q F rx ry h
  unfold opMulS2 at h
  split at h
  · rename_i z k
    split at h
    · rename_i hc
      exact .inl ⟨z, k, rx, ry, hc.1, hc.2, h.fin F rfl⟩
    · split at h
      · rename_i hc
        exact .inr (.inl ⟨z, k, rx, ry, hc.1, hc.2.1, most_line hc.2.2, h.fin F rfl⟩)
      · exact h.elim
  · exact .inr (.inr (ok_mulA H0 A m M H ρ σ P _ _ v w Q F rx ry h))
end DL

set_option Elab.async false
set_option linter.all false
set_option maxRecDepth 100000
set_option maxHeartbeats 2000000
/-! The data layer: what was caught, looked at; how many of a list are True, which one is the first. -/
namespace DL
open PySem PySem.Spec PyProof.Rows L2
section
variable {X : Cx} {T : List (Addr × Str)} {W : WX}
/-- a part whose reading asks nothing can be: it is not reached -/
def eNo : Sm Ev := fun _ _ => .stuck
theorem de_no {e : Expr} : PE X e (tE (cf X T W) eNo) := ⟨fun pins s σ H Q I q => by
  obtain ⟨H0, A, m, M, ρ, P, F, q⟩ := q
  exact q.elim⟩
/-- isinstance of what was caught (it stands at a, in the slot i) -/
def eIsX (a : Addr) (i : Nat) (b : Bool) : Sm Ev := fun ρ M => match ρ[i]? with
  | some (some (.d (.at a'))) => if a' = a then .ok (.d (.bl b)) M else .stuck
  | _ => .stuck
theorem de_isX {a D CB : Addr} {oe : Obj} {pn : List (Addr × Obj)} {i : Nat} {x bn : Str} {b : Bool} {p5 p6 p7 p8 : Pos} (ec : ExcC X.K D) (hz : Zc (.ref D) none oe) (hf : ∃ vs, oe.data = .fields vs)
    (ek : PySem.W.kitOne X.K (.ref D) (.ref CB) = some b) (m3 : X.mg bn = some (.ref CB)) (m2 : X.mg "isinstance" = none) (hN : X.N[i]? = some x := by rfl) (hx : Vis X.env.scope x := by first | exact Or.inl rfl | exact Or.inr (Or.inl rfl) | exact Or.inr (Or.inr rfl))
    (h2 : Gl X "isinstance" := by rfl) (h3 : Gl X bn := by rfl) (d1 : (x == ("__debug__" : Str)) = false := by decide) (d2 : (x == ("__classdict__" : Str)) = false := by decide) (d3 : (bn == ("__debug__" : Str)) = false := by decide) :
    PE (X.suite a ((a, oe) :: pn)) (.Call (.Name "isinstance" p5) [.Name x p6, .Name bn p7] [] p8) (tE (cf X T W) (eIsX a i b)) := by
  have he := pe_callB (X := X.suite a ((a, oe) :: pn)) (id := "isinstance") (x := "isinstance") (p := p5) (pos := p8) (e := .Name x p6) (es := [.Name bn p7]) (call_isE (a := a) (D := D) (oe := oe) (pn := pn) ec hz hf) h2 m2 rfl
    (pa_cons (pe_var (i := i) (x := x) hN hx d1 d2) (pa_cons (pe_glob (v := V.ref CB) h3 m3 rfl d3) pa_nil)) (by decide +kernel) (by decide +kernel) rfl rfl
  refine ⟨fun pins s σ H Q I q => he.run pins s σ H Q I ?_⟩
  obtain ⟨H0, A, m, M, ρ, P, F, q⟩ := q
  unfold eIsX at q
  split at q
  · rename_i a' h
    split at q
    · rename_i e
      subst e
      obtain ⟨u, P1, g1, g2, _⟩ := ER.get F.er h
      have e2 : u = .ref a' := g2.2
      subst e2
      exact ⟨.ref a', g1, .ref CB, .ref CB, b, rfl, fun u hu => hu, ek, q H (.bl b) (Stp.refl _ _) F.wr F.tb rfl⟩
    · exact q.elim
  · exact q.elim
/-- the same, of a class that Python brings -/
theorem de_isT {a D : Addr} {oe : Obj} {pn : List (Addr × Obj)} {i : Nat} {x bn : Str} {n : String} {b : Bool} {p5 p6 p7 p8 : Pos} (ec : ExcC X.K D) (hz : Zc (.ref D) none oe) (hf : ∃ vs, oe.data = .fields vs)
    (ek : PySem.W.kitOne X.K (.ref D) (.type n) = some b) (m3 : X.mg bn = none) (m2 : X.mg "isinstance" = none) (hb : bootBuiltins bn = some (.type n)) (hN : X.N[i]? = some x := by rfl) (hx : Vis X.env.scope x := by first | exact Or.inl rfl | exact Or.inr (Or.inl rfl) | exact Or.inr (Or.inr rfl))
    (h2 : Gl X "isinstance" := by rfl) (h3 : Gl X bn := by rfl) (hn : bn ≠ "__name__" := by decide) (d1 : (x == ("__debug__" : Str)) = false := by decide) (d2 : (x == ("__classdict__" : Str)) = false := by decide) (d3 : (bn == ("__debug__" : Str)) = false := by decide) :
    PE (X.suite a ((a, oe) :: pn)) (.Call (.Name "isinstance" p5) [.Name x p6, .Name bn p7] [] p8) (tE (cf X T W) (eIsX a i b)) := by
  have he := pe_callB (X := X.suite a ((a, oe) :: pn)) (id := "isinstance") (x := "isinstance") (p := p5) (pos := p8) (e := .Name x p6) (es := [.Name bn p7]) (call_isE (a := a) (D := D) (oe := oe) (pn := pn) ec hz hf) h2 m2 rfl
    (pa_cons (pe_var (i := i) (x := x) hN hx d1 d2) (pa_cons (pe_bltn (v := V.ty n) h3 m3 hb rfl hn d3) pa_nil)) (by decide +kernel) (by decide +kernel) rfl rfl
  refine ⟨fun pins s σ H Q I q => he.run pins s σ H Q I ?_⟩
  obtain ⟨H0, A, m, M, ρ, P, F, q⟩ := q
  unfold eIsX at q
  split at q
  · rename_i a' h
    split at q
    · rename_i e
      subst e
      obtain ⟨u, P1, g1, g2, _⟩ := ER.get F.er h
      have e2 : u = .ref a' := g2.2
      subst e2
      exact ⟨.ref a', g1, .ty n, .type n, b, rfl, fun u hu => hu, ek, q H (.bl b) (Stp.refl _ _) F.wr F.tb rfl⟩
    · exact q.elim
  · exact q.elim
/-! ### truths in a list -/
theorem vals_bl : ∀ {bs : List Bool} {its : List Value}, Vals (bs.map V.bl) its → its = bs.map Value.bool
  | [], _, h => by cases h; rfl
  | b :: bs, _, h => by
    cases h with
    | cons r rs =>
      have e : _ = Value.bool b := r
      rw [e, vals_bl rs]; rfl
def isTr : Value → Bool
  | .bool b => b
  | _ => false
theorem countTr : ∀ bs : List Bool, (bs.map Value.bool).countP isTr = bs.count true
  | [] => rfl
  | b :: bs => by
    rw [List.map_cons, List.countP_cons, countTr bs, List.count_cons]
    cases b <;> rfl
def rCountB : V → List V → Hp → VK → Prop := fun x vs H Q => ∃ (l : Addr) (bs : List Bool), x = .ref l ∧ vs = [.bl true] ∧ H l = some (.lst (bs.map V.bl)) ∧ Q (.int ((bs.count true : Nat) : Int)) H
theorem mt_countB : MtR X "list.count" rCountB := by
  intro pins s σ H x vs v us Q I rx rv h
  obtain ⟨l, bs, rfl, rfl, hH, q⟩ := h
  cases rx
  obtain ⟨u, rfl, ru⟩ := rv.one
  have eu : u = .bool true := ru
  subst eu
  obtain ⟨z, its, n, r, hl, e⟩ := I.lstM hH
  have ei := vals_bl r
  subst ei
  refine call_meets PySem.F.slot_list_count ⟨_, e, rfl⟩ PySem.F.entry_list_count (PySem.F.args_list_count_2 _ _) (SeqAt.list_countAt l (bs.map Value.bool).toArray n none #[] (.bool true) isTr) ⟨e, fun y hy => ?_, ?_⟩
  · have hy' : y ∈ bs.map Value.bool := by simpa using hy
    obtain ⟨b, _, rfl⟩ := List.mem_map.mp hy'
    have k := SeqAt.EqAt.bool_bool (A := X.A.in1) (s := s) b true
    cases b <;> exact k
  · rw [show (bs.map Value.bool).toArray.toList = bs.map Value.bool from rfl, countTr]
    exact ⟨.int ((bs.count true : Nat) : Int), H, I.tok _, ⟨_, rfl⟩, q⟩
def rIndexB : V → List V → Hp → VK → Prop := fun x vs H Q => ∃ (l : Addr) (bs : List Bool), x = .ref l ∧ vs = [.bl true] ∧ H l = some (.lst (bs.map V.bl)) ∧ true ∈ bs ∧ Q (.int ((bs.idxOf true : Nat) : Int)) H
theorem mt_indexB : MtR X "list.index" rIndexB := by
  intro pins s σ H x vs v us Q I rx rv h
  obtain ⟨l, bs, rfl, rfl, hH, hb, q⟩ := h
  cases rx
  obtain ⟨u, rfl, ru⟩ := rv.one
  have eu : u = .bool true := ru
  subst eu
  obtain ⟨z, its, n, r, hl, e⟩ := I.lstM hH
  have ei := vals_bl r
  subst ei
  refine SeqAt.call_list_index (ks := bs) (k := true) (vs := bs.map Value.bool) ⟨_, e, rfl, n, rfl⟩ ⟨by simp, fun j h1 h2 => ?_⟩ (by simpa using z) hb ⟨.int ((bs.idxOf true : Nat) : Int), H, I.tok _, ⟨_, rfl⟩, q⟩
  simp only [List.getElem_map]
  generalize bs[j] = b
  have k := SeqAt.EqAt.bool_bool (A := X.A.in1) (s := s) b true
  cases b <;> exact k
def boolsOf : List D → Option (List Bool)
  | [] => some []
  | .bl b :: l => match boolsOf l with
    | some bs => some (b :: bs)
    | none => none
  | _ => none
theorem boolsOf_rp {K : PySem.W.Frag} {A m : List Addr} {H : Hp} : ∀ {l : List D} {bs : List Bool} {vs : List V}, boolsOf l = some bs → Rps K A m H l vs → vs = bs.map V.bl
  | [], _, _, e, h => by cases e; exact h
  | .bl b :: l, bs, vs, e, h => by
    obtain ⟨v, r, rfl, h1, h2⟩ := h
    unfold boolsOf at e
    cases e1 : boolsOf l with
    | none => rw [e1] at e; cases e
    | some bs' =>
      rw [e1] at e; cases e
      rw [boolsOf_rp e1 h2, show v = .bl b from h1]; rfl
  | .non :: _, _, _, e, _ => by cases e
  | .int _ :: _, _, _, e, _ => by cases e
  | .str _ :: _, _, _, e, _ => by cases e
  | .ty _ :: _, _, _, e, _ => by cases e
  | .at _ :: _, _, _, e, _ => by cases e
  | .ob _ :: _, _, _, e, _ => by cases e
  | .sc _ :: _, _, _, e, _ => by cases e
  | .tup _ :: _, _, _, e, _ => by cases e
  | .lst _ :: _, _, _, e, _ => by cases e
  | .dK _ _ :: _, _, _, e, _ => by cases e
  | .dT _ _ :: _, _, _, e, _ => by cases e
/-- the truths of the list in a slot -/
def slB (ρ : Env) (i : Nat) : Option (List Bool) := match ρ[i]? with
  | some (some (.ls .own l)) => boolsOf l
  | some (some (.d (.lst l))) => boolsOf l
  | _ => none
theorem slB_rp {C : Cf} {H0 H : Hp} {A m : List Addr} {M : Mem} {ρ : Env} {σ : L2.St} {P : List Addr} {i : Nat} {bs : List Bool} (F : FR C H0 A m M H ρ σ P) (h : slB ρ i = some bs) : ∃ p, σ[i]? = some (some (.ref p)) ∧ H p = some (.lst (bs.map V.bl)) := by
  unfold slB at h
  split at h
  · rename_i l e
    obtain ⟨p, vs, e1, hp, _, _, r, _⟩ := F.ownL e
    exact ⟨p, e1, by rw [hp, boolsOf_rp h r]⟩
  · rename_i l e
    obtain ⟨v, P1, q1, q2, _⟩ := ER.get F.er e
    obtain ⟨_, p, vs, rfl, hp, _, r⟩ := q2
    exact ⟨p, q1, by rw [hp, boolsOf_rp h r]⟩
  · cases h
def eCntT (i : Nat) : Sm Ev := fun ρ M => match slB ρ i with
  | some bs => .ok (.d (.int ((bs.count true : Nat) : Int))) M
  | none => .stuck
def eIdxT (i : Nat) : Sm Ev := fun ρ M => match slB ρ i with
  | some bs => if true ∈ bs then .ok (.d (.int ((bs.idxOf true : Nat) : Int))) M else .stuck
  | none => .stuck
theorem de_cntT {i j : Nat} {x : Str} {p q apos cpos : Pos} (hN : X.N[i]? = some x := by rfl) (hv : Vis X.env.scope x := by first | exact Or.inl rfl | exact Or.inr (Or.inl rfl) | exact Or.inr (Or.inr rfl)) (hd : (x == ("__debug__" : Str)) = false := by decide)
    (hcd : (x == ("__classdict__" : Str)) = false := by decide) (hbase : attributeBase (.Name x p) "count" X.env (eval (.Name x p) X.env) = eval (.Name x p) X.env := by rfl)
    (hfew : ((backTo cpos (starEach [(.Constant (.bool true) j q : Expr)] X.env)).all (fun x => !x.1) && (backToKw cpos (keywordEach [] X.env)).all (fun x => x.1.isSome)
      && decide (([(.Constant (.bool true) j q : Expr)] : List Expr).length + ([] : List Keyword).length + (if ([] : List Keyword).isEmpty then 0 else 1) < 30)) = true := by rfl)
    (hline : (apos.endLine == cpos.line) = true := by rfl) :
    PE X (.Call (.Attribute (.Name x p) "count" apos) [.Constant (.bool true) j q] [] cpos) (tE (cf X T W) (eCntT i)) := by
  refine ⟨fun pins s σ H Q I q => (pe_bm PySem.F.plainAttrs_list PySem.F.slot_list_count PySem.F.type_list_count mt_countB (pe_var hN hv hd hcd) (pa_cons pe_bl pa_nil) hbase hfew hline rfl rfl).run pins s σ H Q I ?_⟩
  obtain ⟨H0, A, m, M, ρ, P, F, q⟩ := q
  unfold eCntT at q
  split at q
  · rename_i bs h
    obtain ⟨p, e1, hp⟩ := slB_rp F h
    exact ⟨.ref p, e1, .inl ⟨rfl, _, SqL.of hp⟩, p, bs, rfl, rfl, hp, q H (.int _) (Stp.refl _ _) F.wr F.tb rfl⟩
  · exact q.elim
theorem de_idxT {i j : Nat} {x : Str} {p q apos cpos : Pos} (hN : X.N[i]? = some x := by rfl) (hv : Vis X.env.scope x := by first | exact Or.inl rfl | exact Or.inr (Or.inl rfl) | exact Or.inr (Or.inr rfl)) (hd : (x == ("__debug__" : Str)) = false := by decide)
    (hcd : (x == ("__classdict__" : Str)) = false := by decide) (hbase : attributeBase (.Name x p) "index" X.env (eval (.Name x p) X.env) = eval (.Name x p) X.env := by rfl)
    (hfew : ((backTo cpos (starEach [(.Constant (.bool true) j q : Expr)] X.env)).all (fun x => !x.1) && (backToKw cpos (keywordEach [] X.env)).all (fun x => x.1.isSome)
      && decide (([(.Constant (.bool true) j q : Expr)] : List Expr).length + ([] : List Keyword).length + (if ([] : List Keyword).isEmpty then 0 else 1) < 30)) = true := by rfl)
    (hline : (apos.endLine == cpos.line) = true := by rfl) :
    PE X (.Call (.Attribute (.Name x p) "index" apos) [.Constant (.bool true) j q] [] cpos) (tE (cf X T W) (eIdxT i)) := by
  refine ⟨fun pins s σ H Q I q => (pe_bm PySem.F.plainAttrs_list PySem.F.slot_list_index PySem.F.type_list_index mt_indexB (pe_var hN hv hd hcd) (pa_cons pe_bl pa_nil) hbase hfew hline rfl rfl).run pins s σ H Q I ?_⟩
  obtain ⟨H0, A, m, M, ρ, P, F, q⟩ := q
  unfold eIdxT at q
  split at q
  · rename_i bs h
    obtain ⟨p, e1, hp⟩ := slB_rp F h
    split at q
    · rename_i hb
      exact ⟨.ref p, e1, .inl ⟨rfl, _, SqL.of hp⟩, p, bs, rfl, rfl, hp, hb, q H (.int _) (Stp.refl _ _) F.wr F.tb rfl⟩
    · exact q.elim
  · exact q.elim
end
end DL

set_option Elab.async false
set_option linter.all false
set_option maxRecDepth 100000
set_option maxHeartbeats 2000000
/-! The data layer: a lambda handed to a def that calls it and tells a word of what it raised. -/
namespace DL
open PySem PySem.Spec PyProof.Rows L2
/-- of which classes what was raised is; all such are ValueErrors -/
def FlOk (K : PySem.W.Frag) (mg : Str → Option Value) (Dc : Addr) (fl : List (Str × Bool)) : Prop :=
  PySem.W.kitOne K (.ref Dc) (.type "ValueError") = some true ∧ ∀ p ∈ fl, ∃ CB, mg p.1 = some (.ref CB) ∧ PySem.W.kitOne K (.ref Dc) (.ref CB) = some p.2
def flAt (fl : List (Str × Bool)) (i : Nat) : Bool := (fl.getD i ("", false)).2
theorem fl_at {K : PySem.W.Frag} {mg : Str → Option Value} {Dc : Addr} {fl : List (Str × Bool)} {names : List Str} (h : FlOk K mg Dc fl) (hn : fl.map (·.1) = names) {i : Nat} {x : Str} (hi : names[i]? = some x) : ∃ CB, mg x = some (.ref CB) ∧ PySem.W.kitOne K (.ref Dc) (.ref CB) = some (flAt fl i) := by
  rw [← hn, List.getElem?_map] at hi
  cases e : fl[i]? with
  | none => rw [e] at hi; cases hi
  | some p =>
    rw [e] at hi
    have ex : p.1 = x := by simpa using hi
    obtain ⟨CB, k1, k2⟩ := h.2 p (List.mem_of_getElem? e)
    rw [ex] at k1
    have e2 : flAt fl i = p.2 := by unfold flAt; rw [List.getD_eq_getElem?_getD, e]; rfl
    exact ⟨CB, k1, by rw [e2]; exact k2⟩
/-- the frame as the suite begins -/
def rhoX (n i : Nat) (a : Addr) : Env := (List.replicate n none).set i (some (.d (.at a)))
theorem er_one {K : PySem.W.Frag} {H0 H : Hp} {A m : List Addr} {a : Addr} : ∀ {n i : Nat} {σ : L2.St}, σ.length = n → (i < n → σ[i]? = some (some (.ref a))) → ER K H0 A m H (rhoX n i a) σ []
  | 0, i, σ, h, _ => by
    have e : σ = [] := List.eq_nil_of_length_eq_zero h
    subst e
    cases i <;> exact ⟨rfl, rfl⟩
  | n + 1, 0, [], h, _ => by cases h
  | n + 1, i + 1, [], h, _ => by cases h
  | n + 1, 0, y :: τ, h, h1 => by
    have e : y = some (.ref a) := by simpa using h1 (Nat.succ_pos n)
    subst e
    refine ⟨.ref a, τ, [], [], rfl, rfl, ⟨rfl, rfl⟩, ?_⟩
    have z : ∀ {τ : L2.St} {n : Nat}, τ.length = n → ER K H0 A m H (List.replicate n none) τ [] := by
      intro τ
      induction τ with
      | nil => intro n e; subst e; exact ⟨rfl, rfl⟩
      | cons y τ ih => intro n e; subst e; exact ⟨y, τ, rfl, ih rfl⟩
    exact z (by simpa using h)
  | n + 1, i + 1, y :: τ, h, h1 => ⟨y, τ, rfl, er_one (n := n) (i := i) (by simpa using h) fun hi => by simpa using h1 (Nat.succ_lt_succ hi)⟩
theorem isX_at {a : Addr} {i : Nat} {b : Bool} {ρ : Env} {M : Mem} (h : ρ[i]? = some (some (.d (.at a)))) : eIsX a i b ρ M = .ok (.d (.bl b)) M := by
  unfold eIsX
  rw [h]
  exact if_pos rfl
/-- found = told / try: call() / except pe as error: found = .. / return found -/
def TTw (K : PySem.W.Frag) (T : List (Addr × Str)) (CS : Addr) (told : Str) (ok : Addr → Str → Prop) : (XK → Hp → VK → Prop) → Hp → VK → Prop := fun tl H Q =>
  tl (fun cls d H' => d = none ∧ ∃ Dc wd, cls = .ref Dc ∧ ExcC K Dc ∧ PySem.W.exmOne K cls (.ref CS) = some true ∧ ok Dc wd ∧ LamX.Tabs T H' ∧ ∀ H'', Stp [] H' H'' → LamX.Tabs T H'' → Q (.str wd) H'') H (fun _ H' => Q (.str told) H')
/-- the word for what was raised -/
def wdOk (K : PySem.W.Frag) (mg : Str → Option Value) (n i j : Nat) (g : Addr → List (Str × Bool) → Ss) (names : List Str) (Dc : Addr) (wd : Str) : Prop :=
  ∃ fl, fl.map (·.1) = names ∧ FlOk K mg Dc fl ∧ ∀ a, ∃ ρ1, g a fl (rhoX n i a) [] = .nx ρ1 [] ∧ ρ1[j]? = some (some (.d (.str wd)))
section
variable {X : Cx} {T : List (Addr × Str)} {W : WX}
theorem word_gives {N : List Str} {x ca fo er pe told q : Str} {sg : Scope} {g CS : Addr} {cdg : Value} {j0 i j : Nat} {b₀ : Stmt} {suite : List Stmt} {gW : Addr → List (Str × Bool) → Ss} {names : List Str} {p0 p00 p1 p2 p3 p4 p10 p11 p12 p13 p14 : Pos} (h1 : sg.names.lookup pe = some .globalImplicit) (m1 : X.mg pe = some (.ref CS)) (d1 : (pe == ("__debug__" : Str)) = false)
    (nd : N.Nodup) (n0 : N[0]? = some ca) (nj : N[j]? = some fo) (ni : N[i]? = some er) (hj : sg.names.lookup fo = some .local) (hi : sg.names.lookup er = some .local) (dj : (fo == ("__debug__" : Str)) = false) (dj' : (fo == ("__classdict__" : Str)) = false) (j1 : 0 < j) (ij : i ≠ j)
    (hsu : ∀ (s : Shared) (H : Hp) (a Dc : Addr) (oe : Obj) (pn : List (Addr × Obj)) (fl : List (Str × Bool)), ExcC X.K Dc → Zc (.ref Dc) none oe → (∃ vs, oe.data = .fields vs) → FlOk X.K X.mg Dc fl → fl.map (·.1) = names →
      PSs (((cxOf C8.CX0 X.prog X.w X.K X.mg X.base N x sg g cdg X.A X.stack s H C8.E0).nox).suite a ((a, oe) :: pn)) (b₀ :: suite) (tS (cf (cxOf C8.CX0 X.prog X.w X.K X.mg X.base N x sg g cdg X.A X.stack s H C8.E0).nox T (fun _ _ _ _ => False)) (gW a fl))) :
    LamX.GivesTo X N x sg g cdg [.Assign [.Name fo p0] (.Constant (.str told) j0 p00) p14, .Try [.Expr (.Call (.Name ca p1) [] [] p2) p3] [.ExceptHandler (some (.Name pe p4)) (some er) (b₀ :: suite) p10] [] [] p11, .Return (some (.Name fo p12)) p13] ca q
      (TTw X.K T CS told (wdOk X.K X.mg N.length i j gW names)) := by
  intro f c' s H Q tl act hc h
  have hgl : Gl (cxOf C8.CX0 X.prog X.w X.K X.mg X.base N x sg g cdg X.A X.stack s H C8.E0).nox pe := h1
  refine ⟨_, pss_cons (ps_set (X := (cxOf C8.CX0 X.prog X.w X.K X.mg X.base N x sg g cdg X.A X.stack s H C8.E0).nox) (i := j) nd nj (Or.inl hj) pe_str (hf := .inr hj)) (pss_cons (ps_try_as (X := (cxOf C8.CX0 X.prog X.w X.K X.mg X.base N x sg g cdg X.A X.stack s H C8.E0).nox) (i := i) (c := .ref CS)
      (tb := fun W D σ H => ∃ Ech : XK, (∀ cls d σ' H', Ech cls d H' → W cls d σ' H') ∧ σ[0]? = some (some (.ref f)) ∧ H c' = some (LamX.CodeO c' q) ∧ tl Ech H (fun _ H' => D.nx σ H'))
      (ts := fun a cls d D σ H => (i < σ.length → σ[i]? = some (some (.ref a))) ∧ d = none ∧ ∃ Dc wd, cls = .ref Dc ∧ ExcC X.K Dc ∧ wdOk X.K X.mg N.length i j gW names Dc wd ∧ LamX.Tabs T H ∧ ∀ (σ' : L2.St) H'', Stp [] H H'' → LamX.Tabs T H'' → σ'[j]? = some (some (.str wd)) → D.nx σ' H'') (Wout := fun _ _ _ _ => False)
      rfl rfl nd ni hi ⟨hgl, d1, .inl m1⟩ takes0 (fun W pn xe tk _ => ?_) (fun a oe cls d pn hz hf => ?_)) (pss_one (ps_ret (pe_var nj (Or.inl hj) dj dj')))), ?_⟩
  · refine pss_one ⟨fun pins s' σ H' D I h' => ?_⟩
    obtain ⟨Ech, hW, k1, k2, k3⟩ := h'
    have hp := act W pn xe Ech p1 p2 tk hW
    exact (ps_expr (pos := p3) hp).run pins s' σ H' D I ⟨k1, k2, k3⟩
  · refine ⟨fun pins s' σ H' D I h' => ?_⟩
    obtain ⟨k1, rfl, Dc, wd, rfl, ec, ⟨fl, hnm, hfl, hev⟩, kt, kq⟩ := h'
    have hl : σ.length = N.length := I.len
    refine (hsu s H a Dc oe pn fl ec hz hf hfl hnm).run pins s' σ H' D I ?_
    obtain ⟨ρ1, e1, e2⟩ := hev a
    refine ⟨H', [], [], [], rhoX N.length i a, [], ⟨⟨rfl, List.nodup_nil, fun n a o e => by simp at e⟩, kt, er_one hl (fun hi => k1 (by rw [hl]; exact hi)), List.nodup_nil, fun a h => (nomatch h), fun a h => (nomatch h), fun a h => (nomatch h), Stp.refl _ _⟩, ?_⟩
    rw [e1]
    intro A' H'' σ' P' ext F'
    obtain ⟨v, P1, g1, g2, _⟩ := ER.get F'.er e2
    have e3 : v = .str wd := g2.2
    subst e3
    exact kq σ' H'' ext.keep F'.tb g1
  · have hlen : (L2.start N [V.ref f]).length = N.length := by
      cases N with
      | nil => cases n0
      | cons n N => unfold L2.start; simp
    have hjl : j < N.length := (List.getElem?_eq_some_iff.mp nj).1
    refine ⟨fun cls d H' => d = none ∧ ∃ Dc wd, cls = .ref Dc ∧ ExcC X.K Dc ∧ PySem.W.exmOne X.K cls (.ref CS) = some true ∧ wdOk X.K X.mg N.length i j gW names Dc wd ∧ LamX.Tabs T H' ∧ ∀ H'', Stp [] H' H'' → LamX.Tabs T H'' → Q (.str wd) H'',
      fun cls d σ' H' ⟨e1, Dc, wd, e2, e3, e4, e5, e6, e7⟩ => ⟨true, e4, fun _ a _ => ⟨fun hl => List.getElem?_set_self (by simpa using hl), e1, Dc, wd, e2, e3, e5, e6, fun σ1 H'' st tb e => ⟨.str wd, by rw [List.getElem?_set_ne ij]; exact e, e7 H'' st tb⟩⟩, fun z => by cases z⟩, ?_, hc, ?_⟩
    · show ((L2.start N [V.ref f]).set j _)[0]? = _
      rw [List.getElem?_set_ne (by omega)]; rfl
    · have e : ((L2.start N [V.ref f]).set j (some (.str told)))[j]? = some (some (.str told)) := List.getElem?_set_self (by rw [hlen]; exact hjl)
      have e4 : (fun (_ : V) (H' : Hp) => ∃ v, ((L2.start N [V.ref f]).set j (some (.str told)))[j]? = some (some v) ∧ Q v H') = fun _ H' => Q (.str told) H' := by
        funext _ H'
        refine propext ⟨fun ⟨v, e', z⟩ => ?_, fun z => ⟨_, e, z⟩⟩
        rw [e] at e'; cases e'; exact z
      unfold TTw at h
      rw [← e4] at h
      exact h
/-- the word that the call tells -/
def eWord (tw : Str → Option Str) (told : Str) (fb : Sm Ev) : Sm Ev := fun ρ M => match fb ρ M with
  | .ok _ M1 => .ok (.d (.str told)) M1
  | .exc c none M1 => match tw c with
    | some wd => .ok (.d (.str wd)) M1
    | none => .stuck
  | _ => .stuck
theorem de_word {x ca told : Str} {st : Stmt} {g CS c P : Addr} {fd : FuncData} {k : Nat} {params : Arguments} {body : Expr} {scope : Scope} {fb : Sm Ev} {tw : Str → Option Str} {N : List Str} {ok : Addr → Str → Prop} {p lpos pos : Pos} (Fr : FunD X.K x x (defArgs st) (defBody st) (defScope st) [] [] g fd) (hm : X.mg x = some (.ref g)) (hb : Binds X.K fd [ca] [])
    (Sg : FnScope N [ca] (defScope st)) (n0 : N[0]? = some ca) (h5 : (defScope st).names.lookup ca = some .local)
    (gives : LamX.GivesTo X N x (defScope st) g fd.code (defBody st) ca (X.env.qual ++ "<lambda>") (TTw X.K T CS told ok))
    (hx : ∀ c wd, tw c = some wd → ∃ Dc, X.mg c = some (.ref Dc) ∧ ExcC X.K Dc ∧ PySem.W.exmOne X.K (.ref Dc) (.ref CS) = some true ∧ ok Dc wd)
    (TB : LamX.TabB X.base X.mg c P) (hcode : X.env.code = .ref c) (hT : T = [(P, X.env.qual ++ "<lambda>")]) (hr : Room (k + 2) X.A) (hg : Gl X x)
    (hlam : ∀ (A : Around) (outer : List PySem.Env) (s : Shared) (H : Hp) (E : XK) (f c' : Addr), Room k (A.deeper (LamX.lamEnv X scope s.heap.objs.size f c')) → PE (LamX.lamCx X A outer s H E scope f c') body (tE (cf (LamX.lamCx X A outer s H E scope f c') T (wE E)) fb))
    (L : LamX.LamS X.env.scope scope) (hdef : defaultsOf params X.env = ([], []) := by rfl) (hbind : ∀ (q : Str) (cl : List (Str × Addr)) (pm cv ctv : Value), bindArgs (PySem.W.kla_fn "<lambda>" q params body scope cl pm cv ctv) ⟨[], []⟩ = pure [] := by intros; rfl)
    (hdb : (x == ("__debug__" : Str)) = false := by decide) (hda : (ca == ("__debug__" : Str)) = false := by decide) (hdc : (ca == ("__classdict__" : Str)) = false := by decide) :
    PE X (.Call (.Name x p) [.Lambda params body scope lpos] [] pos) (tE (cf X T W) (eWord tw told fb)) := by
  obtain ⟨oc, od, dV, kV, doc, pm, an, cdv, ct, osl, rfl, lk, hcd, hD, _⟩ := Fr.ex
  rcases hD with ⟨_, rfl⟩ | ⟨e, _⟩
  · refine ⟨fun pins s σ H Q I q => (LamX.pe_lamcall (T := T) (TT := TTw X.K T CS told ok) (a := ca) (Ng := N) (k := k) (t := fun E => tE ⟨X.K, X.mg, T, wE E⟩ fb) hg hm Fr.kp lk hcd hb Sg n0 (Or.inl h5) gives TB hcode (by rw [hT]; exact List.mem_cons_self) (fun r hr _ => by
        rw [hT] at hr; rw [List.mem_singleton.mp hr]) hr L hdef hbind hlam hdb hda hdc).run pins s σ H Q I ?_⟩
    obtain ⟨H0, A, m, M, ρ, P', F, q⟩ := q
    refine ⟨F.tb, fun H1 en t1 => ?_⟩
    have s1 : Stp m H H1 := fun a o e _ t => en a o e t
    have F1 : FR ⟨X.K, X.mg, T, W⟩ H0 A m M H1 ρ σ P' := F.step s1 (F.wr.step en) t1
    refine ⟨H0, A, m, M, ρ, P', F1.wish rfl rfl, ?_⟩
    unfold eWord at q
    cases e : fb ρ M with
    | stuck => rw [e] at q; exact q.elim
    | ok x M1 =>
      rw [e] at q
      exact fun H' v s w t r => q H' (.str told) (s1.trans s) w t rfl
    | exc c' g' M1 =>
      rw [e] at q
      cases g' with
      | some _ => exact q.elim
      | none =>
        cases e2 : tw c' with
        | none =>
          have q' : PX (cf X T W) m σ (relE X.K H0 A m) H (match tw c' with | some b => .ok (.d (.str b)) M1 | none => .stuck) Q := q
          rw [e2] at q'; exact q'.elim
        | some b =>
          have q' : PX (cf X T W) m σ (relE X.K H0 A m) H (match tw c' with | some b => .ok (.d (.str b)) M1 | none => .stuck) Q := q
          rw [e2] at q'
          intro H' cls d s w t hxr
          obtain ⟨C', hC, rfl, hd⟩ := hxr
          obtain ⟨Dc, g1, g2, g3, g4⟩ := hx c' b e2
          have g1' : X.mg c' = some (.ref C') := hC
          rw [g1] at g1'; cases g1'
          exact ⟨hd, _, b, rfl, g2, g3, g4, t, fun H'' st tb => q' H'' (.str b) (s1.trans (s.trans (st.mono fun _ h => nomatch h))) (w.step fun a o e tt => st a o e (fun h => nomatch h) tt) tb rfl⟩
  · exact absurd rfl e
end
/-! // by what is below 0, of any size -/
def cDivX (_ j : Int) : Prop := j < 0 ∧ j.natAbs.log2 < 9000
instance (i j : Int) : Decidable (cDivX i j) := by unfold cDivX; infer_instance
theorem op_fdivX {X : Cx} : OpR X (binaryOp .FloorDiv) (rI cDivX fun i j => .int (i.fdiv j)) := opI fun i j _ _ _ _ _ hc q => by
  have h1 : j < 0 := hc.1
  exact floordiv_int (by omega) q (.inl (PyProof.noPylong_of_log2 hc.2))
def opDivX (a b : Ev) (M : Mem) : R Ev := match a, b with
  | .d (.int i), .d (.int j) => if cDiv i j then .ok (iv (i / j)) M else if cDivX i j then .ok (iv (i.fdiv j)) M else .stuck
  | _, _ => .stuck
theorem ok_divX {C : Cf} : OpOk C opDivX (fun x y H Q => rI CDivW (fun i j => .int (i / j)) x y H Q ∨ rI cDivX (fun i j => .int (i.fdiv j)) x y H Q) := by
  intro H0 A m M H ρ σ P x y v w Q F rx ry h
  unfold opDivX at h
  split at h
  · rename_i i j
    split at h
    · rename_i hc
      exact .inl ⟨i, j, rx, ry, hc, h.fin F rfl⟩
    · split at h
      · rename_i hc
        exact .inr ⟨i, j, rx, ry, hc, h.fin F rfl⟩
      · exact h.elim
  · exact h.elim
theorem de_divX {X : Cx} {T : List (Addr × Str)} {W : WX} {a b : Expr} {pos : Pos} {f g : Sm Ev} (ha : PE X a (tE (cf X T W) f)) (hb : PE X b (tE (cf X T W) g)) : PE X (.BinOp a .FloorDiv b pos) (tE (cf X T W) (eBin opDivX f g)) := de_op (op_fdivW.or op_fdivX) ok_divX ha hb
end DL

set_option Elab.async false
set_option linter.all false
set_option maxRecDepth 100000
set_option maxHeartbeats 2000000
/-! The data layer: the greater one of a pair. -/
namespace DL
open PySem PySem.Spec PyProof.Rows L2
section
variable {X : Cx} {T : List (Addr × Str)} {W : WX}
def rMaxT (K : PySem.W.Frag) : List V → Hp → VK → Prop := fun vs H Q => ∃ (a : Addr) (i j : Int), vs = [V.ref a] ∧ SqT K H a [V.int i, V.int j] ∧ Q (.int (if i < j then j else i)) H
theorem call_maxT (hc : X.calm = true) (hu : X.A.units + 64 < cLine) : CallR X (.builtin "max") (rMaxT X.K) := by
  intro pins s σ H vs us Q I r h
  obtain ⟨a, i, j, rfl, hs, q⟩ := h
  obtain ⟨its, rv, hl, _⟩ := I.tuple hs
  rw [Vals.ref1 r]
  have hi : ∃ t u, its = [.int i t, .int j u] := by
    cases rv with
    | cons r1 r2 =>
      cases r2 with
      | cons r3 r4 =>
        cases r4
        obtain ⟨t, rfl⟩ := r1
        obtain ⟨u, rfl⟩ := r3
        exact ⟨t, u, rfl⟩
  obtain ⟨t, u, rfl⟩ := hi
  refine PySem.W.max_tuple_datum (x := i) (xs := [j]) (I.ok.hd hc) hl (PySem.W.HoldAll.cons (PySem.W.holds_int i t) (PySem.W.HoldAll.cons (PySem.W.holds_int j u) PySem.W.HoldAll.nil)) ?_ fun n v h' tk hn hv hk => ?_
  · show X.A.units + 1 + 0 < cLine
    omega
  · obtain ⟨t', rfl⟩ := PySem.W.int_of_holds hv
    refine ⟨.int _, H, I.kept hk, ⟨_, rfl⟩, ?_⟩
    have e : PySem.W.maxOf i [j] = if i < j then j else i := by
      show (if decide (i < j) = true then j else i) = _
      by_cases k : i < j <;> simp [k]
    rw [e]; exact q
def bMaxX (xs : List Ev) (M : Mem) : R Ev := match xs with
  | [.d (.tup [.int i, .int j])] => .ok (iv (if i < j then j else i)) M
  | xs => bMax xs M
theorem bi_maxX (hc : X.calm = true) (hu : X.A.units + 64 < cLine) : BIs X T W (.builtin "max") bMaxX := by
  obtain ⟨r, h1, h2⟩ := bi_max (X := X) (T := T) (W := W) hc
  refine ⟨_, (call_maxT hc hu).or h1, ?_⟩
  intro H0 A m M H ρ σ P xs vs Q F ra h
  unfold bMaxX at h
  split at h
  · rename_i i j
    obtain ⟨v, rfl, r1⟩ := Paired.one ra
    obtain ⟨a, ws, rfl, hp, r2⟩ := r1
    obtain ⟨v1, w1, rfl, e1, v2, w2, rfl, e2, e3⟩ := r2
    have e1' : v1 = .int i := e1
    have e2' : v2 = .int j := e2
    have e3' : w2 = [] := e3
    subst e1' e2' e3'
    exact .inl ⟨a, i, j, rfl, SqT.of hp, h.fin F rfl⟩
  · exact .inr (h2 H0 A m M H ρ σ P _ vs Q F ra h)
end
end DL

set_option Elab.async false
set_option linter.all false
set_option maxRecDepth 100000
set_option maxHeartbeats 2000000
/-! The data layer: two places of a list stored at once. -/
namespace DL
open PySem PySem.Spec PyProof.Rows L2
def kE (d : D) : Sm Ev := fun _ M => .ok (.d d) M
/-- v[a], v[b] = x, y -/
def sPut2 (j : Nat) (fa fb fe : Sm Ev) : Ss := fun ρ M => sE (fe ρ M) ρ fun z M1 => match z with
  | .d (.tup [d1, d2]) => if D.bare d2 = true then sSeq (sPut j fa (kE d1)) (sPut j fb (kE d2)) ρ M1 else .stuck
  | _ => .stuck
section
variable {X : Cx} {T : List (Addr × Str)} {W : WX}
theorem put_go {C : Cf} {H0 H : Hp} {A m : List Addr} {M : Mem} {ρ : Env} {σ : L2.St} {P : List Addr} {j : Nat} {d : D} {v : V} {fi : Sm Ev} {Dn : Ends} (F : FR C H0 A m M H ρ σ P) (r : Rp C.K A m H d v) (q : PZ C H0 A m H (sPut j fi (kE d) ρ M) Dn) :
    gSub (tVar j) (tE C fi) rSetL v σ H Dn.nx := by
  unfold sPut kE at q
  simp only [sE] at q
  split at q
  · rename_i z hz
    obtain ⟨o, P1, h1, _, _⟩ := ER.get F.er hz
    refine ⟨o, h1, ?_⟩
    refine subS F q fun y M2 H2 w F2 s2 r2 q2 => ?_
    unfold put2 at q2
    split at q2
    · rename_i d' k hd
      cases hd
      obtain ⟨o', h2, q3⟩ := put_run F2 (Rp.step F.wr.aok F.ma s2 _ _ r) q2
      rw [h1] at h2; cases h2
      rw [show w = V.int k from r2]
      exact q3
    · exact q2.elim
  · exact q.elim
/-- the ends with another one behind -/
theorem PZ.nxto {C : Cf} {H0 H : Hp} {A m : List Addr} {r : SR} {D D' : Ends} (h : PZ C H0 A m H r D) (h1 : ∀ ρ' M' A' H' σ' P', r = .nx ρ' M' → Ext H0 A H A' H' → FR C H0 A' m M' H' ρ' σ' P' → D.nx σ' H' → D'.nx σ' H') (h2 : D'.bk = D.bk) (h3 : D'.ct = D.ct) (h4 : D'.rt = D.rt) : PZ C H0 A m H r D' := by
  cases r with
  | nx ρ M => exact fun A' H' σ' P' e F => h1 _ _ _ _ _ _ rfl e F (h A' H' σ' P' e F)
  | bk ρ M => exact fun A' H' σ' P' e F => by rw [h2]; exact h A' H' σ' P' e F
  | ct ρ M => exact fun A' H' σ' P' e F => by rw [h3]; exact h A' H' σ' P' e F
  | rt d M => exact fun H' v w t s q => by rw [h4]; exact h H' v w t s q
  | exc c f ρ M => exact h
  | stuck => exact h
theorem PZ.seq {C : Cf} {H0 H : Hp} {A m : List Addr} {M : Mem} {ρ : Env} {f g : Ss} {D D' : Ends} (h : PZ C H0 A m H (sSeq f g ρ M) D) (h1 : ∀ ρ' M' A' H' σ' P', f ρ M = .nx ρ' M' → Ext H0 A H A' H' → FR C H0 A' m M' H' ρ' σ' P' → PZ C H0 A' m H' (g ρ' M') D → D'.nx σ' H') (h2 : D'.bk = D.bk) (h3 : D'.ct = D.ct) (h4 : D'.rt = D.rt) : PZ C H0 A m H (f ρ M) D' := by
  unfold sSeq at h
  cases e : f ρ M with
  | nx ρ' M' =>
    rw [e] at h
    exact fun A' H' σ' P' ext F => h1 _ _ _ _ _ _ e ext F (PZ.step ext h)
  | bk ρ' M' => rw [e] at h; exact fun A' H' σ' P' e F => by rw [h2]; exact h A' H' σ' P' e F
  | ct ρ' M' => rw [e] at h; exact fun A' H' σ' P' e F => by rw [h3]; exact h A' H' σ' P' e F
  | rt d M' => rw [e] at h; exact fun H' v w t s q => by rw [h4]; exact h H' v w t s q
  | exc c f ρ' M' => rw [e] at h; exact h
  | stuck => rw [e] at h; exact h
theorem ds_put2 {j : Nat} {x : Str} {ia ib e : Expr} {fa fb fe : Sm Ev} {p p' p2 p2' p3 pos : Pos} {kk : Nat} (he : PE X e (tE (cf X T W) fe)) (hia : PE X ia (tE (cf X T W) fa)) (hib : PE X ib (tE (cf X T W) fb)) (hc : X.calm = true := by rfl) (hN : X.N[j]? = some x := by rfl) (hv : Vis X.env.scope x := by first | exact Or.inl rfl | exact Or.inr (Or.inl rfl) | exact Or.inr (Or.inr rfl)) (hd : (x == ("__debug__" : Str)) = false := by decide)
    (hcd : (x == ("__classdict__" : Str)) = false := by decide) (hs : swapsWithSole [.Tuple [.Subscript (.Name x p) ia p2, .Subscript (.Name x p') ib p2'] kk p3] e pos.line X.env = pure false := by rfl) (hw : swappedStores [.Tuple [.Subscript (.Name x p) ia p2, .Subscript (.Name x p') ib p2'] kk p3] e X.env = pure none := by rfl)
    (h1 : (assignEach [.Tuple [.Subscript (.Name x p) ia p2, .Subscript (.Name x p') ib p2'] kk p3] X.env).map (·.2) = [assign (.Tuple [.Subscript (.Name x p) ia p2, .Subscript (.Name x p') ib p2'] kk p3) X.env] := by rfl)
    (hn : (assignEach [.Subscript (.Name x p) ia p2, .Subscript (.Name x p') ib p2'] X.env).length = 2 := by rfl) (hst : (assignEach [.Subscript (.Name x p) ia p2, .Subscript (.Name x p') ib p2'] X.env).findIdx? (·.1) = none := by rfl)
    (ha1 : ∀ v, assign (.Subscript (.Name x p) ia p2) X.env v = (do
      let ov ← holding [v] (eval (.Name x p) X.env)
      let iv ← holding [v, ov] (eval ia X.env)
      standAt p2
      holding [v, ov, iv] (setItem ov iv v)
      release [v, ov, iv] []) := by intro _; rfl)
    (ha2 : ∀ v, assign (.Subscript (.Name x p') ib p2') X.env v = (do
      let ov ← holding [v] (eval (.Name x p') X.env)
      let iv ← holding [v, ov] (eval ib X.env)
      standAt p2'
      holding [v, ov, iv] (setItem ov iv v)
      release [v, ov, iv] []) := by intro _; rfl)
    (g1 : (assignEach [.Subscript (.Name x p) ia p2, .Subscript (.Name x p') ib p2'] X.env).map (·.2) = assign (.Subscript (.Name x p) ia p2) X.env :: (assignEach [.Subscript (.Name x p') ib p2'] X.env).map (·.2) := by rfl)
    (g2 : (assignEach [.Subscript (.Name x p') ib p2'] X.env).map (·.2) = assign (.Subscript (.Name x p') ib p2') X.env :: (assignEach [] X.env).map (·.2) := by rfl) :
    PS X (.Assign [.Tuple [.Subscript (.Name x p) ia p2, .Subscript (.Name x p') ib p2'] kk p3] e pos) (tS (cf X T W) (sPut2 j fa fb fe)) := by
  refine ⟨fun pins s σ H Dn I q => (ps_asg he (pg_tup hc (pgs_cons (pg_sub (pe_var hN hv hd hcd) hia set_list ha1) (pgs_cons (pg_sub (pe_var hN hv hd hcd) hib set_list ha2) pgs_nil g2) g1) hn hst) hs hw h1).run pins s σ H Dn I ?_⟩
  obtain ⟨H0, A, m, M, ρ, P, F, q⟩ := q
  refine subS F q fun z M1 H1 v F1 s1 r1 q1 => ?_
  split at q1
  · rename_i d1 d2
    split at q1
    · rename_i hb
      obtain ⟨a, vs, rfl, hp, v1, w1, rfl, r2, v2, w2, rfl, r3, r4⟩ := r1
      have e4 : w2 = [] := r4
      subst e4
      refine ⟨a, [v1, v2], rfl, SqT.of hp, rfl, v1, [v2], rfl, ?_⟩
      refine put_go (C := cf X T W) (Dn := { Dn with nx := fun σ' H' => gCons (gSub (tVar j) (tE (cf X T W) fb) rSetL) gNil [v2] σ' H' Dn.nx }) F1 r2 (PZ.seq q1 (fun ρ' M' A' H' σ' P' e ext F' q2 => ?_) rfl rfl rfl)
      refine ⟨v2, [], rfl, ?_⟩
      have r3' : Rp X.K A' m H' d2 v2 := Rp.bare d2 v2 hb (Rp.step (B := A) F1.aok (fun _ h => h) ext.keep _ _ r3)
      exact put_go (C := cf X T W) (Dn := { Dn with nx := fun σ' H' => gNil [] σ' H' Dn.nx }) F' r3' (PZ.nxto q2 (fun _ _ _ _ _ _ _ _ _ h => ⟨rfl, h⟩) rfl rfl rfl)
    · exact q1.elim
  · exact q1.elim
end
end DL

set_option Elab.async false
set_option linter.all false
set_option maxRecDepth 100000
set_option maxHeartbeats 2000000
/-! The data layer: a lambda handed to a def that gives what it gives, or a word of what it raised. -/
namespace DL
open PySem PySem.Spec PyProof.Rows L2
/-- a statement that is not reached -/
def sNo : Ss := fun _ _ => .stuck
/-- try: return call() / except pe as e: .. return .. -/
def TTs (K : PySem.W.Frag) (T : List (Addr × Str)) (CS : Addr) (ok : Addr → Str → Prop) : (XK → Hp → VK → Prop) → Hp → VK → Prop := fun tl H Q =>
  tl (fun cls d H' => d = none ∧ ∃ Dc wd, cls = .ref Dc ∧ ExcC K Dc ∧ PySem.W.exmOne K cls (.ref CS) = some true ∧ ok Dc wd ∧ LamX.Tabs T H' ∧ ∀ H'', Stp [] H' H'' → LamX.Tabs T H'' → Q (.str wd) H'') H (fun v H' => Q v H')
/-- the word for what was raised, returned by the suite -/
def sdOk (K : PySem.W.Frag) (mg : Str → Option Value) (n i : Nat) (g : Addr → List (Str × Bool) → Ss) (names : List Str) (Dc : Addr) (wd : Str) : Prop :=
  ∃ fl, fl.map (·.1) = names ∧ FlOk K mg Dc fl ∧ ∀ a, g a fl (rhoX n i a) [] = .rt (.str wd) []
section
variable {X : Cx} {T : List (Addr × Str)} {W : WX}
theorem ds_no {st : Stmt} : PS X st (tS (cf X T W) sNo) := ⟨fun pins s σ H D I q => by
  obtain ⟨H0, A, m, M, ρ, P, F, q⟩ := q
  exact q.elim⟩
theorem said_gives {N : List Str} {x ca er pe q : Str} {sg : Scope} {g CS : Addr} {cdg : Value} {i : Nat} {b₀ : Stmt} {suite : List Stmt} {gW : Addr → List (Str × Bool) → Ss} {names : List Str} {p1 p2 p3 p4 p10 p11 : Pos} (h1 : sg.names.lookup pe = some .globalImplicit) (m1 : X.mg pe = some (.ref CS)) (d1 : (pe == ("__debug__" : Str)) = false)
    (nd : N.Nodup) (n0 : N[0]? = some ca) (ni : N[i]? = some er) (hi : sg.names.lookup er = some .local)
    (hsu : ∀ (s : Shared) (H : Hp) (a Dc : Addr) (oe : Obj) (pn : List (Addr × Obj)) (fl : List (Str × Bool)), ExcC X.K Dc → Zc (.ref Dc) none oe → (∃ vs, oe.data = .fields vs) → FlOk X.K X.mg Dc fl → fl.map (·.1) = names →
      PSs (((cxOf C8.CX0 X.prog X.w X.K X.mg X.base N x sg g cdg X.A X.stack s H C8.E0).nox).suite a ((a, oe) :: pn)) (b₀ :: suite) (tS (cf (cxOf C8.CX0 X.prog X.w X.K X.mg X.base N x sg g cdg X.A X.stack s H C8.E0).nox T (fun _ _ _ _ => False)) (gW a fl))) :
    LamX.GivesTo X N x sg g cdg [.Try [.Return (some (.Call (.Name ca p1) [] [] p2)) p3] [.ExceptHandler (some (.Name pe p4)) (some er) (b₀ :: suite) p10] [] [] p11] ca q
      (TTs X.K T CS (sdOk X.K X.mg N.length i gW names)) := by
  intro f c' s H Q tl act hc h
  have hgl : Gl (cxOf C8.CX0 X.prog X.w X.K X.mg X.base N x sg g cdg X.A X.stack s H C8.E0).nox pe := h1
  refine ⟨_, pss_one (ps_try_as (X := (cxOf C8.CX0 X.prog X.w X.K X.mg X.base N x sg g cdg X.A X.stack s H C8.E0).nox) (i := i) (c := .ref CS)
      (tb := fun W D σ H => ∃ Ech : XK, (∀ cls d σ' H', Ech cls d H' → W cls d σ' H') ∧ σ[0]? = some (some (.ref f)) ∧ H c' = some (LamX.CodeO c' q) ∧ tl Ech H (fun v H' => D.rt v H'))
      (ts := fun a cls d D σ H => (i < σ.length → σ[i]? = some (some (.ref a))) ∧ d = none ∧ ∃ Dc wd, cls = .ref Dc ∧ ExcC X.K Dc ∧ sdOk X.K X.mg N.length i gW names Dc wd ∧ LamX.Tabs T H ∧ ∀ H'', Stp [] H H'' → LamX.Tabs T H'' → D.rt (.str wd) H'') (Wout := fun _ _ _ _ => False)
      rfl rfl nd ni hi ⟨hgl, d1, .inl m1⟩ takes0 (fun W pn xe tk _ => ?_) (fun a oe cls d pn hz hf => ?_)), ?_⟩
  · refine pss_one ⟨fun pins s' σ H' D I h' => ?_⟩
    obtain ⟨Ech, hW, k1, k2, k3⟩ := h'
    have hp := act W pn xe Ech p1 p2 tk hW
    exact (ps_ret (pos := p3) hp).run pins s' σ H' D I ⟨k1, k2, k3⟩
  · refine ⟨fun pins s' σ H' D I h' => ?_⟩
    obtain ⟨k1, rfl, Dc, wd, rfl, ec, ⟨fl, hnm, hfl, hev⟩, kt, kq⟩ := h'
    have hl : σ.length = N.length := I.len
    refine (hsu s H a Dc oe pn fl ec hz hf hfl hnm).run pins s' σ H' D I ?_
    refine ⟨H', [], [], [], rhoX N.length i a, [], ⟨⟨rfl, List.nodup_nil, fun n a o e => by simp at e⟩, kt, er_one hl (fun hi => k1 (by rw [hl]; exact hi)), List.nodup_nil, fun a h => (nomatch h), fun a h => (nomatch h), fun a h => (nomatch h), Stp.refl _ _⟩, ?_⟩
    rw [hev a]
    intro H'' v w t st r
    have e3 : v = .str wd := r [] fun a h => nomatch h
    subst e3
    exact kq H'' st t
  · exact ⟨fun cls d H' => d = none ∧ ∃ Dc wd, cls = .ref Dc ∧ ExcC X.K Dc ∧ PySem.W.exmOne X.K cls (.ref CS) = some true ∧ sdOk X.K X.mg N.length i gW names Dc wd ∧ LamX.Tabs T H' ∧ ∀ H'', Stp [] H' H'' → LamX.Tabs T H'' → Q (.str wd) H'',
      fun cls d σ' H' ⟨e1, Dc, wd, e2, e3, e4, e5, e6, e7⟩ => ⟨true, e4, fun _ a _ => ⟨fun hl => List.getElem?_set_self (by simpa using hl), e1, Dc, wd, e2, e3, e5, e6, e7⟩, fun z => by cases z⟩, rfl, hc, h⟩
/-- what the call gives, or the word for what it raised -/
def eSaid (tw : Str → Option Str) (fb : Sm Ev) : Sm Ev := fun ρ M => match fb ρ M with
  | .ok x M1 => .ok x M1
  | .exc c none M1 => match tw c with
    | some wd => .ok (.d (.str wd)) M1
    | none => .stuck
  | _ => .stuck
theorem de_said {x ca : Str} {st : Stmt} {g CS c P : Addr} {fd : FuncData} {k : Nat} {params : Arguments} {body : Expr} {scope : Scope} {fb : Sm Ev} {tw : Str → Option Str} {N : List Str} {ok : Addr → Str → Prop} {p lpos pos : Pos} (Fr : FunD X.K x x (defArgs st) (defBody st) (defScope st) [] [] g fd) (hm : X.mg x = some (.ref g)) (hb : Binds X.K fd [ca] [])
    (Sg : FnScope N [ca] (defScope st)) (n0 : N[0]? = some ca) (h5 : (defScope st).names.lookup ca = some .local)
    (gives : LamX.GivesTo X N x (defScope st) g fd.code (defBody st) ca (X.env.qual ++ "<lambda>") (TTs X.K T CS ok))
    (hx : ∀ c wd, tw c = some wd → ∃ Dc, X.mg c = some (.ref Dc) ∧ ExcC X.K Dc ∧ PySem.W.exmOne X.K (.ref Dc) (.ref CS) = some true ∧ ok Dc wd)
    (TB : LamX.TabB X.base X.mg c P) (hcode : X.env.code = .ref c) (hT : T = [(P, X.env.qual ++ "<lambda>")]) (hr : Room (k + 2) X.A) (hg : Gl X x)
    (hlam : ∀ (A : Around) (outer : List PySem.Env) (s : Shared) (H : Hp) (E : XK) (f c' : Addr), Room k (A.deeper (LamX.lamEnv X scope s.heap.objs.size f c')) → PE (LamX.lamCx X A outer s H E scope f c') body (tE (cf (LamX.lamCx X A outer s H E scope f c') T (wE E)) fb))
    (L : LamX.LamS X.env.scope scope) (hdef : defaultsOf params X.env = ([], []) := by rfl) (hbind : ∀ (q : Str) (cl : List (Str × Addr)) (pm cv ctv : Value), bindArgs (PySem.W.kla_fn "<lambda>" q params body scope cl pm cv ctv) ⟨[], []⟩ = pure [] := by intros; rfl)
    (hdb : (x == ("__debug__" : Str)) = false := by decide) (hda : (ca == ("__debug__" : Str)) = false := by decide) (hdc : (ca == ("__classdict__" : Str)) = false := by decide) :
    PE X (.Call (.Name x p) [.Lambda params body scope lpos] [] pos) (tE (cf X T W) (eSaid tw fb)) := by
  obtain ⟨oc, od, dV, kV, doc, pm, an, cdv, ct, osl, rfl, lk, hcd, hD, _⟩ := Fr.ex
  rcases hD with ⟨_, rfl⟩ | ⟨e, _⟩
  · refine ⟨fun pins s σ H Q I q => (LamX.pe_lamcall (T := T) (TT := TTs X.K T CS ok) (a := ca) (Ng := N) (k := k) (t := fun E => tE ⟨X.K, X.mg, T, wE E⟩ fb) hg hm Fr.kp lk hcd hb Sg n0 (Or.inl h5) gives TB hcode (by rw [hT]; exact List.mem_cons_self) (fun r hr _ => by
        rw [hT] at hr; rw [List.mem_singleton.mp hr]) hr L hdef hbind hlam hdb hda hdc).run pins s σ H Q I ?_⟩
    obtain ⟨H0, A, m, M, ρ, P', F, q⟩ := q
    refine ⟨F.tb, fun H1 en t1 => ?_⟩
    have s1 : Stp m H H1 := fun a o e _ t => en a o e t
    have F1 : FR ⟨X.K, X.mg, T, W⟩ H0 A m M H1 ρ σ P' := F.step s1 (F.wr.step en) t1
    refine ⟨H0, A, m, M, ρ, P', F1.wish rfl rfl, ?_⟩
    unfold eSaid at q
    cases e : fb ρ M with
    | stuck => rw [e] at q; exact q.elim
    | ok x M1 =>
      rw [e] at q
      exact fun H' v s w t r => q H' v (s1.trans s) w t r
    | exc c' g' M1 =>
      rw [e] at q
      cases g' with
      | some _ => exact q.elim
      | none =>
        cases e2 : tw c' with
        | none =>
          have q' : PX (cf X T W) m σ (relE X.K H0 A m) H (match tw c' with | some b => .ok (.d (.str b)) M1 | none => .stuck) Q := q
          rw [e2] at q'; exact q'.elim
        | some b =>
          have q' : PX (cf X T W) m σ (relE X.K H0 A m) H (match tw c' with | some b => .ok (.d (.str b)) M1 | none => .stuck) Q := q
          rw [e2] at q'
          intro H' cls d s w t hxr
          obtain ⟨C', hC, rfl, hd⟩ := hxr
          obtain ⟨Dc, g1, g2, g3, g4⟩ := hx c' b e2
          have g1' : X.mg c' = some (.ref C') := hC
          rw [g1] at g1'; cases g1'
          exact ⟨hd, _, b, rfl, g2, g3, g4, t, fun H'' st tb => q' H'' (.str b) (s1.trans (s.trans (st.mono fun _ h => nomatch h))) (w.step fun a o e tt => st a o e (fun h => nomatch h) tt) tb rfl⟩
  · exact absurd rfl e
end
end DL

set_option Elab.async false
set_option linter.all false
set_option maxRecDepth 100000
set_option maxHeartbeats 2000000
/-! The data layer: an own dict is written. -/
namespace DL
open PySem PySem.Spec PyProof.Rows L2
section
variable {κ : Type} [DecidableEq κ]
/-- the keys, the values behind d[k] = v -/
def putKs (ks : List κ) (k : κ) : List κ := if k ∈ ks then ks else ks ++ [k]
def setAt {α : Type} (k : κ) (d : α) : List κ → List α → List α
  | q :: ks, x :: l => (if q = k then d else x) :: setAt k d ks l
  | _, _ => []
def putVs {α : Type} (ks : List κ) (l : List α) (k : κ) (d : α) : List α := if k ∈ ks then setAt k d ks l else l ++ [d]
theorem any_key (kvs : List (κ × V)) (k : κ) : (kvs.any fun kv => decide (kv.1 = k)) = true ↔ k ∈ kvs.map (·.1) := by
  simp only [List.any_eq_true, decide_eq_true_eq, List.mem_map]
theorem putK_keys (kvs : List (κ × V)) (k : κ) (v : V) : (putK kvs k v).map (·.1) = putKs (kvs.map (·.1)) k := by
  unfold putK putKs
  by_cases h : k ∈ kvs.map (·.1)
  · rw [if_pos ((any_key kvs k).mpr h), if_pos h, List.map_map]
    apply List.map_congr_left
    intro kv _
    show (if kv.1 = k then (kv.1, v) else kv).1 = kv.1
    split <;> rfl
  · rw [if_neg (fun z => h ((any_key kvs k).mp z)), if_neg h, List.map_append]; rfl
theorem setAt_rps {K : PySem.W.Frag} {A m : List Addr} {H : Hp} {d : D} {k : κ} {v : V} (r : Rp K A m H d v) : ∀ {kvs : List (κ × V)} {l : List D}, Rps K A m H l (kvs.map (·.2)) → Rps K A m H (setAt k d (kvs.map (·.1)) l) ((kvs.map fun kv => if kv.1 = k then (kv.1, v) else kv).map (·.2))
  | [], [], _ => rfl
  | [], _ :: _, ⟨_, _, e, _⟩ => by cases e
  | _ :: _, [], h => by cases (show _ = [] from h)
  | kv :: kvs, x :: l, ⟨u, w, e, h1, h2⟩ => by
    have e1 : kv.2 = u := (List.cons.inj e).1
    have e2 : kvs.map (·.2) = w := (List.cons.inj e).2
    subst e1 e2
    refine ⟨(if kv.1 = k then (kv.1, v) else kv).2, _, rfl, ?_, setAt_rps r h2⟩
    by_cases hk : kv.1 = k
    · rw [if_pos hk, if_pos hk]; exact r
    · rw [if_neg hk, if_neg hk]; exact h1
theorem putK_rps {K : PySem.W.Frag} {A m : List Addr} {H : Hp} {d : D} {k : κ} {v : V} {kvs : List (κ × V)} {l : List D} (r : Rp K A m H d v) (h : Rps K A m H l (kvs.map (·.2))) : Rps K A m H (putVs (kvs.map (·.1)) l k d) ((putK kvs k v).map (·.2)) := by
  unfold putK putVs
  by_cases hk : k ∈ kvs.map (·.1)
  · rw [if_pos ((any_key kvs k).mpr hk), if_pos hk]
    exact setAt_rps r h
  · rw [if_neg (fun z => hk ((any_key kvs k).mp z)), if_neg hk, List.map_append]
    exact Rps.app h (Rps.one r)
end
section
variable {C : Cf} {H0 H : Hp} {A m : List Addr} {M : Mem} {ρ : Env} {σ : L2.St} {P : List Addr}
/-- the own dict of a slot -/
theorem FR.ownK (F : FR C H0 A m M H ρ σ P) {j : Nat} {ks : List Key} {l : List D} (h : ρ[j]? = some (some (.dk .own ks l))) :
    ∃ p kvs, σ[j]? = some (some (.ref p)) ∧ H p = some (.dK kvs) ∧ kvs.map (·.1) = ks ∧ p ∈ A ∧ p ∉ m ∧ Rps C.K A m H l (kvs.map (·.2)) ∧ ∀ (kvs' : List (Key × V)) l', Rps C.K A m (upd H p (.dK kvs')) l' (kvs'.map (·.2)) → FR C H0 A m M (upd H p (.dK kvs')) (ρ.set j (some (.dk .own (kvs'.map (·.1)) l'))) σ P := by
  obtain ⟨v, P1, q1, q2, q3⟩ := ER.get F.er h
  obtain ⟨p, kvs, rfl, hp, ek, eP, r⟩ := q2
  have hP := q3 p (by rw [eP]; exact List.mem_cons_self)
  have ho := F.own p hP
  refine ⟨p, kvs, q1, hp, ek, ho.1, ho.2.1, r, fun kvs' l' r' => ?_⟩
  refine F.mutE h q1 hP hp trivial trivial (fun Q1 hq _ => ?_) (fun Q1 hq => ?_)
  · obtain ⟨p', kvs'', e, hp', ek', eQ, _⟩ := hq
    cases e
    exact ⟨p, kvs', rfl, upd_same, rfl, eQ, r'⟩
  · obtain ⟨p', kvs'', e, hp', ek', eQ, _⟩ := hq
    cases e
    rw [eQ]; exact List.mem_cons_self
end
/-- v[k] = e, v an own dict, its keys ints or texts -/
def dput2 (ρ : Env) (M : Mem) (j : Nat) (x y : Ev) : SR := match x, y with
  | .d d, .d k => match keyOf k, ρ[j]? with
    | some key, some (some (.dk .own ks l)) => if ks.length < most then .nx (ρ.set j (some (.dk .own (putKs ks key) (putVs ks l key d)))) M else .stuck
    | _, _ => .stuck
  | _, _ => .stuck
def sDput (j : Nat) (fi fe : Sm Ev) : Ss := fun ρ M => sE (fe ρ M) ρ fun x M1 => match ρ[j]? with
  | some (some _) => sE (fi ρ M1) ρ fun y M2 => dput2 ρ M2 j x y
  | _ => .stuck
section
variable {X : Cx} {T : List (Addr × Str)} {W : WX} {e ie : Expr} {pos p p2 : Pos} {fi fe : Sm Ev}
theorem ds_dput {j : Nat} {x : Str} (hu : X.A.units + 1 < cLine) (he : PE X e (tE (cf X T W) fe)) (hi : PE X ie (tE (cf X T W) fi)) (hN : X.N[j]? = some x := by rfl) (hv : Vis X.env.scope x := by first | exact Or.inl rfl | exact Or.inr (Or.inl rfl) | exact Or.inr (Or.inr rfl)) (hd : (x == ("__debug__" : Str)) = false := by decide)
    (hcd : (x == ("__classdict__" : Str)) = false := by decide) (hs : swapsWithSole [.Subscript (.Name x p) ie p2] e pos.line X.env = pure false := by rfl) (hw : swappedStores [.Subscript (.Name x p) ie p2] e X.env = pure none := by rfl)
    (h1 : (assignEach [.Subscript (.Name x p) ie p2] X.env).map (·.2) = [assign (.Subscript (.Name x p) ie p2) X.env] := by rfl)
    (ha : ∀ v, assign (.Subscript (.Name x p) ie p2) X.env v = (do
      let ov ← holding [v] (eval (.Name x p) X.env)
      let iv ← holding [v, ov] (eval ie X.env)
      standAt p2
      holding [v, ov, iv] (setItem ov iv v)
      release [v, ov, iv] []) := by intro _; rfl) : PS X (.Assign [.Subscript (.Name x p) ie p2] e pos) (tS (cf X T W) (sDput j fi fe)) := by
  refine ⟨fun pins s σ H Dn I q => (ps_asg he (pg_sub (pe_var hN hv hd hcd) hi (set_dict hu) ha) hs hw h1).run pins s σ H Dn I ?_⟩
  obtain ⟨H0, A, m, M, ρ, P, F, q⟩ := q
  refine subS F q fun x M1 H1 v F1 s1 r1 q1 => ?_
  split at q1
  · rename_i z hz
    obtain ⟨o, P1, h1, _, _⟩ := ER.get F1.er hz
    refine ⟨o, h1, ?_⟩
    refine subS F1 q1 fun y M2 H2 w F2 s2 r2 q2 => ?_
    unfold dput2 at q2
    split at q2
    · rename_i d k
      split at q2
      · rename_i key ks l hk hj
        split at q2
        · rename_i hl
          obtain ⟨p0, kvs, e1, hp, ek, hA, hm, r3, wt⟩ := F2.ownK hj
          rw [h1] at e1; cases e1
          have ew := keyOf_at hk r2
          subst ew
          subst ek
          have rv : Rp X.K A m H2 d v := Rp.step F1.wr.aok F1.ma s2 _ _ r1
          have hn : kvs.length < sizeLine := by rw [List.length_map] at hl; have := most_line (Nat.le_refl most); omega
          refine ⟨p0, upd H2 p0 (.dK (putK kvs key v)), rfl, .k hp hn, ?_⟩
          have F' := wt (putK kvs key v) (putVs (kvs.map (·.1)) l key d) (putK_rps (Rp.self hp trivial hA rv) (Rps.self hp trivial hA r3))
          rw [putK_keys] at F'
          exact q2 A _ σ P (Ext.write hA) F'
        · exact q2.elim
      · exact q2.elim
    · exact q2.elim
  · exact q1.elim
end
end DL

set_option Elab.async false
set_option linter.all false
set_option maxRecDepth 100000
set_option maxHeartbeats 2000000
/-! The data layer: a dict made of an iterable. -/
namespace DL
open PySem PySem.Spec PyProof.Rows L2
/-- y = {..} by a comprehension on one line -/
theorem ps_setDc {X : Cx} {i : Nat} {y : Str} {py : Pos} {kx vx tg iter : Expr} {ifs : List Expr} {scope : Scope} {own : List (Str × Nat)} {pos spos : Pos} {wi : TI} {g : TG} {tt : TT} {tk tv : TE} (hc : X.calm = true) (hN : X.N.Nodup) (hy : X.N[i]? = some y) (hyl : X.env.scope.names.lookup y = some .local)
    (hsw : swapsWith (.DictComp kx vx [⟨tg, iter, ifs, 0⟩] scope pos) (some (.Name y py)) spos.line X.env = pure true) (hi : PI X tg iter wi) (ok : BlkOk X.N X.env.scope scope own)
    (hg : ∀ (s : Shared) (H : Hp) (C : Addr) (cl : List (Str × Addr)) (fp : List Addr), PG (X.blk s H scope (compEnvC scope cl C X.env) fp) tg g) (ht : ∀ (s : Shared) (H : Hp) (C : Addr) (cl : List (Str × Addr)) (fp : List Addr), PTs (X.blk s H scope (compEnvC scope cl C X.env) fp) ifs tt)
    (hk : ∀ (s : Shared) (H : Hp) (C : Addr) (cl : List (Str × Addr)) (fp : List Addr), PE (X.blk s H scope (compEnvC scope cl C X.env) fp) kx tk)
    (he : ∀ (s : Shared) (H : Hp) (C : Addr) (cl : List (Str × Addr)) (fp : List Addr), PE (X.blk s H scope (compEnvC scope cl C X.env) fp) vx tv) (hs : ∀ x, foldedSetIterable iter X.env x = pure x := by intro _; rfl) :
    PS X (.Assign [.Name y py] (.DictComp kx vx [⟨tg, iter, ifs, 0⟩] scope pos) spos) (tAsg (tDc wi g tt tk tv (own.map (·.2))) (gName i)) := by
  refine ⟨fun pins s σ H D I h => ?_⟩
  rw [exec_Assign_Name_used _ _ _ _ hsw]
  refine wpAny_bind (wpAny_standAt (wpAny_bind ?_))
  show wpAny _ X.A (do let _ ← comprehension (.DictComp kx vx [⟨tg, iter, ifs, 0⟩] scope pos) scope X.env (firstIterPos [⟨tg, iter, ifs, 0⟩] pos) newDict false (eval iter X.env) (some (assign (.Name y py) X.env))) _ _ s
  have h : tDc wi g tt tk tv (own.map (·.2)) σ H (fun x H1 => gName i x σ H1 D.nx) := h
  refine wpAny_bind (thn (dc_core (Qf := fun _ s' => SP X pins D .next s') hc hN I hi ok hg ht hk he hs h fun L C s' m H' I' q hn f => ?_) fun _ s' hq => wpAny_pure (wpAny_pure hq))
  show wpAny _ _ (assign (.Name y py) X.env (.ref L)) _ _ _
  refine wpAny_assign_Name (store_ok2 (v := V.ref L) I' hN hy (.inl hyl) rfl (fun s2 I2 ⟨a, sb, ha⟩ => ?_) (.inr hyl))
  obtain ⟨f0, f1, f2, f3, f4, f5⟩ := f
  have haC : C ≠ a := by
    rcases ha with z | z
    · rw [z]; exact f1
    · exact fun e => f4 y a z e.symm
  refine ⟨m, hn.sameBut sb haC, fun h3 sb3 => ?_⟩
  exact ⟨_, H', I2.turned (t' := s2.toks) (fun b o hb e => (sb3.2 b hb).trans e) f0 f1 f3 f4 f5, q⟩
theorem sw_trueD {kx vx : Expr} {gs : List Comprehension} {scope : Scope} {pos py : Pos} {y : Str} {l : Nat} {env : PySem.Env} (hk : env.scope.kind = .function) (hy : env.scope.names.lookup y = some .local) (hl : (py.line == pos.line) = true)
    (ha : (scope.names.any fun (n, k) => n == y && (k == .local || k == .cell)) = false) : swapsWith (.DictComp kx vx gs scope pos) (some (.Name y py)) l env = pure true := by
  have ky : env.kindOf y = some .local := hy
  have hb : env.blockKind = .function := by unfold PySem.Env.blockKind; rw [hk]; rfl
  unfold swapsWith
  simp only [hb, ky, ha, Expr.pos, hl]
  rfl
def GdP {β : Type} (Z : β → Mem → Prop) (r : R β) : Prop := match r with
  | .ok l M => Z l M
  | _ => False
theorem subP {C : Cf} {H0 H : Hp} {A m : List Addr} {M : Mem} {ρ : Env} {σ : L2.St} {P : List Addr} {α β γ : Type} {rel : Rel α β} {f : Sm α} {kk : α → Mem → R γ} {Z : γ → Mem → Prop} (F : FR C H0 A m M H ρ σ P) (h : GdP Z (bnd (noX (f ρ M)) kk)) {G : β → Hp → Prop}
    (hk : ∀ d M1 H1 v, FR C H0 A m M1 H1 ρ σ P → Stp m H H1 → rel H0 A m H1 d v → GdP Z (kk d M1) → G v H1) : tX C rel f σ H G := by
  refine ⟨H0, A, m, M, ρ, P, F, ?_⟩
  cases e : f ρ M with
  | stuck => rw [e] at h; exact h.elim
  | exc c g M1 => rw [e] at h; exact h.elim
  | ok d M1 =>
    rw [e] at h
    exact fun H1 v s w t r => hk d M1 H1 v (F.step s w t) s r h
def dcL (g : Tgt) (vs : List Nat) (t : Sm Bool) (fk fv : Sm Ev) (ρ : Env) : List Key → List D → List D → Mem → R (List Key × List D)
  | ks, acc, [], M => .ok (ks, acc) M
  | ks, acc, d :: r, M => match tgE g (wipeE ρ vs) d with
    | some ρ1 => bnd (noX (t ρ1 M)) fun b M1 => if b = true then bnd (noX (fk ρ1 M1)) fun y M2 => bnd (noX (fv ρ1 M2)) fun z M3 => match y, z with
        | .d y, .d z => match keyOf y with
          | some key => dcL g vs t fk fv ρ (putKs ks key) (putVs ks acc key z) r M3
          | none => .stuck
        | _, _ => .stuck
      else dcL g vs t fk fv ρ ks acc r M1
    | none => .stuck
def eDc (it : Sm (List D)) (g : Tgt) (vs : List Nat) (t : Sm Bool) (fk fv : Sm Ev) : Sm Ev := fun ρ M => bnd (it ρ M) fun items M1 => if items.length ≤ most then bnd (dcL g vs t fk fv ρ [] [] items M1) fun p M2 => .ok (.d (.dK p.1 p.2)) M2 else .stuck
theorem dcL_noX {g : Tgt} {vs : List Nat} {t : Sm Bool} {fk fv : Sm Ev} {ρ : Env} : ∀ (its acc : List D) (ks : List Key) (M : Mem), NoE (dcL g vs t fk fv ρ ks acc its M)
  | [], acc, ks, M => trivial
  | d :: r, acc, ks, M => by
    unfold dcL
    cases tgE g (wipeE ρ vs) d with
    | none => trivial
    | some ρ1 =>
      refine NoE.bnd fun b M1 => ?_
      cases b with
      | false => exact dcL_noX r acc ks M1
      | true =>
        refine NoE.bnd fun y M2 => ?_
        refine NoE.bnd fun z M3 => ?_
        cases y with
        | d y =>
          cases z with
          | d z =>
            show NoE (match keyOf y with | some key => dcL g vs t fk fv ρ (putKs ks key) (putVs ks acc key z) r M3 | none => .stuck)
            cases keyOf y with
            | some key => exact dcL_noX r _ _ M3
            | none => trivial
          | _ => trivial
        | _ => trivial
theorem putVs_len {κ α : Type} [DecidableEq κ] {ks : List κ} {l : List α} {k : κ} {d : α} (h : ks.length = l.length) : (putKs ks k).length = (putVs ks l k d).length ∧ (putKs ks k).length ≤ ks.length + 1 := by
  have sl : ∀ {ks : List κ} {l : List α}, ks.length = l.length → (setAt k d ks l).length = l.length := by
    intro ks
    induction ks with
    | nil => intro l h; cases l with | nil => rfl | cons _ _ => cases h
    | cons q ks ih => intro l h; cases l with | nil => cases h | cons x l => simp only [setAt, List.length_cons]; rw [ih (by simpa using h)]
  unfold putKs putVs
  split
  · exact ⟨by rw [sl h, h], Nat.le_succ _⟩
  · simp [h]
section
variable {X : Cx} {T : List (Addr × Str)} {W : WX} {fk fv : Sm Ev} {pos : Pos}
theorem dc_run {it : Sm (List D)} {tgt : Tgt} {vs : List Nat} {t : Sm Bool} (hv : ∀ i ∈ tgt.slots, i ∈ vs) {σ : L2.St} {H : Hp} {Q : VK} (q : tE (cf X T W) (eDc it tgt vs t fk fv) σ H Q) : tDc (tI (cf X T W) true it) (tgG X.K tgt) (tT (cf X T W0) t) (tE (cf X T W0) fk) (tE (cf X T W0) fv) vs σ H Q := by
  obtain ⟨H0, A, m, M, ρ, P, F, q⟩ := q
  refine ⟨H0, A, m, M, ρ, P, F, ?_⟩
  unfold eDc at q
  cases e : it ρ M with
  | stuck => rw [e] at q; exact q.elim
  | exc c g M1 => rw [e] at q; exact q
  | ok items M1 =>
    rw [e, bnd_ok] at q
    intro J H1 s w tb Wl Da nD
    have F1 := F.step s w tb
    have hDm : Da ∉ m := fun z => by obtain ⟨o, e, _⟩ := F1.wr.aok Da z; rw [nD] at e; cases e
    have nH : ¬ Lv H Da := fun z => by obtain ⟨o, e, _⟩ := s.lv z hDm; rw [nD] at e; cases e
    by_cases hc : items.length ≤ most
    · rw [if_pos hc] at q
      have q' : GdP (fun (l : List Key × List D) M' => ∀ H' p kvs, Stp m H H' → WR X.K m M' H' → LamX.Tabs T H' → ¬ Lv H p → H' p = some (.dK kvs) → kvs.map (·.1) = l.1 → Rps X.K (p :: A) m H' l.2 (kvs.map (·.2)) → Q (.ref p) H') (dcL tgt vs t fk fv ρ [] [] items M1) := by
        cases e2 : dcL tgt vs t fk fv ρ [] [] items M1 with
        | stuck => rw [e2] at q; exact q
        | exc c g M2 => have z := dcL_noX (g := tgt) (vs := vs) (t := t) (fk := fk) (fv := fv) (ρ := ρ) items [] [] M1; rw [e2] at z; exact z.elim
        | ok l M2 =>
          rw [e2] at q
          exact fun H' p kvs s w t n hp ek r => q H' (.ref p) s w t ⟨p, kvs, rfl, hp, ek, not_in_A F.aok n, Rps.avoid (fun a ha => .inl (List.mem_cons_of_mem _ ha)) _ _ r⟩
      have G0 : FR (cf X T W0) H0 (Da :: A) m M1 (upd H1 Da (.dK [])) ρ σ P := (F1.more nD (o := .dK []) trivial).wish rfl rfl
      refine ⟨fun i k H2 => k + i = items.length ∧ Stp m H1 H2 ∧ ∃ M2 ks acc kvs, FR (cf X T W0) H0 (Da :: A) m M2 H2 ρ σ P ∧ H2 Da = some (.dK kvs) ∧ kvs.map (·.1) = ks ∧ Rps X.K (Da :: A) m H2 acc (kvs.map (·.2)) ∧ ks.length ≤ i ∧
        GdP (fun (l : List Key × List D) M' => ∀ H' p kvs, Stp m H H' → WR X.K m M' H' → LamX.Tabs T H' → ¬ Lv H p → H' p = some (.dK kvs) → kvs.map (·.1) = l.1 → Rps X.K (p :: A) m H' l.2 (kvs.map (·.2)) → Q (.ref p) H') (dcL tgt vs t fk fv ρ ks acc (items.drop i) M2),
        ⟨items.length, by simp, Stp.upd nD, M1, [], [], [], G0, upd_same, rfl, rfl, Nat.le_refl _, by simpa using q'⟩, fun i k H2 h => ?_⟩
      obtain ⟨hk, st, M2, ks, acc, kvs, F2, hD, eks, rD, la, q2⟩ := h
      have hr : RchC A m H1 (Da :: A) H2 := ⟨fun a ha => (List.mem_cons.mp ha).elim (fun z => .inr (by rw [z]; exact not_lv_of nD)) .inl, fun a ha => List.mem_cons_of_mem _ ha, st⟩
      cases k with
      | zero =>
        have hi : i = items.length := by omega
        subst hi
        rw [List.drop_length] at q2
        exact .inl ⟨Wl.stop _ H2 hr, q2 H2 Da kvs (s.trans st) F2.wr F2.tb nH hD eks rD⟩
      | succ k =>
        have hi : i < items.length := by omega
        have ed : items.drop i = items[i] :: items.drop (i + 1) := List.drop_eq_getElem_cons hi
        rw [ed] at q2
        obtain ⟨hgo, hy⟩ := Wl.go _ H2 hr i items[i] (List.getElem?_eq_getElem hi)
        refine .inr ⟨hgo, fun H' => Stp m H1 H' ∧ ∃ M2 ks acc kvs, FR (cf X T W0) H0 (Da :: A) m M2 H' ρ σ P ∧ H' Da = some (.dK kvs) ∧ kvs.map (·.1) = ks ∧ Rps X.K (Da :: A) m H' acc (kvs.map (·.2)) ∧ ks.length ≤ i + 1 ∧
          GdP (fun (l : List Key × List D) M' => ∀ H' p kvs, Stp m H H' → WR X.K m M' H' → LamX.Tabs T H' → ¬ Lv H p → H' p = some (.dK kvs) → kvs.map (·.1) = l.1 → Rps X.K (p :: A) m H' l.2 (kvs.map (·.2)) → Q (.ref p) H') (dcL tgt vs t fk fv ρ ks acc (items.drop (i + 1)) M2),
          fun H' h => ⟨k, Nat.lt_succ_self k, by omega, h⟩, fun v H3 hv3 => ?_⟩
        obtain ⟨h3, r3⟩ := hy v H3 hv3
        have F3 : FR (cf X T W0) H0 (Da :: A) m M2 H3 ρ σ P ∧ Stp m H2 H3 := by
          rcases h3 with rfl | ⟨p, o, hp, rfl⟩
          · exact ⟨F2, Stp.refl _ _⟩
          · exact ⟨F2.grow hp, Stp.upd hp⟩
        unfold dcL at q2
        split at q2
        · rename_i ρ1 h1
          refine tg_blk F3.1 hv r3 h1 fun σ' P' F4 hw => ⟨hw, ?_⟩
          refine subP F4 q2 fun b M5 H5 b' F5 s5 r5 q5 => ?_
          cases (show b = b' from r5)
          have back : ∀ {M6 : Mem} {H6 : Hp}, WR X.K m M6 H6 → LamX.Tabs T H6 → Stp m H3 H6 → FR (cf X T W0) H0 (Da :: A) m M6 H6 ρ σ P ∧ Stp m H1 H6 ∧ H6 Da = some (.dK kvs) ∧ Rps X.K (Da :: A) m H6 acc (kvs.map (·.2)) := by
            intro M6 H6 w6 t6 s6
            have s26 : Stp m H2 H6 := F3.2.trans s6
            exact ⟨F2.step s26 w6 t6, st.trans s26, s26 Da _ hD hDm dK_tbl, Rps.step F2.wr.aok F2.ma s26 _ _ rD⟩
          cases b with
          | false =>
            rw [if_neg (by decide)] at q5
            obtain ⟨b1, b2, b3, b4⟩ := back F5.wr F5.tb s5
            rw [if_neg (by decide)]
            exact ⟨b2, M5, ks, acc, kvs, b1, b3, eks, b4, Nat.le_succ_of_le la, q5⟩
          | true =>
            rw [if_pos rfl] at q5
            rw [if_pos rfl]
            refine subP F5 q5 fun y M6 H6 u F6 s6 r6 q6 => ?_
            refine subP F6 q6 fun z M7 H7 u7 F7 s7 r7 q7 => ?_
            obtain ⟨b1, b2, b3, b4⟩ := back F7.wr F7.tb ((s5.trans s6).trans s7)
            split at q7
            · rename_i y z
              split at q7
              · rename_i key hkey
                have ey := keyOf_at hkey r6
                subst ey
                have hP : Da ∉ P := fun z => by
                  have := F1.own Da z
                  exact (not_in_A F1.aok (not_lv_of nD)) this.1
                have h0 : ¬ Lv H0 Da := F1.h0 nD
                have F8 := b1.write (a := Da) (o' := .dK (putK kvs key u7)) List.mem_cons_self hDm hP h0 b3 trivial trivial
                have hA1 : Da ∈ Da :: A := List.mem_cons_self
                have r8 : Rps X.K (Da :: A) m (upd H7 Da (.dK (putK kvs key u7))) (putVs ks acc key z) ((putK kvs key u7).map (·.2)) := by
                  rw [← eks]
                  exact putK_rps (Rp.self b3 trivial hA1 r7) (Rps.self b3 trivial hA1 b4)
                have hl : ks.length = kvs.length := by rw [← eks, List.length_map]
                have hacc : acc.length = kvs.length := by have := Rps.len b4; rw [List.length_map] at this; exact this.symm
                have pl := putVs_len (ks := ks) (l := acc) (k := key) (d := z) (by omega)
                refine ⟨kvs, key, rfl, b3, ?_, fun a o e n tt => ?_, M7, putKs ks key, putVs ks acc key z, putK kvs key u7, F8, upd_same, by rw [putK_keys, eks], r8, by omega, q7⟩
                · have := most_line hc; omega
                · by_cases ea : a = Da
                  · subst ea; rw [nD] at e; cases e
                  · rw [upd_ne ea]; exact b2 a o e n tt
              · exact q7.elim
            · exact q7.elim
        · exact q2.elim
    · rw [if_neg hc] at q; exact q.elim
/-- name = {k: v for ..} on one line, looked at but not written -/
theorem ds_setDc {i : Nat} {y : Str} {py : Pos} {kx vx tg iter : Expr} {ifs : List Expr} {scope : Scope} {own : List (Str × Nat)} {spos : Pos} {it : Sm (List D)} {tgt : Tgt} {t : Sm Bool} (hc : X.calm = true) (hN : X.N.Nodup) (hi : PI X tg iter (tI (cf X T W) true it)) (ok : BlkOk X.N X.env.scope scope own)
    (hg : ∀ (s : Shared) (H : Hp) (C : Addr) (cl : List (Str × Addr)) (fp : List Addr), PG (X.blk s H scope (compEnvC scope cl C X.env) fp) tg (tgG X.K tgt)) (ht : ∀ (s : Shared) (H : Hp) (C : Addr) (cl : List (Str × Addr)) (fp : List Addr), PTs (X.blk s H scope (compEnvC scope cl C X.env) fp) ifs (tT (cf X T W0) t))
    (hk : ∀ (s : Shared) (H : Hp) (C : Addr) (cl : List (Str × Addr)) (fp : List Addr), PE (X.blk s H scope (compEnvC scope cl C X.env) fp) kx (tE (cf X T W0) fk))
    (he : ∀ (s : Shared) (H : Hp) (C : Addr) (cl : List (Str × Addr)) (fp : List Addr), PE (X.blk s H scope (compEnvC scope cl C X.env) fp) vx (tE (cf X T W0) fv))
    (hsw : swapsWith (.DictComp kx vx [⟨tg, iter, ifs, 0⟩] scope pos) (some (.Name y py)) spos.line X.env = pure true) (hy : X.N[i]? = some y := by rfl) (hyl : X.env.scope.names.lookup y = some .local := by rfl) (hv : ∀ i ∈ tgt.slots, i ∈ own.map (·.2) := by decide) (hs : ∀ x, foldedSetIterable iter X.env x = pure x := by intro _; rfl) :
    PS X (.Assign [.Name y py] (.DictComp kx vx [⟨tg, iter, ifs, 0⟩] scope pos) spos) (tS (cf X T W) (sSetN i (nE (eDc it tgt (own.map (·.2)) t fk fv)))) :=
  ⟨fun pins s σ H Dn I q => (ps_setDc hc hN hy hyl hsw hi ok hg ht hk he hs).run pins s σ H Dn I (dc_run hv (tN_E (setN_run q)))⟩
end
end DL

set_option Elab.async false
set_option linter.all false
set_option maxRecDepth 100000
set_option maxHeartbeats 2000000
/-! The data layer's readings, plainly: loops and comprehensions over numbers and over lists, told by functions. -/
namespace DL
open PySem PySem.Spec PyProof.Rows L2
theorem wipe1 (ρ : Env) (j : Nat) : wipeE ρ [j] = ρ.set j none := rfl
theorem tg_wipe1 {ρ : Env} {j : Nat} {d : D} (hj : j < ρ.length) : tgE (.one j) (wipeE ρ [j]) d = some (ρ.set j (some (.d d))) := by
  rw [wipe1, tg1 (by rw [List.length_set]; exact hj), List.set_set]
/-- each item told by a function, some left out -/
theorem lcL_flt {α : Type} {g : Tgt} {vs : List Nat} {t : Sm Bool} {f : Sm Ev} {ρ : Env} {M : Mem} (it : α → D) (p : α → Bool) (y : α → D) : ∀ (l : List α) (acc : List D), (∀ x ∈ l, ∃ ρ1, tgE g (wipeE ρ vs) (it x) = some ρ1 ∧ t ρ1 M = .ok (p x) M ∧ (p x = true → f ρ1 M = .ok (.d (y x)) M)) → lcL g vs t f ρ acc (l.map it) M = .ok (acc ++ (l.filter p).map y) M
  | [], acc, _ => by simp [lcL]
  | x :: r, acc, hs => by
    obtain ⟨ρ1, e1, e2, e3⟩ := hs x List.mem_cons_self
    rw [List.map_cons]
    cases hp : p x with
    | true =>
      rw [hp] at e2
      simp only [lcL, e1, e2, e3 hp, noX, bnd, if_true]
      rw [lcL_flt it p y r _ fun z hz => hs z (List.mem_cons_of_mem _ hz), List.append_assoc, List.filter_cons_of_pos hp, List.map_cons]
      rfl
    | false =>
      rw [hp] at e2
      simp only [lcL, e1, e2, noX, bnd, Bool.false_eq_true, if_false]
      rw [lcL_flt it p y r _ fun z hz => hs z (List.mem_cons_of_mem _ hz), List.filter_cons_of_neg (by simp [hp])]
theorem lc_flt {α : Type} {i : Sm (List D)} {g : Tgt} {vs : List Nat} {t : Sm Bool} {f : Sm Ev} {ρ : Env} {M : Mem} {l : List α} (it : α → D) (p : α → Bool) (y : α → D) (hi : i ρ M = .ok (l.map it) M) (hl : l.length ≤ most) (hs : ∀ x ∈ l, ∃ ρ1, tgE g (wipeE ρ vs) (it x) = some ρ1 ∧ t ρ1 M = .ok (p x) M ∧ (p x = true → f ρ1 M = .ok (.d (y x)) M)) : fLc i g vs t f ρ M = .ok ((l.filter p).map y) M := by
  simp only [fLc, hi, bnd]
  rw [if_pos (by rw [List.length_map]; exact hl), lcL_flt it p y l [] hs]
  rfl
theorem lc_map {α : Type} {i : Sm (List D)} {g : Tgt} {vs : List Nat} {f : Sm Ev} {ρ : Env} {M : Mem} {l : List α} (it : α → D) (y : α → D) (hi : i ρ M = .ok (l.map it) M) (hl : l.length ≤ most) (hs : ∀ x ∈ l, ∃ ρ1, tgE g (wipeE ρ vs) (it x) = some ρ1 ∧ f ρ1 M = .ok (.d (y x)) M) : fLc i g vs tYesE f ρ M = .ok (l.map y) M := by
  have h := lc_flt (t := tYesE) it (fun _ => true) y hi hl fun x hx => by
    obtain ⟨ρ1, e1, e2⟩ := hs x hx
    exact ⟨ρ1, e1, rfl, fun _ => e2⟩
  rw [h]
  congr 2
  exact List.filter_eq_self.mpr fun _ _ => rfl
/-- over one name -/
theorem lc_one {α : Type} {i : Sm (List D)} {j : Nat} {f : Sm Ev} {ρ : Env} {M : Mem} {l : List α} (it : α → D) (y : α → D) (hi : i ρ M = .ok (l.map it) M) (hl : l.length ≤ most) (hj : j < ρ.length) (hs : ∀ x ∈ l, f (ρ.set j (some (.d (it x)))) M = .ok (.d (y x)) M) : fLc i (.one j) [j] tYesE f ρ M = .ok (l.map y) M :=
  lc_map it y hi hl fun x hx => ⟨_, tg_wipe1 hj, hs x hx⟩
theorem rangeL_map (a n : Nat) : rangeL (a : Int) n 1 = (List.range n).map fun i => D.int ((a + i : Nat) : Int) := by
  unfold rangeL
  refine List.map_congr_left fun i _ => ?_
  rw [Int.mul_one, Int.natCast_add]
theorem lc_rng {i : Sm (List D)} {j a n : Nat} {f : Sm Ev} {ρ : Env} {M : Mem} (y : Nat → D) (hi : i ρ M = .ok (rangeL (a : Int) n 1) M) (hl : n ≤ most) (hj : j < ρ.length) (hs : ∀ k, k < n → f (ρ.set j (some (.d (.int ((a + k : Nat) : Int))))) M = .ok (.d (y k)) M) : fLc i (.one j) [j] tYesE f ρ M = .ok ((List.range n).map y) M := by
  rw [rangeL_map] at hi
  exact lc_one (fun i => D.int ((a + i : Nat) : Int)) y hi (by rw [List.length_range]; exact hl) hj fun x hx => hs x (List.mem_range.mp hx)
theorem q_F {f : Sm (List D)} {ρ : Env} {M M' : Mem} {l : List D} (h : f ρ M = .ok l M') : eF f ρ M = .ok (.d (.lst l)) M' := by simp only [eF, h, bnd]
theorem q_eif {t : Sm Bool} {f g : Sm Ev} {ρ : Env} {M M' : Mem} {b : Bool} (h : t ρ M = .ok b M') : eIf t f g ρ M = if b = true then f ρ M' else g ρ M' := by simp only [eIf, h, bnd]
/-- a loop that runs through, its frames told -/
theorem for_st {g : Tgt} {f : Ss} {M : Mem} : ∀ (items : List D) (k : Nat) (st : Nat → Env), (∀ i d, items[i]? = some d → ∃ ρ1, tgE g (st (k + i)) d = some ρ1 ∧ f ρ1 M = .nx (st (k + i + 1)) M) → forL g f items (st k) M = .nx (st (k + items.length)) M
  | [], k, st, _ => rfl
  | d :: r, k, st, hs => by
    obtain ⟨ρ1, e1, e2⟩ := hs 0 d rfl
    rw [Nat.add_zero] at e1 e2
    simp only [forL, e1, e2]
    rw [for_st r (k + 1) st fun i d hd => by
      have := hs (i + 1) d (by simpa using hd)
      rw [show k + (i + 1) = k + 1 + i by omega] at this
      exact this, List.length_cons, show k + 1 + r.length = k + (r.length + 1) by omega]
/-- a loop that goes through, or is left by a return -/
theorem for_rt {g : Tgt} {f : Ss} {v : D} (Inv : Nat → Env → Mem → Prop) (Post : Mem → Prop) : ∀ (items : List D) (k n : Nat) (ρ : Env) (M : Mem), n < items.length →
    (∀ i d ρ M, i < n → items[i]? = some d → Inv (k + i) ρ M → ∃ ρ1 ρ' M', tgE g ρ d = some ρ1 ∧ f ρ1 M = .nx ρ' M' ∧ Inv (k + i + 1) ρ' M') →
    (∀ d ρ M, items[n]? = some d → Inv (k + n) ρ M → ∃ ρ1 M', tgE g ρ d = some ρ1 ∧ f ρ1 M = .rt v M' ∧ Post M') → Inv k ρ M → ∃ M', forL g f items ρ M = .rt v M' ∧ Post M'
  | [], _, _, _, _, h, _, _, _ => absurd h (by simp)
  | d :: r, k, 0, ρ, M, _, _, hr, h => by
    obtain ⟨ρ1, M', e1, e2, hp⟩ := hr d ρ M rfl h
    exact ⟨M', by simp only [forL, e1, e2], hp⟩
  | d :: r, k, n + 1, ρ, M, hn, hs, hr, h => by
    obtain ⟨ρ1, ρ', M1, e1, e2, h'⟩ := hs 0 d ρ M (by omega) rfl h
    obtain ⟨M', e3, hp⟩ := for_rt Inv Post r (k + 1) n ρ' M1 (by simpa using hn) (fun i d ρ M hi hd h => by
      have := hs (i + 1) d ρ M (by omega) (by simpa using hd) (by rw [show k + (i + 1) = k + 1 + i by omega]; exact h)
      rw [show k + (i + 1) + 1 = k + 1 + i + 1 by omega] at this
      exact this) (fun d ρ M hd h => hr d ρ M (by simpa using hd) (by rw [show k + (n + 1) = k + 1 + n by omega]; exact h)) h'
    exact ⟨M', by simp only [forL, e1, e2, e3], hp⟩
/-- a while's frames told, by a measure that falls by one -/
theorem while_st {tc : Sm Bool} {f : Ss} {M : Mem} (st : Nat → Env) : ∀ (m k fu : Nat), m < fu → (∀ i, i < m → tc (st (k + i)) M = .ok true M ∧ f (st (k + i)) M = .nx (st (k + i + 1)) M) → tc (st (k + m)) M = .ok false M → sWhile tc f fu (st k) M = .nx (st (k + m)) M
  | m, k, 0, h, _, _ => by omega
  | 0, k, fu + 1, _, _, h => by
    rw [Nat.add_zero] at h ⊢
    simp only [sWhile, h, sE, Bool.false_eq_true, if_false]
    try rfl
  | m + 1, k, fu + 1, hf, hs, h => by
    obtain ⟨e1, e2⟩ := hs 0 (by omega)
    rw [Nat.add_zero] at e1 e2
    simp only [sWhile, e1, sE, if_true, e2]
    rw [while_st st m (k + 1) fu (by omega) (fun i hi => by
      have := hs (i + 1) (by omega)
      rw [show k + (i + 1) = k + 1 + i by omega] at this
      exact this) (by rw [show k + 1 + m = k + (m + 1) by omega]; exact h), show k + 1 + m = k + (m + 1) by omega]
end DL

set_option Elab.async false
set_option linter.all false
set_option maxRecDepth 100000
set_option maxHeartbeats 4000000
/-! The data layer's readings, plainly: what the laws share. -/
namespace DL
open PySem PySem.Spec PyProof.Rows L2
theorem At.same {ρ : Env} {i : Nat} {x : Ev} (h : At ρ i x) : ρ.set i (some x) = ρ := by
  refine List.ext_getElem? fun k => ?_
  by_cases hk : k = i
  · subst hk; rw [List.getElem?_set_self h.lt]; exact h.symm
  · rw [List.getElem?_set_ne (fun z => hk z.symm)]
section
variable {ρ : Env} {M M' M'' : Mem} {f g : Sm Ev}
theorem q_appO {i : Nat} {l : List D} {d : D} (h : f ρ M = .ok (.d d) M') (hi : At ρ i (.ls .own l)) (hl : l.length < most) : sApp i f ρ M = .nx (ρ.set i (some (.ls .own (l ++ [d])))) M' := by
  have w : wrt ρ M i = true := by unfold wrt; unfold At at hi; rw [hi]
  unfold At at hi
  simp only [sApp, w, if_true, h, sE, appO, hi, if_pos hl]
theorem q_extO {i : Nat} {l l' : List D} (h : f ρ M = .ok (.d (.lst l')) M') (hi : At ρ i (.ls .own l)) (hl : l.length + l'.length ≤ most) : sExt i f ρ M = .nx (ρ.set i (some (.ls .own (l ++ l')))) M' := by
  have w : ownB ρ i = true := by unfold ownB; unfold At at hi; rw [hi]
  unfold At at hi
  simp only [sExt, w, if_true, h, sE, extO, lstOf, hi, if_pos hl]
theorem q_setNF {i : Nat} {f : Sm (List D)} {l : List D} (h : f ρ M = .ok l M') (hi : i < ρ.length) : sSetN i (nF f) ρ M = .nx (ρ.set i (some (.ls .own l))) M' := by
  simp only [sSetN, nF, h, bnd, sE, if_pos hi]
theorem q_drop {x : Ev} (h : f ρ M = .ok x M') : sDrop f ρ M = .nx ρ M' := by simp only [sDrop, sE, h]
theorem q_dropX {c : Str} (h : f ρ M = .exc c none M') : sDrop f ρ M = .exc c none ρ M' := by simp only [sDrop, sE, h]
theorem q_setX {i : Nat} {c : Str} (h : f ρ M = .exc c none M') : sAsg i f ρ M = .exc c none ρ M' := by simp only [sAsg, sE, h]
theorem q_retX {c : Str} (h : f ρ M = .exc c none M') : sRet f ρ M = .exc c none ρ M' := by simp only [sRet, sE, h]
theorem q_ifX {t : Sm Bool} {a b : Ss} {c : Str} (h : t ρ M = .exc c none M') : sIf t a b ρ M = .exc c none ρ M' := by simp only [sIf, sE, h]
theorem q_truX {c : Str} (h : f ρ M = .exc c none M') : tTru f ρ M = .exc c none M' := by simp only [tTru, truB, bnd, h]
theorem q_notX {t : Sm Bool} {c : Str} (h : t ρ M = .exc c none M') : bNot t ρ M = .exc c none M' := by simp only [bNot, bnd, h]
theorem q_callX {F : Fn} {n : Nat} {es : Sm (List Ev)} {xs ys : List Ev} {c : Str} (h : es ρ M = .ok xs M') (hp : DL.passL xs = some ys) (hn : ys.length = n) (hF : F ys M' = .exc c none M'') : eCall n F es ρ M = .exc c none M'' := by simp only [eCall, bnd, h, hp, if_pos hn, hF]
theorem q_tup1 {a : D} (h1 : f ρ M = .ok (.d a) M') : eTup (aCons f aNil) ρ M = .ok (.d (.tup [a])) M' := by
  simp only [eTup, q_cons1 h1, bnd]; rfl
theorem q_tup2 {a b : D} (h1 : f ρ M = .ok (.d a) M') (h2 : g ρ M' = .ok (.d b) M'') : eTup (aCons f (aCons g aNil)) ρ M = .ok (.d (.tup [a, b])) M'' := by
  simp only [eTup, q_cons2 h1 h2, bnd]; rfl
theorem q_lst1 {a : D} (h1 : f ρ M = .ok (.d a) M') : eLst (aCons f aNil) ρ M = .ok (.d (.lst [a])) M' := by
  simp only [eLst, q_cons1 h1, bnd]; rfl
theorem q_lst2 {a b : D} (h1 : f ρ M = .ok (.d a) M') (h2 : g ρ M' = .ok (.d b) M'') : eLst (aCons f (aCons g aNil)) ρ M = .ok (.d (.lst [a, b])) M'' := by
  simp only [eLst, q_cons2 h1 h2, bnd]; rfl
theorem q_eqI {a b : Int} (h1 : f ρ M = .ok (.d (.int a)) M') (h2 : g ρ M' = .ok (.d (.int b)) M'') : tCmpE (opEq false) f g ρ M = .ok (decide (a = b)) M'' := by
  refine q_cmp ?_
  rw [q_bin h1 h2]; simp [opEq, eqR]
theorem q_neI {a b : Int} (h1 : f ρ M = .ok (.d (.int a)) M') (h2 : g ρ M' = .ok (.d (.int b)) M'') : tCmpE (opEq true) f g ρ M = .ok (!decide (a = b)) M'' := by
  refine q_cmp ?_
  rw [q_bin h1 h2]; simp [opEq, eqR]
theorem e_eqI {a b : Int} (h1 : f ρ M = .ok (.d (.int a)) M') (h2 : g ρ M' = .ok (.d (.int b)) M'') : eBin (opEq false) f g ρ M = .ok (bv (decide (a = b))) M'' := by
  rw [q_bin h1 h2]; simp [opEq, eqR]
theorem e_neI {a b : Int} (h1 : f ρ M = .ok (.d (.int a)) M') (h2 : g ρ M' = .ok (.d (.int b)) M'') : eBin (opEq true) f g ρ M = .ok (bv (!decide (a = b))) M'' := by
  rw [q_bin h1 h2]; simp [opEq, eqR]
theorem q_gtI {a b : Int} (h1 : f ρ M = .ok (.d (.int a)) M') (h2 : g ρ M' = .ok (.d (.int b)) M'') : tCmpE opGt f g ρ M = .ok (decide (b < a)) M'' := by
  refine q_cmp ?_
  rw [q_bin h1 h2]; rfl
theorem q_geI {a b : Int} (h1 : f ρ M = .ok (.d (.int a)) M') (h2 : g ρ M' = .ok (.d (.int b)) M'') : tCmpE opGe f g ρ M = .ok (decide (b ≤ a)) M'' := by
  refine q_cmp ?_
  rw [q_bin h1 h2]; rfl
theorem q_leI {a b : Int} (h1 : f ρ M = .ok (.d (.int a)) M') (h2 : g ρ M' = .ok (.d (.int b)) M'') : tCmpE opLe f g ρ M = .ok (decide (a ≤ b)) M'' := by
  refine q_cmp ?_
  rw [q_bin h1 h2]; rfl
theorem q_ltI {a b : Int} (h1 : f ρ M = .ok (.d (.int a)) M') (h2 : g ρ M' = .ok (.d (.int b)) M'') : tCmpE opLt f g ρ M = .ok (decide (a < b)) M'' := by
  refine q_cmp ?_
  rw [q_bin h1 h2]; rfl
theorem q_sub {a b : Int} (h1 : f ρ M = .ok (.d (.int a)) M') (h2 : g ρ M' = .ok (.d (.int b)) M'') : eBin opSub f g ρ M = .ok (.d (.int (a - b))) M'' := by
  rw [q_bin h1 h2]; rfl
theorem q_add {a b : Int} (h1 : f ρ M = .ok (.d (.int a)) M') (h2 : g ρ M' = .ok (.d (.int b)) M'') : eBin opAdd f g ρ M = .ok (.d (.int (a + b))) M'' := by
  rw [q_bin h1 h2]; rfl
theorem q_mul {a b : Int} (hc : cMul a b) (h1 : f ρ M = .ok (.d (.int a)) M') (h2 : g ρ M' = .ok (.d (.int b)) M'') : eBin opMulA f g ρ M = .ok (.d (.int (a * b))) M'' := by
  rw [q_bin h1 h2]
  simp only [opMulA, opMul, if_pos hc]
theorem q_mod {a b : Int} (hc : 0 < b) (h1 : f ρ M = .ok (.d (.int a)) M') (h2 : g ρ M' = .ok (.d (.int b)) M'') : eBin opMod f g ρ M = .ok (.d (.int (a % b))) M'' := by
  rw [q_bin h1 h2]
  simp only [opMod, if_pos hc]
theorem q_div {a b : Int} (hc : cDiv a b) (h1 : f ρ M = .ok (.d (.int a)) M') (h2 : g ρ M' = .ok (.d (.int b)) M'') : eBin opDiv f g ρ M = .ok (.d (.int (a / b))) M'' := by
  rw [q_bin h1 h2]
  simp only [opDiv, if_pos hc]
theorem q_int {a : Int} (h : f ρ M = .ok (.d (.int a)) M') : eB bInt (aCons f aNil) ρ M = .ok (.d (.int a)) M' := by
  rw [q_B (q_cons1 h)]; rfl
theorem q_max2 {a b : Int} (h1 : f ρ M = .ok (.d (.int a)) M') (h2 : g ρ M' = .ok (.d (.int b)) M'') : eB bMax (aCons f (aCons g aNil)) ρ M = .ok (.d (.int (max a b))) M'' := by
  rw [q_B (q_cons2 h1 h2)]
  have : (if a < b then b else a) = max a b := by split <;> omega
  simp [bMax, this]
theorem q_andB {t u : Sm Bool} {b c : Bool} (h : t ρ M = .ok b M') (h' : u ρ M' = .ok c M') : bAnd t u ρ M = .ok (b && c) M' := by
  cases b
  · rw [q_and0 h]; rfl
  · rw [q_and1 h, h']; rfl
theorem q_orB {t u : Sm Bool} {b c : Bool} (h : t ρ M = .ok b M') (h' : u ρ M' = .ok c M') : bOr t u ρ M = .ok (b || c) M' := by
  cases b
  · rw [q_or0 h, h']; rfl
  · rw [q_or1 h]; rfl
theorem q_eandB {b c : Bool} (h : f ρ M = .ok (bv b) M') (h' : g ρ M' = .ok (bv c) M') : eAnd f g ρ M = .ok (bv (b && c)) M' := by
  cases b
  · rw [q_eand0 h rfl]; rfl
  · rw [q_eand1 h rfl, h']; rfl
theorem q_lenL {l : List D} (h : f ρ M = .ok (.d (.lst l)) M') : eB bLen (aCons f aNil) ρ M = .ok (.d (.int (l.length : Int))) M' := by
  rw [q_B (q_cons1 h)]; rfl
theorem q_lenT {l : List D} (h : f ρ M = .ok (.d (.tup l)) M') : eB bLen (aCons f aNil) ρ M = .ok (.d (.int (l.length : Int))) M' := by
  rw [q_B (q_cons1 h)]; rfl
theorem toBls_map {l : List α} (p : α → Bool) : toBls (l.map fun x => D.bl (p x)) = some (l.map p) := by
  induction l with
  | nil => rfl
  | cons a l ih => rw [List.map_cons, toBls, ih]; rfl
theorem q_all {α : Type} {l : List α} (p : α → Bool) (h : f ρ M = .ok (.d (.lst (l.map fun x => D.bl (p x)))) M') : eB bAll (aCons f aNil) ρ M = .ok (bv (l.all p)) M' := by
  rw [q_B (q_cons1 h)]
  have e : blsOf (.d (.lst (l.map fun x => D.bl (p x)))) = some (l.map p) := by
    show (some (l.map fun x => D.bl (p x))).bind toBls = _
    exact toBls_map p
  simp [bAll, e, List.all_map, Function.comp_def]
theorem q_any {α : Type} {l : List α} (p : α → Bool) (h : f ρ M = .ok (.d (.lst (l.map fun x => D.bl (p x)))) M') : eB bAny (aCons f aNil) ρ M = .ok (bv (l.any p)) M' := by
  rw [q_B (q_cons1 h)]
  have e : blsOf (.d (.lst (l.map fun x => D.bl (p x)))) = some (l.map p) := by
    show (some (l.map fun x => D.bl (p x))).bind toBls = _
    exact toBls_map p
  simp [bAny, e, List.any_map, Function.comp_def]
end
/-- a loop that may be left by a return at the first item that fits -/
theorem for_find {g : Tgt} {f : Ss} {M : Mem} (Inv : Env → Prop) (P : Nat → Bool) (v : Nat → D) : ∀ (items : List D) (k : Nat) (ρ : Env),
    (∀ i d ρ, items[i]? = some d → Inv ρ → ∃ ρ1, tgE g ρ d = some ρ1 ∧ (P (k + i) = true → f ρ1 M = .rt (v (k + i)) M) ∧ (P (k + i) = false → ∃ ρ', f ρ1 M = .nx ρ' M ∧ Inv ρ')) → Inv ρ →
    (∃ ρ', (List.range' k items.length).find? P = none ∧ forL g f items ρ M = .nx ρ' M ∧ Inv ρ') ∨ (∃ i, (List.range' k items.length).find? P = some i ∧ forL g f items ρ M = .rt (v i) M)
  | [], k, ρ, _, h => .inl ⟨ρ, rfl, rfl, h⟩
  | d :: r, k, ρ, hs, h => by
    obtain ⟨ρ1, e1, e2, e3⟩ := hs 0 d ρ rfl h
    rw [Nat.add_zero] at e2 e3
    rw [List.length_cons, List.range'_succ]
    cases hp : P k with
    | true =>
      refine .inr ⟨k, List.find?_cons_of_pos hp, ?_⟩
      simp only [forL, e1, e2 hp]
    | false =>
      obtain ⟨ρ', e4, h'⟩ := e3 hp
      rw [List.find?_cons_of_neg (by simp [hp])]
      have := for_find Inv P v r (k + 1) ρ' (fun i d ρ hd h => by
        have := hs (i + 1) d ρ (by simpa using hd) h
        rw [show k + (i + 1) = k + 1 + i by omega] at this
        exact this) h'
      simp only [forL, e1, e4]
      exact this
theorem Hd.mono {cells : List Int} {B C : Nat} {M : Mem} (h : Hd cells B M) (k : B ≤ C) : Hd cells C M := by
  obtain ⟨p, v, s, c, e, a1, a2, a3, a4, a5, a6⟩ := h.ex
  exact ⟨p, v, s, c, e, a1, a2, a3, a4, a5, by omega⟩
def Cl (cells : List Int) : Prop := ∀ z ∈ cells, 0 ≤ z ∧ Builtin.Int.intBits z ≤ 1048576
theorem zip_same {α : Type} : ∀ {l : List α} {p : α × α}, p ∈ l.zip l → p.1 = p.2 ∧ p.1 ∈ l
  | [], _, h => by cases h
  | a :: l, p, h => by
    rcases List.mem_cons.mp h with rfl | h
    · exact ⟨rfl, List.mem_cons_self⟩
    · obtain ⟨h1, h2⟩ := zip_same h
      exact ⟨h1, List.mem_cons_of_mem _ h2⟩
theorem cut_take {α : Type} (l : List α) (k : Nat) : DL.cutD l none (some (k : Int)) = l.take k := by
  unfold DL.cutD
  rw [HT.sIx_none, HT.sIx_nat, Nat.sub_zero, List.drop_zero]
  by_cases h : k ≤ l.length
  · rw [Nat.min_eq_left h]
  · rw [List.take_of_length_le (by omega), List.take_of_length_le (by omega)]
/-! numbers within bounds -/
def S_integer : Ss := (sRet (eAnd (eB bIsi (aCons (eVar 0) (aCons (eC (.ty "int")) aNil))) (eNot (eB bIsi (aCons (eVar 0) (aCons (eC (.ty "bool")) aNil))))))
def W_integer : Fn := fnOf 1 S_integer
def S_within : Ss := (sRet (eAnd (eCall 1 W_integer (aCons (eVar 0) aNil)) (eChain opLe opLe (eVar 1) (eVar 0) (eVar 2))))
def W_within : Fn := fnOf 3 S_within
theorem integer_int (i : Int) (M : Mem) : W_integer [.d (.int i)] M = .ok (.bl true) M := rfl
/-- what is no number -/
def NoInt : D → Bool
  | .int _ => false
  | .bl _ => true
  | .non => true
  | .str _ => true
  | .tup _ => true
  | .lst _ => true
  | .dK _ _ => true
  | _ => false
theorem integer_no {d : D} (h : NoInt d = true) (M : Mem) : W_integer [.d d] M = .ok (.bl false) M := by
  cases d <;> first | rfl | (simp [NoInt] at h)
theorem within_int {i a b : Int} (M : Mem) : W_within [.d (.int i), .d (.int a), .d (.int b)] M = .ok (.bl (decide (a ≤ i ∧ i ≤ b))) M := by
  unfold W_within; rw [fnOf_eq]
  have v0 : eVar 0 [some (.d (.int i)), some (.d (.int a)), some (.d (.int b))] M = .ok (.d (.int i)) M := rfl
  have e := q_call (n := 1) (q_cons1 v0) rfl rfl (integer_int i M)
  show fnEnd (S_within [some (.d (.int i)), some (.d (.int a)), some (.d (.int b))] M) = _
  have c : eChain opLe opLe (eVar 1) (eVar 0) (eVar 2) [some (.d (.int i)), some (.d (.int a)), some (.d (.int b))] M = .ok (bv (decide (a ≤ i ∧ i ≤ b))) M := by
    by_cases k : a ≤ i
    · simp [eChain, eVar, look, bnd, opI2, k]
    · simp [eChain, eVar, look, bnd, opI2, k]
  rw [S_within, q_ret (x := bv (decide (a ≤ i ∧ i ≤ b))) (M' := M) (d := .bl (decide (a ≤ i ∧ i ≤ b))) (by rw [q_eand1 e rfl, c]) rfl]
  rfl
theorem within_no {d : D} (h : NoInt d = true) (a b : D) (M : Mem) : W_within [.d d, .d a, .d b] M = .ok (.bl false) M := by
  unfold W_within; rw [fnOf_eq]
  have v0 : eVar 0 [some (.d d), some (.d a), some (.d b)] M = .ok (.d d) M := rfl
  have e := q_call (n := 1) (q_cons1 v0) rfl rfl (integer_no h M)
  show fnEnd (S_within [some (.d d), some (.d a), some (.d b)] M) = _
  rw [S_within, q_ret (x := bv false) (M' := M) (d := .bl false) (by rw [q_eand0 e rfl]) rfl]
  rfl
/-! what is told is what is due -/
def Sf (n : Nat) (d : D) : Prop := ∀ M, R_is n [.d d, .d d] M = .ok (.bl true) M
theorem Sf.int (n : Nat) (a : Int) : Sf (n + 1) (.int a) := fun M => by rw [is_int, decide_eq_true rfl]
theorem Sf.non (n : Nat) : Sf (n + 1) .non := fun M => rfl
theorem Sf.str (n : Nat) (a : Str) : Sf (n + 1) (.str a) := fun M => by
  show fnOf 4 (S_is (R_is n)) _ _ = _
  rw [fnOf_eq]
  have v0 : eVar 0 [some (.d (.str a)), some (.d (.str a)), none, none] M = .ok (.d (.str a)) M := rfl
  have v1 : eVar 1 [some (.d (.str a)), some (.d (.str a)), none, none] M = .ok (.d (.str a)) M := rfl
  have t1 := truV (isi2 (b := "tuple") (c := "list") v1 (a := "str") rfl (by decide) (by decide))
  have t2 : (bOr (tCmpE (opIs false) (eVar 1) (eC .non)) (tCmpE (opIs false) (eVar 0) (eC .non))) [some (.d (.str a)), some (.d (.str a)), none, none] M = .ok false M := rfl
  have t3 := neB (isi1 (b := "bool") v0 (a := "str") rfl (by decide)) (isi1 (b := "bool") v1 (a := "str") rfl (by decide))
  have t4 := neB (isi1 (b := "int") v0 (a := "str") rfl (by decide)) (isi1 (b := "int") v1 (a := "str") rfl (by decide))
  have t5 := eqB (isi1 (b := "str") v0 (a := "str") rfl (by decide)) (isi1 (b := "str") v1 (a := "str") rfl (by decide))
  rw [show (isOf "str" "tuple" || isOf "str" "list") = false by decide] at t1
  rw [show (!decide (isOf "str" "bool" = isOf "str" "bool")) = false by decide] at t3
  rw [show (!decide (isOf "str" "int" = isOf "str" "int")) = false by decide] at t4
  rw [show decide (isOf "str" "str" = isOf "str" "str") = true by decide] at t5
  show fnEnd (S_is (R_is n) [some (.d (.str a)), some (.d (.str a)), none, none] M) = _
  have t6 : eBin (opEq false) (eVar 0) (eVar 1) [some (.d (.str a)), some (.d (.str a)), none, none] M = .ok (bv true) M := by rw [q_bin v0 v1]; simp [opEq, eqR]
  rw [S_is, q_nx (q_skip t1), q_nx (q_skip t2), q_nx (q_skip (by rw [q_or0 t3]; exact t4)), q_ret (x := bv true) (by rw [q_eand1 t5 rfl]; exact t6) rfl]
  rfl
theorem Sf.bl (n : Nat) (a : Bool) : Sf (n + 1) (.bl a) := fun M => by
  show fnOf 4 (S_is (R_is n)) _ _ = _
  rw [fnOf_eq]
  have v0 : eVar 0 [some (.d (.bl a)), some (.d (.bl a)), none, none] M = .ok (.d (.bl a)) M := rfl
  have v1 : eVar 1 [some (.d (.bl a)), some (.d (.bl a)), none, none] M = .ok (.d (.bl a)) M := rfl
  have t1 := truV (isi2 (b := "tuple") (c := "list") v1 (a := "bool") rfl (by decide) (by decide))
  have t2 : (bOr (tCmpE (opIs false) (eVar 1) (eC .non)) (tCmpE (opIs false) (eVar 0) (eC .non))) [some (.d (.bl a)), some (.d (.bl a)), none, none] M = .ok false M := rfl
  have t3 := neB (isi1 (b := "bool") v0 (a := "bool") rfl (by decide)) (isi1 (b := "bool") v1 (a := "bool") rfl (by decide))
  have t4 := neB (isi1 (b := "int") v0 (a := "bool") rfl (by decide)) (isi1 (b := "int") v1 (a := "bool") rfl (by decide))
  have t5 := eqB (isi1 (b := "str") v0 (a := "bool") rfl (by decide)) (isi1 (b := "str") v1 (a := "bool") rfl (by decide))
  rw [show (isOf "bool" "tuple" || isOf "bool" "list") = false by decide] at t1
  rw [show (!decide (isOf "bool" "bool" = isOf "bool" "bool")) = false by decide] at t3
  rw [show (!decide (isOf "bool" "int" = isOf "bool" "int")) = false by decide] at t4
  rw [show decide (isOf "bool" "str" = isOf "bool" "str") = true by decide] at t5
  show fnEnd (S_is (R_is n) [some (.d (.bl a)), some (.d (.bl a)), none, none] M) = _
  have t6 : eBin (opEq false) (eVar 0) (eVar 1) [some (.d (.bl a)), some (.d (.bl a)), none, none] M = .ok (bv true) M := by rw [q_bin v0 v1]; simp [look, opEq, eqR_bl]
  rw [S_is, q_nx (q_skip t1), q_nx (q_skip t2), q_nx (q_skip (by rw [q_or0 t3]; exact t4)), q_ret (x := bv true) (by rw [q_eand1 t5 rfl]; exact t6) rfl]
  rfl
theorem Sf.tup {n : Nat} {l : List D} (hl : l.length ≤ most) (h : ∀ d ∈ l, Sf n d) : Sf (n + 1) (.tup l) := fun M => is_tup n l l M rfl hl fun p hp => by
  obtain ⟨h1, h2⟩ := zip_same hp
  rw [← h1]; exact h _ h2 M
theorem Sf.lst {n : Nat} {l : List D} (hl : l.length ≤ most) (h : ∀ d ∈ l, Sf n d) : Sf (n + 1) (.lst l) := fun M => is_lst n l l M rfl hl fun p hp => by
  obtain ⟨h1, h2⟩ := zip_same hp
  rw [← h1]; exact h _ h2 M
end DL

set_option Elab.async false
set_option linter.all false
set_option maxRecDepth 100000
set_option maxHeartbeats 2000000
/-! The data layer: list(x) as a new list, v.pop(); try: call() / except .. as e: .. return .. / return a constant. -/
namespace DL
open PySem PySem.Spec PyProof.Rows L2
section
variable {X : Cx} {T : List (Addr × Str)} {W : WX} {e : Expr} {pos p : Pos} {fs : Sm (List Ev)}
/-- list(x), a new list -/
def lst1 (xs : List Ev) : Option (List D) := match xs with
  | [x] => seqOf x
  | _ => none
def fLstO (fs : Sm (List Ev)) : Sm (List D) := fun ρ M => bnd (fs ρ M) fun xs M1 => optR (lst1 xs) M1
theorem df_lstO (hg : Gl X "list") (hm : X.mg "list" = none) (ha : PA X [e] (tA (cf X T W) fs)) (hpl : (backTo pos (starEach ([] : List Expr) X.env)).any (·.1) = false := by rfl) (he : starEach [e] X.env = (false, eval e X.env) :: starEach [] X.env := by rfl) : PE X (.Call (.Name "list" p) [e] [] pos) (tF (cf X T W) (fLstO fs)) := by
  refine ⟨fun pins s σ H Q I q => (pe_callTy call_list_of hg hm bo_list ha (by decide) (by decide) he hpl).run pins s σ H Q I ?_⟩
  obtain ⟨H0, A, m, M, ρ, P, F, q⟩ := q
  refine subF F q fun xs M1 H1 vs F1 s1 r1 q1 => ?_
  cases e2 : lst1 xs with
  | none => rw [e2] at q1; exact q1.elim
  | some l =>
    rw [e2] at q1
    unfold lst1 at e2
    split at e2
    · obtain ⟨v, rfl, r⟩ := Paired.one r1
      obtain ⟨a, vs, ev, hs, qr⟩ := seqOf_at e2 r
      exact ⟨a, vs, by rw [ev], hs, fun p hp => mk_new F F1 s1 qr hp q1⟩
    · cases e2
/-- v.pop() -/
def sPop (j : Nat) : Ss := fun ρ M => match ρ[j]? with
  | some (some (.ls .own l)) => if l = [] then .stuck else .nx (ρ.set j (some (.ls .own l.dropLast))) M
  | _ => .stuck
theorem Rps.dropLast {K : PySem.W.Frag} {A m : List Addr} {H : Hp} : ∀ {l : List D} {vs : List V}, Rps K A m H l vs → Rps K A m H l.dropLast vs.dropLast
  | [], vs, h => by cases (show vs = [] from h); exact rfl
  | [d], vs, ⟨v, r, e, h1, h2⟩ => by cases (show r = [] from h2); subst e; exact rfl
  | d :: d' :: l, vs, ⟨v, r, e, h1, h2⟩ => by
    obtain ⟨v', r', e', h3, h4⟩ := h2
    subst e; subst e'
    exact ⟨v, (v' :: r').dropLast, rfl, h1, Rps.dropLast ⟨v', r', rfl, h3, h4⟩⟩
theorem ds_pop {j : Nat} {x : Str} {apos cpos : Pos} (hN : X.N[j]? = some x := by rfl) (hv : Vis X.env.scope x := by first | exact Or.inl rfl | exact Or.inr (Or.inl rfl) | exact Or.inr (Or.inr rfl)) (hd : (x == ("__debug__" : Str)) = false := by decide)
    (hcd : (x == ("__classdict__" : Str)) = false := by decide) (hbase : attributeBase (.Name x p) "pop" X.env (eval (.Name x p) X.env) = eval (.Name x p) X.env := by rfl)
    (hline : (apos.endLine == cpos.line) = true := by rfl) (hsw : swapsWith (.Call (.Attribute (.Name x p) "pop" apos) [] [] cpos) none pos.line X.env = pure false := by rfl) :
    PS X (.Expr (.Call (.Attribute (.Name x p) "pop" apos) [] [] cpos) pos) (tS (cf X T W) (sPop j)) := by
  refine ⟨fun pins s σ H Dn I q => (ps_expr (pe_bm0 PySem.F.plainAttrs_list PySem.F.slot_list_pop PySem.F.type_list_pop mt_pop (pe_var hN hv hd hcd) hbase hline) hsw).run pins s σ H Dn I ?_⟩
  obtain ⟨H0, A, m, M, ρ, P, F, q⟩ := q
  unfold sPop at q
  split at q
  · rename_i l h
    split at q
    · exact q.elim
    · rename_i hne
      obtain ⟨p0, vs, e1, hp, hA, hm, r2, wt⟩ := F.ownL h
      have hl : vs.length = l.length := Rps.len r2
      have h0 : 0 < vs.length := by rw [hl]; exact List.length_pos_iff.mpr hne
      have F' := wt l.dropLast vs.dropLast (Rps.self hp trivial hA (Rps.dropLast r2))
      exact ⟨_, e1, .inl ⟨rfl, vs, SqL.of hp⟩, p0, vs, vs[vs.length - 1]'(by omega), rfl, rfl, hp, List.getElem?_eq_getElem (by omega), q A _ σ P (Ext.write hA) F'⟩
  · exact q.elim
end
theorem q_pop {ρ : Env} {M : Mem} {j : Nat} {l : List D} {d : D} (h : At ρ j (.ls .own (l ++ [d]))) : sPop j ρ M = .nx (ρ.set j (some (.ls .own l))) M := by
  unfold At at h
  have : ¬ l ++ [d] = [] := by simp
  simp only [sPop, h, if_neg this, List.dropLast_concat]
/-! ### a def that tries -/
theorem rp_scV {K : PySem.W.Frag} {A m : List Addr} {H : Hp} {d : D} {v v' : V} (h : scV d = some v) (r : Rp K A m H d v') : v' = v := by
  cases d <;> first | (cases h; exact r) | cases h
/-- try: call() / except pe as e: .. return .. / return tv -/
def TTt (K : PySem.W.Frag) (T : List (Addr × Str)) (CS : Addr) (tv : V) (ok : Addr → D → Prop) : (XK → Hp → VK → Prop) → Hp → VK → Prop := fun tl H Q =>
  tl (fun cls d H' => d = none ∧ ∃ Dc wd v, cls = .ref Dc ∧ ExcC K Dc ∧ PySem.W.exmOne K cls (.ref CS) = some true ∧ ok Dc wd ∧ scV wd = some v ∧ LamX.Tabs T H' ∧ ∀ H'', Stp [] H' H'' → LamX.Tabs T H'' → Q v H'') H (fun _ H' => Q tv H')
def trOk (K : PySem.W.Frag) (mg : Str → Option Value) (n i : Nat) (g : Addr → List (Str × Bool) → Ss) (names : List Str) (Dc : Addr) (wd : D) : Prop :=
  ∃ fl, fl.map (·.1) = names ∧ FlOk K mg Dc fl ∧ ∀ a, g a fl (rhoX n i a) [] = .rt wd []
section
variable {X : Cx} {T : List (Addr × Str)} {W : WX}
theorem tried_gives {N : List Str} {x ca er pe q : Str} {sg : Scope} {g CS : Addr} {cdg : Value} {i : Nat} {tv : V} {re : Expr} {b₀ : Stmt} {suite : List Stmt} {gW : Addr → List (Str × Bool) → Ss} {names : List Str} {p1 p2 p3 p4 p10 p11 p13 : Pos} (h1 : sg.names.lookup pe = some .globalImplicit) (m1 : X.mg pe = some (.ref CS)) (d1 : (pe == ("__debug__" : Str)) = false)
    (nd : N.Nodup) (n0 : N[0]? = some ca) (ni : N[i]? = some er) (hi : sg.names.lookup er = some .local)
    (hre : ∀ (s : Shared) (H : Hp), PE (cxOf C8.CX0 X.prog X.w X.K X.mg X.base N x sg g cdg X.A X.stack s H C8.E0).nox re (tC tv))
    (hsu : ∀ (s : Shared) (H : Hp) (a Dc : Addr) (oe : Obj) (pn : List (Addr × Obj)) (fl : List (Str × Bool)), ExcC X.K Dc → Zc (.ref Dc) none oe → (∃ vs, oe.data = .fields vs) → FlOk X.K X.mg Dc fl → fl.map (·.1) = names →
      PSs (((cxOf C8.CX0 X.prog X.w X.K X.mg X.base N x sg g cdg X.A X.stack s H C8.E0).nox).suite a ((a, oe) :: pn)) (b₀ :: suite) (tS (cf (cxOf C8.CX0 X.prog X.w X.K X.mg X.base N x sg g cdg X.A X.stack s H C8.E0).nox T (fun _ _ _ _ => False)) (gW a fl))) :
    LamX.GivesTo X N x sg g cdg [.Try [.Expr (.Call (.Name ca p1) [] [] p2) p3] [.ExceptHandler (some (.Name pe p4)) (some er) (b₀ :: suite) p10] [] [] p11, .Return (some re) p13] ca q
      (TTt X.K T CS tv (trOk X.K X.mg N.length i gW names)) := by
  intro f c' s H Q tl act hc h
  have hgl : Gl (cxOf C8.CX0 X.prog X.w X.K X.mg X.base N x sg g cdg X.A X.stack s H C8.E0).nox pe := h1
  refine ⟨_, pss_cons (ps_try_as (X := (cxOf C8.CX0 X.prog X.w X.K X.mg X.base N x sg g cdg X.A X.stack s H C8.E0).nox) (i := i) (c := .ref CS)
      (tb := fun W D σ H => ∃ Ech : XK, (∀ cls d σ' H', Ech cls d H' → W cls d σ' H') ∧ σ[0]? = some (some (.ref f)) ∧ H c' = some (LamX.CodeO c' q) ∧ tl Ech H (fun _ H' => D.nx σ H'))
      (ts := fun a cls d D σ H => (i < σ.length → σ[i]? = some (some (.ref a))) ∧ d = none ∧ ∃ Dc wd v, cls = .ref Dc ∧ ExcC X.K Dc ∧ trOk X.K X.mg N.length i gW names Dc wd ∧ scV wd = some v ∧ LamX.Tabs T H ∧ ∀ H'', Stp [] H H'' → LamX.Tabs T H'' → D.rt v H'') (Wout := fun _ _ _ _ => False)
      rfl rfl nd ni hi ⟨hgl, d1, .inl m1⟩ takes0 (fun W pn xe tk _ => ?_) (fun a oe cls d pn hz hf => ?_)) (pss_one (ps_ret (hre s H))), ?_⟩
  · refine pss_one ⟨fun pins s' σ H' D I h' => ?_⟩
    obtain ⟨Ech, hW, k1, k2, k3⟩ := h'
    have hp := act W pn xe Ech p1 p2 tk hW
    exact (ps_expr (pos := p3) hp).run pins s' σ H' D I ⟨k1, k2, k3⟩
  · refine ⟨fun pins s' σ H' D I h' => ?_⟩
    obtain ⟨k1, rfl, Dc, wd, v0, rfl, ec, ⟨fl, hnm, hfl, hev⟩, hsc, kt, kq⟩ := h'
    have hl : σ.length = N.length := I.len
    refine (hsu s H a Dc oe pn fl ec hz hf hfl hnm).run pins s' σ H' D I ?_
    refine ⟨H', [], [], [], rhoX N.length i a, [], ⟨⟨rfl, List.nodup_nil, fun n a o e => by simp at e⟩, kt, er_one hl (fun hi => k1 (by rw [hl]; exact hi)), List.nodup_nil, fun a h => (nomatch h), fun a h => (nomatch h), fun a h => (nomatch h), Stp.refl _ _⟩, ?_⟩
    rw [hev a]
    intro H'' v w t st r
    have e3 : v = v0 := rp_scV hsc (r [] fun a h => nomatch h)
    subst e3
    exact kq H'' st t
  · exact ⟨fun cls d H' => d = none ∧ ∃ Dc wd v, cls = .ref Dc ∧ ExcC X.K Dc ∧ PySem.W.exmOne X.K cls (.ref CS) = some true ∧ trOk X.K X.mg N.length i gW names Dc wd ∧ scV wd = some v ∧ LamX.Tabs T H' ∧ ∀ H'', Stp [] H' H'' → LamX.Tabs T H'' → Q v H'',
      fun cls d σ' H' ⟨e1, Dc, wd, v, e2, e3, e4, e5, e5', e6, e7⟩ => ⟨true, e4, fun _ a _ => ⟨fun hl => List.getElem?_set_self (by simpa using hl), e1, Dc, wd, v, e2, e3, e5, e5', e6, e7⟩, fun z => by cases z⟩, rfl, hc, h⟩
/-- what was told where nothing was raised, else what the suite gives -/
def eTried (tw : Str → Option D) (told : D) (fb : Sm Ev) : Sm Ev := fun ρ M => match fb ρ M with
  | .ok _ M1 => .ok (.d told) M1
  | .exc c none M1 => match tw c with
    | some wd => .ok (.d wd) M1
    | none => .stuck
  | _ => .stuck
theorem scV_rp {K : PySem.W.Frag} {A m : List Addr} {H : Hp} {d : D} {v : V} (h : scV d = some v) : Rp K A m H d v := by
  cases d <;> first | (cases h; exact rfl) | cases h
theorem de_tried {x ca : Str} {st : Stmt} {g CS c P : Addr} {fd : FuncData} {k : Nat} {params : Arguments} {body : Expr} {scope : Scope} {fb : Sm Ev} {tw : Str → Option D} {told : D} {tv : V} {N : List Str} {ok : Addr → D → Prop} {p lpos pos : Pos} (Fr : FunD X.K x x (defArgs st) (defBody st) (defScope st) [] [] g fd) (hm : X.mg x = some (.ref g)) (hb : Binds X.K fd [ca] [])
    (Sg : FnScope N [ca] (defScope st)) (n0 : N[0]? = some ca) (h5 : (defScope st).names.lookup ca = some .local)
    (gives : LamX.GivesTo X N x (defScope st) g fd.code (defBody st) ca (X.env.qual ++ "<lambda>") (TTt X.K T CS tv ok)) (htv : scV told = some tv)
    (hx : ∀ c wd, tw c = some wd → ∃ Dc v, X.mg c = some (.ref Dc) ∧ ExcC X.K Dc ∧ PySem.W.exmOne X.K (.ref Dc) (.ref CS) = some true ∧ ok Dc wd ∧ scV wd = some v)
    (TB : LamX.TabB X.base X.mg c P) (hcode : X.env.code = .ref c) (hT : T = [(P, X.env.qual ++ "<lambda>")]) (hr : Room (k + 2) X.A) (hg : Gl X x)
    (hlam : ∀ (A : Around) (outer : List PySem.Env) (s : Shared) (H : Hp) (E : XK) (f c' : Addr), Room k (A.deeper (LamX.lamEnv X scope s.heap.objs.size f c')) → PE (LamX.lamCx X A outer s H E scope f c') body (tE (cf (LamX.lamCx X A outer s H E scope f c') T (wE E)) fb))
    (L : LamX.LamS X.env.scope scope) (hdef : defaultsOf params X.env = ([], []) := by rfl) (hbind : ∀ (q : Str) (cl : List (Str × Addr)) (pm cv ctv : Value), bindArgs (PySem.W.kla_fn "<lambda>" q params body scope cl pm cv ctv) ⟨[], []⟩ = pure [] := by intros; rfl)
    (hdb : (x == ("__debug__" : Str)) = false := by decide) (hda : (ca == ("__debug__" : Str)) = false := by decide) (hdc : (ca == ("__classdict__" : Str)) = false := by decide) :
    PE X (.Call (.Name x p) [.Lambda params body scope lpos] [] pos) (tE (cf X T W) (eTried tw told fb)) := by
  obtain ⟨oc, od, dV, kV, doc, pm, an, cdv, ct, osl, rfl, lk, hcd, hD, _⟩ := Fr.ex
  rcases hD with ⟨_, rfl⟩ | ⟨e, _⟩
  · refine ⟨fun pins s σ H Q I q => (LamX.pe_lamcall (T := T) (TT := TTt X.K T CS tv ok) (a := ca) (Ng := N) (k := k) (t := fun E => tE ⟨X.K, X.mg, T, wE E⟩ fb) hg hm Fr.kp lk hcd hb Sg n0 (Or.inl h5) gives TB hcode (by rw [hT]; exact List.mem_cons_self) (fun r hr _ => by
        rw [hT] at hr; rw [List.mem_singleton.mp hr]) hr L hdef hbind hlam hdb hda hdc).run pins s σ H Q I ?_⟩
    obtain ⟨H0, A, m, M, ρ, P', F, q⟩ := q
    refine ⟨F.tb, fun H1 en t1 => ?_⟩
    have s1 : Stp m H H1 := fun a o e _ t => en a o e t
    have F1 : FR ⟨X.K, X.mg, T, W⟩ H0 A m M H1 ρ σ P' := F.step s1 (F.wr.step en) t1
    refine ⟨H0, A, m, M, ρ, P', F1.wish rfl rfl, ?_⟩
    unfold eTried at q
    cases e : fb ρ M with
    | stuck => rw [e] at q; exact q.elim
    | ok x M1 =>
      rw [e] at q
      exact fun H' v s w t r => q H' tv (s1.trans s) w t (scV_rp htv)
    | exc c' g' M1 =>
      rw [e] at q
      cases g' with
      | some _ => exact q.elim
      | none =>
        cases e2 : tw c' with
        | none =>
          have q' : PX (cf X T W) m σ (relE X.K H0 A m) H (match tw c' with | some b => .ok (.d b) M1 | none => .stuck) Q := q
          rw [e2] at q'; exact q'.elim
        | some b =>
          have q' : PX (cf X T W) m σ (relE X.K H0 A m) H (match tw c' with | some b => .ok (.d b) M1 | none => .stuck) Q := q
          rw [e2] at q'
          intro H' cls d s w t hxr
          obtain ⟨C', hC, rfl, hd⟩ := hxr
          obtain ⟨Dc, v, g1, g2, g3, g4, g5⟩ := hx c' b e2
          have g1' : X.mg c' = some (.ref C') := hC
          rw [g1] at g1'; cases g1'
          exact ⟨hd, _, b, v, rfl, g2, g3, g4, g5, t, fun H'' st tb => q' H'' v (s1.trans (s.trans (st.mono fun _ h => nomatch h))) (w.step fun a o e tt => st a o e (fun h => nomatch h) tt) tb (scV_rp g5)⟩
  · exact absurd rfl e
end
end DL

set_option Elab.async false
set_option linter.all false
set_option maxRecDepth 100000
set_option maxHeartbeats 4000000
/-! The data layer: sets of ints made of a list, sorted. -/
namespace SetX
open PySem PySem.Spec PyProof.Rows L2
section
variable {P : Program} {w : World} {A : Around} {R : Result → Shared → Prop} {I : Addr} {fp wr : List Addr} {G : Array GenState → Array GenState → Prop} {n : Nat} {PP : Nat → Value → Prop} {St : Nat → Shared → Prop}
abbrev mem (val : Nat → Int) (i : Nat) : Int → Bool := fun k' => (firstMet val i).any (· == k')
theorem loop (W : WalksS P w A.in1 I fp wr G n PP St) (S : Addr) (hSf : S ∉ fp)
    (val : Nat → Int) (hval : ∀ i v, PP i v → ∃ t, v = .int (val i) t) (hb : n + 1 < scanBound) :
    ∀ (k i : Nat) (s : Shared), n - i = k → i ≤ n → St i s →
      SetR w s.heap S (mem val i) (firstMet val i).length →
      (∀ s', Moved (S :: wr) G s s' → SetR w s'.heap S (mem val n) (firstMet val n).length → R (.ok (.ret .none)) s') →
      codeAny (model P w) A (.builtin "set.update.loop" ⟨[.ref S, .ref I], []⟩) R s := by
  have hSw : S ∉ wr := fun h => hSf (W.sub _ h)
  have hsub : ∀ b ∈ wr, b ∈ S :: wr := fun b hb => List.mem_cons_of_mem _ hb
  intro k
  induction k with
  | zero =>
    intro i s hk hi hst hS hR
    have hin : i = n := by omega
    subst hin
    refine codeAny_builtin F.entry_set_update_loop ?_
    rw [Around.under_plainId F.plain_set_update_loop _]
    show wpAny _ A.in1 (pyNext (.ref I) >>= _) _ _ s
    refine wpAny_bind (W.done s _ _ hst fun s' hm => ?_)
    show wpAny _ A.in1 (ret Value.none) _ _ s'
    exact wpAny_pure (hR s' (hm.mono hsub) (hS.at fun o ho => hm.heap S _ hSw ho))
  | succ k ih =>
    intro i s hk hi hst hS hR
    have hlt : i < n := by omega
    refine codeAny_builtin F.entry_set_update_loop ?_
    rw [Around.under_plainId F.plain_set_update_loop _]
    show wpAny _ A.in1 (pyNext (.ref I) >>= _) _ _ s
    refine wpAny_bind (W.item i s _ _ hlt hst fun v s' hP hst' hm => ?_)
    obtain ⟨t, rfl⟩ := hval i v hP
    have hS' : SetR w s'.heap S (mem val i) (firstMet val i).length := hS.at fun o ho => hm.heap S _ hSw ho
    show wpAny _ A.in1 (holding [Value.int (val i) t] (setAdd S (.int (val i) t)) >>= _) _ _ s'
    refine wpAny_bind (wpAny_holding ?_)
    unfold setAdd
    refine wpAny_holding ?_
    refine wpAny_bind ((intKind P w).pyHash (k := val i) (intKind_is _ _ _ _) ?_)
    have hroom : (firstMet val i).length + 1 < scanBound := by have := firstMet_length_le val i; omega
    refine setR_add_hashed (s := { s' with toks := s'.toks + 1 }) hS' hroom fun h' hsb hS2 => ?_
    have hSi : SetR w h' S (mem val (i + 1)) (firstMet val (i + 1)).length := by
      have e : (firstMet val (i + 1)).length = if mem val i (val i) = true then (firstMet val i).length else (firstMet val i).length + 1 := by rw [firstMet_succ, step_length]
      rw [e]
      exact hS2.congr fun k' => by show (firstMet val (i + 1)).any (· == k') = _; rw [firstMet_succ, step_any]
    refine wpAny_pure ⟨plainId_quiet F.plain_set_update_loop _, ih (i + 1) _ (by omega) hlt (W.frame _ s' _ _ hst' (Nat.le_succ _) fun b hb o e => ?_) hSi fun s'' hm'' hS'' => ?_⟩
    · rw [hsb.2 b (fun h : b = S => hSf (by rw [← h]; exact hb))]; exact e
    · refine hR s'' (Moved.trans W.gtrans ((hm.mono hsub).then_heap (Nat.le_succ _) fun b o hb e => ?_) hm'') hS''
      rw [hsb.2 b (fun h : b = S => hb (by rw [h]; exact List.mem_cons_self))]; exact e
end
section
variable {prog : Program} {w : World} {A : Around} {E : Value → Shared → Prop} {s : Shared}
theorem new1 (a : Value) {Q₁ : Value → Shared → Prop}
    (h : Q₁ (.ref s.heap.objs.size) { s with heap := s.heap.push { cls := .type "set", dict := none, data := .set #[] 0 (.fresh 0 0 (!w.params.followText "set-order")) } }) :
    codeAny (model prog w) A (.call (.builtin "set.__new__") ⟨[.type "set", a], []⟩) (wants Q₁ E) s := by
  refine codeAny_of_tree ?_
  show wpAny _ A.in1 (do checkBuiltinCall "set.__new__" ⟨[.type "set", a], []⟩; again (.builtin "set.__new__" ⟨[.type "set", a], []⟩)) _ _ s
  refine wpAny_bind (wpAny_of_eq (F.newCall_set_1 a) (wpAny_pure ⟨plainId_quiet F.plain_set_new _, codeAny_builtin F.entry_set_new ?_⟩))
  rw [Around.under_plainId F.plain_set_new _]
  unfold Builtin.«set.__new__» Builtin.Frozenset.newClass
  have hsub := sub_set_self
  obtain ⟨hp, g, d, tk, os⟩ := s
  dsimp only
  wp_walk
  refine wpAny_askSetting (wpAny_pure ?_)
  dsimp only
  simp only [newObj]
  refine wpAny_bind (wpAny_alloc (wpAny_pure ?_))
  exact wpAny_pure h
set_option maxRecDepth 100000 in
set_option maxHeartbeats 3200000 in
theorem setOfList {l : Addr} {items : Array Value} {ns : List Int} {Q : Value → Shared → Prop}
    (hh : A.handled = none) (hl : s.heap.IsList l items) (hi : IntsAre items.toList ns) (hb : items.size + 1 < scanBound)
    (h : ∀ (h' : Heap) (tk : Nat), SetR w h' s.heap.objs.size (mem (fun i => ns.getD i 0) items.size) (firstMet (fun i => ns.getD i 0) items.size).length →
      (∀ b o, b < s.heap.objs.size → s.heap.get? b = some o → h'.get? b = some o) → Q (.ref s.heap.objs.size) { s with heap := h', toks := tk }) :
    wpAny (model prog w) A (call (.type "set") [.ref l]) Q E s := by
  obtain ⟨c, tl, hmro⟩ := F.called_set.mro
  have hmade := F.called_set.made
  have hsub := F.called_set.sub
  refine wpAny_call (codeAny_of_tree ?_)
  show wpAny _ _ (callAny (.type "set") _) _ _ _
  refine wpAny_pure ⟨Code.quiet_builtin _ (by decide +kernel), codeAny_builtin F.entry_type_call ?_⟩
  rw [Around.under_plain (weight_type_call_type "set" [.ref l] []) rfl]
  have h1 := F.called_set.notType
  have h2 := F.called_set.canCreate
  have hct := F.typeCall_set_1 (.ref l)
  repeat (any_goals (first | assumption | wp_step))
  generalize hled : (!w.params.followText "set-order") = led
  refine codeAny_mono (new1 (.ref l) (E := E) (Q₁ := fun obj s₁ => obj = .ref s.heap.objs.size ∧ s₁ = { s with heap := s.heap.push { cls := .type "set", dict := none, data := .set #[] 0 (.fresh 0 0 led) } }) ⟨rfl, by rw [hled]⟩) fun r s₁ hr => ?_
  cases r with
  | error e => exact hr
  | ok fl =>
    cases fl with
    | ret obj =>
      obtain ⟨rfl, rfl⟩ := hr
      have hS : (s.heap.push { cls := .type "set", dict := none, data := .set #[] 0 (.fresh 0 0 led) }).get? s.heap.objs.size = some { cls := .type "set", dict := none, data := .set #[] 0 (.fresh 0 0 led) } := Heap.get?_push_size _ rfl
      have hT : Shared.TypeIs { s with heap := s.heap.push { cls := .type "set", dict := none, data := .set #[] 0 (.fresh 0 0 led) } } (.ref s.heap.objs.size) "set" := ⟨_, hS, rfl⟩
      have hli := F.called_set.init.lookup
      have hbi := F.called_set.init.bind (.ref s.heap.objs.size)
      repeat (any_goals (first | assumption | wp_step))
      refine codeAny_mono (codeAny_call_builtin (R := wants (fun r s₂ => r = .none ∧ ∃ h' tk, s₂ = { s with heap := h', toks := tk } ∧
          SetR w h' s.heap.objs.size (mem (fun i => ns.getD i 0) items.size) (firstMet (fun i => ns.getD i 0) items.size).length ∧
          (∀ b o, b < s.heap.objs.size → s.heap.get? b = some o → h'.get? b = some o)) E) F.called_set.init.plain F.entry_set_init (check_set_init_1 hT ?_)) fun r₂ s₂ hr₂ => ?_
      · obtain ⟨ol, hol, hcl, nl, hdl⟩ := hl
        obtain ⟨ocls, odict, odata, oslots⟩ := ol
        simp only at hcl hdl
        subst hcl; subst hdl
        have hol' : (s.heap.push { cls := .type "set", dict := none, data := .set #[] 0 (.fresh 0 0 led) }).get? l = some { cls := .type "list", dict := odict, data := .seq items nl, slots := oslots } := Heap.get?_push_of_some _ hol
        have hsls := F.sub_list_set
        have hslf := F.sub_list_frozenset
        have hne : (Value.type "list" == Value.type "dict") = false := by decide
        have hl1 : (s.heap.push { cls := .type "set", dict := none, data := .set #[] 0 (.fresh 0 0 led) }).IsList l items := ⟨_, hol', rfl, nl, rfl⟩
        unfold Builtin.«set.__init__» noKeywords Builtin.Frozenset.updateFrom
        generalize hPI : pyIter = PI
        wp_walk
        subst hPI
        refine wpAny_pyIter_list hl1 ?_
        refine wpAny_bind (wpAny_runValue ?_)
        have hlS : l < s.heap.objs.size := Heap.lt_size hol
        have hh3 : A.in1.in1.in1.handled = none := by simp [hh]
        have hneI : l ≠ (s.heap.push { cls := .type "set", dict := none, data := .set #[] 0 (.fresh 0 0 led) }).objs.size := by
          rw [Heap.size_push]; exact Nat.ne_of_lt (Nat.lt_succ_of_lt hlS)
        have hSf : s.heap.objs.size ∉ [(s.heap.push { cls := .type "set", dict := none, data := .set #[] 0 (.fresh 0 0 led) }).objs.size, l] := by
          rw [Heap.size_push]; simp only [List.mem_cons, List.mem_singleton, List.not_mem_nil, or_false, not_or]
          exact ⟨Nat.ne_of_lt (Nat.lt_succ_self _), Nat.ne_of_gt hlS⟩
        have hval : ∀ (i : Nat) (v : Value), items[i]? = some v → ∃ t, v = .int ((fun i => ns.getD i 0) i) t := fun i v hv =>
          IntsAre.int_at hi i v (by rw [Array.getElem?_toList]; exact hv)
        refine loop ((Walks.list hh3 _ l hneI items).toS) s.heap.objs.size
          hSf (fun i => ns.getD i 0) hval hb (items.size - 0) 0 _ (by omega) (Nat.zero_le _)
          ⟨⟨_, Heap.get?_push_size _ rfl, rfl, rfl⟩, (hl1.push _)⟩ ?hS0 ?hR
        case hS0 =>
          have hfr : SetR w (s.heap.push { cls := .type "set", dict := none, data := .set #[] 0 (.fresh 0 0 led) }) s.heap.objs.size (fun _ => false) 0 := by
            rw [← hled]; exact setR_fresh w
          exact (hfr.at fun o ho => Heap.get?_push_of_some _ ho).congr fun _ => rfl
        case hR =>
          intro s' hm hS'
          obtain ⟨h', g', d', tk', os'⟩ := s'
          have eg : g' = s.gens := hm.gens
          have ed : d' = s.drawn := hm.drawn
          have eo : os' = s.os := hm.os
          subst eg; subst ed; subst eo
          show wpAny _ _ _ _ _ _
          refine wpAny_pure ?_
          show wpAny _ _ (ret Value.none) _ _ _
          refine wpAny_pure ⟨rfl, h', tk', rfl, hS', fun b o hb e => ?_⟩
          have hb1 : b ≠ s.heap.objs.size := Nat.ne_of_lt hb
          have hb2 : b ≠ (s.heap.push { cls := .type "set", dict := none, data := .set #[] 0 (.fresh 0 0 led) }).objs.size := by
            rw [Heap.size_push]; exact Nat.ne_of_lt (Nat.lt_succ_of_lt hb)
          exact hm.heap b o (by simp only [List.mem_cons, List.mem_singleton, List.not_mem_nil, or_false, not_or]; exact ⟨hb1, hb2⟩) (Heap.get?_push_of_some _ (Heap.get?_push_of_some _ e))
      · cases r₂ with
        | error e => exact hr₂
        | ok fl₂ =>
          cases fl₂ with
          | ret r =>
            obtain ⟨rfl, h', tk, rfl, hS', hk'⟩ := hr₂
            repeat (any_goals (first | assumption | wp_step))
            exact h _ _ hS' hk'
          | _ => exact hr₂.elim
    | _ => exact hr.elim
end
end SetX

set_option Elab.async false
set_option linter.all false
set_option maxRecDepth 100000
set_option maxHeartbeats 4000000
/-! The data layer: sorted(set(x)), sorted({a, b, c}), ints. -/
namespace SetX
open PySem PySem.Spec PyProof.Rows L2
section
variable {prog : Program} {w : World} {A : Around} {E : Value → Shared → Prop} {s : Shared} {a : Addr} {S : Int → Bool} {n : Nat}
theorem add1 {k : Int} {tk : Tok} {Q : Shared → Prop} (R : SetR w s.heap a S n) (room : n + 1 < scanBound)
    (hQ : ∀ h', Heap.SameBut a s.heap h' → SetR w h' a (fun j => S j || decide (j = k)) (if S k = true then n else n + 1) → Q { s with heap := h', toks := s.toks + 1 }) :
    wpAny (model prog w) A (setAdd a (.int k tk)) (fun _ s' => Q s') E s := by
  unfold setAdd
  refine wpAny_holding ?_
  refine wpAny_bind ((intKind prog w).pyHash (intKind_is prog w k tk) ?_)
  exact setR_add_hashed (s := { s with toks := s.toks + 1 }) R room fun h' sb r => hQ h' sb r
theorem newSetR {Q : Value → Shared → Prop}
    (h : Q (.ref s.heap.objs.size) { s with heap := s.heap.push { cls := .type "set", dict := none, data := .set #[] 0 (.fresh 0 0 (!w.params.followText "set-order")) } }) :
    wpAny (model prog w) A (newSet (.type "set")) Q E s := by
  unfold newSet setsByText
  refine wpAny_bind (wpAny_bind (wpAny_askSetting (wpAny_pure ?_)))
  dsimp only
  simp only [newObj]
  exact wpAny_bind (wpAny_alloc (wpAny_pure h))
open PySem.W in
theorem core {road : DisplayRoad} {b : Bool} {elts : List (Bool × Sem Value)} {ts : List (Sem Value)} {Q : Value → Shared → Prop} (hroad : (road == .constants) = false) (hun : (road == DisplayRoad.unsure) = false) (hs : elts.findIdx? (·.1) = none) (hlen : elts.length ≤ 30) (hm : elts.map (·.2) = ts)
    (h : wpAny (model prog w) A (evalAll ts) (fun vs s' => KdsFill (model prog w) A E false s.heap.objs.size Q vs s') E { s with heap := s.heap.push { cls := .type "set", dict := none, data := .set #[] 0 (.fresh 0 0 (!w.params.followText "set-order")) } }) :
    wpAny (model prog w) A (setDisplay road b elts) Q E s := by
  have hn : (if elts.length > 30 then 0 else (elts.findIdx? (·.1)).getD elts.length) = elts.length := by rw [if_neg (by omega), hs]; rfl
  unfold setDisplay
  try dsimp only
  rw [if_neg (by rw [hroad]; exact Bool.false_ne_true)]
  refine wpAny_bind (newSetR ?_)
  dsimp only
  rw [hn, List.take_length, List.drop_length, hm]
  refine wpAny_bind (wpAny_holding ?_)
  refine wpAny_bind (wpAny_mono h (fun vs s' h' => ?_) fun _ _ x => x)
  refine wpAny_bind (wpAny_holding ?_)
  refine wpAny_bind (wpAny_mono (kds_for (fun x P s hx => ?_) vs s' h') (fun _ s1 h1 => ?_) fun _ _ x => x)
  · refine wpAny_bind (wpAny_mono hx (fun _ s2 h2 => ?_) fun _ _ x => x)
    first | exact wpAny_pure ⟨rfl, h2⟩ | exact wpAny_bind (wpAny_pure (wpAny_pure ⟨rfl, h2⟩))
  · rw [hun]
    have h2 : Q (.ref s.heap.objs.size) s1 := by simpa [KdsFill] using h1
    rw [if_neg Bool.false_ne_true]
    refine wpAny_pure ?_
    rw [List.forIn_nil]
    exact wpAny_pure (wpAny_pure h2)
end
section
variable {X : Cx} {e1 e2 e3 : Expr} {t1 t2 t3 : TE} {pos : Pos}
theorem run_sorted {pins : List (Addr × Obj)} {σ : L2.St} {H : Hp} {s : Shared} {Q : VK} {a : Addr} {S : Int → Bool} {n : Nat} (hc : X.calm = true) (I : Inv X pins σ H s) (R : SetR X.w s.heap a S n) (h64 : n < 64)
    (q : ∀ (ns : List Int) (p : Addr), ns.Pairwise (· < ·) → (∀ k : Int, k ∈ ns ↔ S k = true) → H p = none → Q (.ref p) (upd H p (.lst (ns.map V.int)))) :
    wpAny (model X.prog X.w) X.A (call (.builtin "sorted") [.ref a]) (EP X pins σ Q) X.xe s := by
  refine sorted_set R (I.ok.hd hc) h64 fun s' p out c ns k g o hp hg hi hs hm hl => ?_
  have hlen : (ns.map V.int).length ≤ sizeLine := by rw [List.length_map, hl, sizeLine_eq]; omega
  have hn : H p = none := I.hok.fresh hp
  have J : Inv X pins σ (upd H p (.lst (ns.map V.int))) { s with heap := s'.heap, gens := s'.gens, drawn := s'.drawn, toks := s'.toks } :=
    I.call (ch := []) (Un.laid k hp hn) (I.hok.laid k hp ⟨hlen, out.toList, c, vals_of_ints hi, hg⟩) (by rw [g]; exact I.bare) (fun _ z => nomatch z)
  have e : s' = { s with heap := s'.heap, gens := s'.gens, drawn := s'.drawn, toks := s'.toks } := by
    cases s'
    cases s
    cases o
    rfl
  rw [e]
  exact ⟨.ref p, _, J, rfl, q ns p hs hm hn⟩
/-- sorted({a, b, c}), ints -/
def tSort3 (t1 t2 t3 : TE) : TE := fun σ H Q => t1 σ H fun v1 H1 => t2 σ H1 fun v2 H2 => t3 σ H2 fun v3 H3 => ∃ n1 n2 n3, v1 = V.int n1 ∧ v2 = V.int n2 ∧ v3 = V.int n3 ∧
    ∀ (ns : List Int) (p : Addr), ns.Pairwise (· < ·) → (∀ k : Int, k ∈ ns ↔ k ∈ [n1, n2, n3]) → H3 p = none → Q (.ref p) (upd H3 p (.lst (ns.map V.int)))
open PySem.W in
theorem pe_sort3 {p pos2 : Pos} (hcm : X.calm = true) (hc : kdsCode X.K X.env.code = true) (hg : Gl X "sorted") (hm : X.mg "sorted" = none) (h1 : PE X e1 t1) (h2 : PE X e2 t2) (h3 : PE X e3 t3) (hr : (displayRoad 0 [e1, e2, e3] == .constants) = false := by rfl) (hu : (displayRoad 0 [e1, e2, e3] == .unsure) = false := by rfl)
    (hp : [e1, e2, e3].all kdsPlain = true := by rfl) : PE X (.Call (.Name "sorted" p) [.Set [e1, e2, e3] 0 pos2] [] pos) (tSort3 t1 t2 t3) := by
  refine ⟨fun pins s σ H Q I h => ?_⟩
  refine wpAny_Call_Name_kw (ld_blt I hg hm DL.bo_sorted ?_ (by decide) (by decide))
  refine PyProof.Rows.callWith_builtin1 ?_ (by rfl) (by rfl)
  show wpAny _ _ (spliced [(false, eval (.Set [e1, e2, e3] 0 pos2) X.env)]) _ _ _
  refine Calls.spliced_cons ?_
  rw [arm_eval_Set]
  refine wpAny_bind (wpAny_standAt ?_)
  refine wpAny_bind (kds_main I.kIn hc fun b => ?_)
  rw [kds_star _ hp, List.map_map]
  refine core (ts := (evalEach [e1, e2, e3] X.env).map fun t => do let v ← t; standAt pos2; pure v) hr hu ?_ ?_ ?_ ?_
  · refine List.findIdx?_eq_none_iff.mpr fun x hx => ?_
    obtain ⟨t, _, rfl⟩ := List.mem_map.mp hx
    rfl
  · rw [List.length_map, kds_len]; show 3 ≤ 30; omega
  · rw [List.map_map]; try rfl
  · refine kds_all pos2 _ _ _ ?_
    generalize ho0 : ({ cls := .type "set", dict := none, data := .set #[] 0 (.fresh 0 0 (!X.w.params.followText "set-order")) } : Obj) = o0
    have kp : ∀ b u, s.heap.get? b = some u → (s.heap.push o0).get? b = some u := fun b u e => Heap.get?_push_of_some _ e
    have f0 : FpOk X pins H s.heap.objs.size := I.fpOk (Nat.le_refl _) (I.hok.fresh (Nat.le_refl _))
    have hD : (s.heap.push o0).get? s.heap.objs.size = some o0 := Heap.get?_push_size _ (by rw [← ho0]; rfl)
    have I1 : Inv X pins σ H { s with heap := s.heap.push o0 } := I.un (h' := s.heap.push o0) (t' := s.toks) (Un.kept kp) (I.hok.kept kp)
    have I2 := I1.pinned (fp := [s.heap.objs.size]) (fun b hb => by rw [List.mem_singleton.mp hb]; exact f0) fun b hb => by
      rw [List.mem_singleton.mp hb]
      exact ⟨o0, hD, fun v => by rw [← ho0]; exact fun z => by cases z⟩
    have fin : ∀ {s3 : Shared} {H3 : Hp}, Inv X (pins ++ pinsAt [s.heap.objs.size] (s.heap.push o0)) σ H3 s3 → s3.heap.get? s.heap.objs.size = some o0 ∧ H3 s.heap.objs.size = none := fun J => by
      have q := J.pin (s.heap.objs.size, o0) (List.mem_append_right _ (List.mem_append_right _ (mem_pinsAt List.mem_cons_self hD)))
      exact ⟨q.1, q.2.1⟩
    refine thn (h1.run _ _ σ _ _ I2 h) fun u1 s1 ⟨v1, H1, J1, r1, q1⟩ => ?_
    refine thn (h2.run _ _ σ _ _ J1 q1) fun u2 s2 ⟨v2, H2, J2, r2, q2⟩ => ?_
    refine thn (h3.run _ _ σ _ _ J2 q2) fun u3 s3 ⟨v3, H3, J3, r3, q3⟩ => ?_
    obtain ⟨n1, n2, n3, rfl, rfl, rfl, q⟩ := q3
    obtain ⟨tk1, rfl⟩ := r1
    obtain ⟨tk2, rfl⟩ := r2
    obtain ⟨tk3, rfl⟩ := r3
    obtain ⟨hD3, hN3⟩ := fin J3
    have R0 : SetR X.w s3.heap s.heap.objs.size (fun _ => false) 0 := (setR_fresh (h := s.heap) X.w).at fun o e => by
      rw [ho0, hD] at e
      cases e
      exact hD3
    refine kds_fill_cons (add1 R0 (by decide) fun h4 sb4 R1 => ?_)
    refine kds_fill_cons (add1 R1 (by show (if _ then 0 else 1) + 1 < scanBound; split <;> decide) fun h5 sb5 R2 => ?_)
    have rm : ∀ (c d : Prop) [Decidable c] [Decidable d], (if c then (if d then 0 else 0 + 1) else (if d then 0 else 0 + 1) + 1) ≤ 2 := fun c d _ _ => by split <;> split <;> omega
    refine kds_fill_cons (add1 R2 (Nat.lt_of_le_of_lt (Nat.succ_le_succ (rm _ _)) (by decide)) fun h6 sb6 R3 => ?_)
    refine kds_fill_nil rfl ?_
    have sb : Heap.SameBut s.heap.objs.size s3.heap h6 := (sb4.trans sb5).trans sb6
    refine Calls.spliced_nil ?_
    have J4 : Inv X pins σ H3 { s3 with heap := h6, toks := s3.toks + 1 + 1 + 1 } := J3.unpinned.turnedL (ch := [s.heap.objs.size]) (fun b o hb e => (sb.2 b (fun z => hb (by rw [z]; exact List.mem_cons_self))).trans e) fun b hb => by
      rw [List.mem_singleton.mp hb]
      exact ⟨hN3, f0.2⟩
    refine run_sorted hcm J4 R3 ?_ fun ns p hs hm hn => q ns p hs (fun k => by rw [hm k]; simp [or_assoc]) hn
    split
    · exact Nat.lt_of_le_of_lt (rm _ _) (by decide)
    · exact Nat.lt_of_le_of_lt (Nat.succ_le_succ (rm _ _)) (by decide)
end
/-- set(x), x a list of ints -/
def rSetL (K : PySem.W.Frag) (w : World) : List V → Hp → VK → Prop := fun xs H Q => ∃ (a : Addr) (ns : List Int), xs = [V.ref a] ∧ SqL K H a (ns.map V.int) ∧ ns.length < 60 ∧
  ∀ p S n, H p = none → (∀ k, S k = true ↔ k ∈ ns) → n ≤ ns.length → Q (.ref p) (upd H p (SetO w p S n))
theorem ints_val : ∀ {ns : List Int} {its : List Value}, Vals (ns.map V.int) its → IntsAre its ns
  | [], _, h => by cases h; exact .nil
  | n :: ns, _, h => by
    cases h with
    | cons r t =>
      obtain ⟨tk, rfl⟩ := r
      exact .cons n tk (ints_val t)
section
variable {X : Cx}
theorem cr_setL (hc : X.calm = true) : CallR X (.type "set") (rSetL X.K X.w) := by
  intro pins s σ H xs us Q I r h
  obtain ⟨a, ns, rfl, hq, hl, q⟩ := h
  rw [Vals.ref1 r]
  obtain ⟨its, r', pl, hz⟩ := I.list hq
  have hlen : its.length = ns.length := by have := r'.length; rw [List.length_map] at this; omega
  refine setOfList (ns := ns) (I.ok.hd hc) pl.isList (ints_val r') (by rw [List.size_toArray, hlen]; unfold scanBound; omega) fun h' tk R hk => ?_
  rw [List.size_toArray] at R
  exact ⟨.ref _, _, I.laid (t' := tk) (fun b u e => hk b u (Heap.lt_size e) e) (Nat.le_refl _) (setO_new R), rfl, q _ _ _ (I.hok.fresh (Nat.le_refl _)) (fun k => by
    show (firstMet (fun i => ns.getD i 0) its.length).any (· == k) = true ↔ _
    rw [firstMet_any]
    rw [List.any_eq_true]
    constructor
    · rintro ⟨z, hz, e⟩
      obtain ⟨i, hi, rfl⟩ := List.mem_map.mp hz
      rw [← (beq_iff_eq.mp e)]
      have hi' : i < ns.length := by rw [← hlen]; exact List.mem_range.mp hi
      show ns.getD i 0 ∈ ns
      rw [List.getD_eq_getElem?_getD, List.getElem?_eq_getElem hi']
      exact List.getElem_mem hi'
    · intro hk
      obtain ⟨i, hi, e⟩ := List.mem_iff_getElem.mp hk
      refine ⟨k, List.mem_map.mpr ⟨i, List.mem_range.mpr (by omega), ?_⟩, beq_self_eq_true k⟩
      show ns.getD i 0 = k
      rw [List.getD_eq_getElem?_getD, List.getElem?_eq_getElem hi]
      exact e) (by rw [List.size_toArray]; have := firstMet_length_le (fun i => ns.getD i 0) its.length; omega)⟩
end
end SetX

set_option Elab.async false
set_option linter.all false
set_option maxRecDepth 100000
set_option maxHeartbeats 4000000
/-! The data layer: sorted(set(x)), sorted({a, b, c}) as readings. -/
namespace DL
open PySem PySem.Spec PyProof.Rows L2
open PySem.W (kdsCode kdsPlain)
theorem kds_codeIn {K : PySem.W.Frag} {cd : Value} {q : Str} (h : PySem.W.codeIn K cd q = true) : kdsCode K cd = true := by
  unfold PySem.W.codeIn at h
  unfold PySem.W.kdsCode
  split at h
  · split at h
    · rename_i e; dsimp only; simp only [e]
    · cases h
  · cases h
section
variable {P : Program} {w : World} {K : PySem.W.Frag} {mg : Str → Option Value} {base : Heap} {T : List (Addr × Str)}
/-- a def in whose text a set is shown -/
theorem dn_ofDC {x : Str} {params : Arguments} {body : List Stmt} {scope : Scope} {f : Addr} {fd : FuncData} {N ps : List Str} {k : Nat} {g : Ss} (F : FunD K x x params body scope [] [] f fd) (hx : mg x = some (.ref f)) (hb : Binds K fd ps []) (S : FnScope N ps scope)
    (hbody : ∀ (cdv : Value) (A : Around) (outer : List PySem.Env) (s : Shared) (H : Hp) (E : XK), kdsCode K cdv = true → Room k (A.deeper (envOfC x scope s.heap.objs.size f cdv)) →
      PSs (cxOf (L2.CX P w) P w K mg base N x scope f cdv A outer s H E) body (tS ⟨K, mg, T, wE E⟩ g)) : Dn P w K mg base T (k + 1) x ps.length (fnOf N.length g) :=
  ⟨f, fd, ps, rfl, by
    obtain ⟨oc, od, dV, kV, doc, pm, an, cdv, ct, osl, rfl, lk, hcd, _, _⟩ := F.ex
    exact fn_of lk hcd S (fun vs H Q E h => h.1) fun A outer s H vs Q E hr h => ⟨_, hbody cdv A outer s H E (kds_codeIn hcd) hr, fn_start (C := ⟨K, mg, T, wE E⟩) rfl h⟩, hx, F.kp, hb⟩
end
/-! ### ints ascending, each once -/
def insU (x : Int) : List Int → List Int
  | [] => [x]
  | y :: l => if x < y then x :: y :: l else if x = y then y :: l else y :: insU x l
def usrt (ns : List Int) : List Int := ns.foldr insU []
theorem insU_mem {x k : Int} : ∀ {l : List Int}, k ∈ insU x l ↔ k = x ∨ k ∈ l
  | [] => by simp [insU]
  | y :: l => by
    unfold insU
    split
    · simp
    · split
      · rename_i e; subst e; simp
      · rw [List.mem_cons, insU_mem, List.mem_cons]
        constructor
        · rintro (h | h | h)
          · exact .inr (.inl h)
          · exact .inl h
          · exact .inr (.inr h)
        · rintro (h | h | h)
          · exact .inr (.inl h)
          · exact .inl h
          · exact .inr (.inr h)
theorem insU_asc {x : Int} : ∀ {l : List Int}, l.Pairwise (· < ·) → (insU x l).Pairwise (· < ·)
  | [], _ => List.pairwise_singleton _ _
  | y :: l, h => by
    unfold insU
    obtain ⟨h1, h2⟩ := List.pairwise_cons.mp h
    split
    · rename_i c
      exact List.pairwise_cons.mpr ⟨fun z hz => by
        rcases List.mem_cons.mp hz with rfl | hz
        · exact c
        · have := h1 z hz; omega, h⟩
    · split
      · exact h
      · refine List.pairwise_cons.mpr ⟨fun z hz => ?_, insU_asc h2⟩
        rcases insU_mem.mp hz with rfl | hz
        · omega
        · exact h1 z hz
theorem usrt_mem {k : Int} : ∀ {ns : List Int}, k ∈ usrt ns ↔ k ∈ ns
  | [] => by simp [usrt]
  | n :: ns => by
    show k ∈ insU n (usrt ns) ↔ _
    rw [insU_mem, usrt_mem, List.mem_cons]
theorem usrt_asc : ∀ ns : List Int, (usrt ns).Pairwise (· < ·)
  | [] => List.Pairwise.nil
  | n :: ns => insU_asc (usrt_asc ns)
theorem asc_uniq : ∀ {a b : List Int}, a.Pairwise (· < ·) → b.Pairwise (· < ·) → (∀ k, k ∈ a ↔ k ∈ b) → a = b
  | [], [], _, _, _ => rfl
  | [], y :: b, _, _, h => by have := (h y).mpr List.mem_cons_self; cases this
  | x :: a, [], _, _, h => by have := (h x).mp List.mem_cons_self; cases this
  | x :: a, y :: b, ha, hb, h => by
    obtain ⟨a1, a2⟩ := List.pairwise_cons.mp ha
    obtain ⟨b1, b2⟩ := List.pairwise_cons.mp hb
    have e : x = y := by
      rcases List.mem_cons.mp ((h x).mp List.mem_cons_self) with z | z
      · exact z
      · rcases List.mem_cons.mp ((h y).mpr List.mem_cons_self) with z2 | z2
        · exact z2.symm
        · have := a1 y z2; have := b1 x z; omega
    subst e
    rw [asc_uniq a2 b2 fun k => ⟨fun hk => by
      rcases List.mem_cons.mp ((h k).mp (List.mem_cons_of_mem _ hk)) with z | z
      · subst z; have := a1 k hk; omega
      · exact z, fun hk => by
      rcases List.mem_cons.mp ((h k).mpr (List.mem_cons_of_mem _ hk)) with z | z
      · subst z; have := b1 k hk; omega
      · exact z⟩]
theorem usrt_is {ns ns' : List Int} (h1 : ns'.Pairwise (· < ·)) (h2 : ∀ k, k ∈ ns' ↔ k ∈ ns) : ns' = usrt ns := asc_uniq h1 (usrt_asc ns) fun k => (h2 k).trans usrt_mem.symm
section
variable {X : Cx} {T : List (Addr × Str)} {W : WX} {e e1 e2 e3 : Expr} {pos p pos2 p2 : Pos} {fs : Sm (List Ev)} {f1 f2 f3 : Sm Ev}
/-- sorted({a, b, c}), ints -/
def eSort3 (f1 f2 f3 : Sm Ev) : Sm Ev := fun ρ M => bnd (f1 ρ M) fun a M1 => bnd (f2 ρ M1) fun b M2 => bnd (f3 ρ M2) fun c M3 => match a, b, c with
  | .d (.int i), .d (.int j), .d (.int k) => .ok (.d (.lst ((usrt [i, j, k]).map D.int))) M3
  | _, _, _ => .stuck
theorem de_sort3 (hcm : X.calm = true) (hc : kdsCode X.K X.env.code = true) (hg : Gl X "sorted") (hm : X.mg "sorted" = none) (h1 : PE X e1 (tE (cf X T W) f1)) (h2 : PE X e2 (tE (cf X T W) f2)) (h3 : PE X e3 (tE (cf X T W) f3))
    (hr : (displayRoad 0 [e1, e2, e3] == .constants) = false := by rfl) (hu : (displayRoad 0 [e1, e2, e3] == .unsure) = false := by rfl) (hp : [e1, e2, e3].all kdsPlain = true := by rfl) :
    PE X (.Call (.Name "sorted" p) [.Set [e1, e2, e3] 0 pos2] [] pos) (tE (cf X T W) (eSort3 f1 f2 f3)) := by
  refine ⟨fun pins s σ H Q I q => (SetX.pe_sort3 hcm hc hg hm h1 h2 h3 hr hu hp).run pins s σ H Q I ?_⟩
  obtain ⟨H0, A, m, M, ρ, P, F, q⟩ := q
  refine sub F q fun a M1 H1 v1 F1 s1 r1 q1 => ?_
  refine sub F1 q1 fun b M2 H2 v2 F2 s2 r2 q2 => ?_
  refine sub F2 q2 fun c M3 H3 v3 F3 s3 r3 q3 => ?_
  split at q3
  · rename_i i j k
    cases r1; cases r2; cases r3
    refine ⟨i, j, k, rfl, rfl, rfl, fun ns p h1 h2 hp => ?_⟩
    rw [usrt_is h1 h2]
    exact PX.made q3 F3 hp (newL (C := cf X T W) F3 hp (Rps.of_ints _))
  · exact q3.elim
/-- sorted(set(x)), ints -/
def bSortS (xs : List Ev) (M : Mem) : R Ev := match xs with
  | [x] => match intsOf x with
    | some ns => if ns.length < 60 then .ok (.d (.lst ((usrt ns).map D.int))) M else .stuck
    | none => .stuck
  | _ => .stuck
theorem de_sortS (hcm : X.calm = true) (hg : Gl X "sorted") (hm : X.mg "sorted" = none) (hg2 : Gl X "set") (hm2 : X.mg "set" = none) (ha : PA X [e] (tA (cf X T W) fs)) (he : starEach [e] X.env = (false, eval e X.env) :: starEach [] X.env := by rfl) :
    PE X (.Call (.Name "sorted" p) [.Call (.Name "set" p2) [e] [] pos2] [] pos) (tE (cf X T W) (eB bSortS fs)) := by
  have inner := pe_callTy (pos := pos2) (p := p2) (SetX.cr_setL hcm) hg2 hm2 bo_set ha (by decide) (by decide) he rfl
  refine ⟨fun pins s σ H Q I q => (pe_callB (cr_sortedSet hcm) hg hm bo_sorted (pa_cons inner pa_nil) (by decide) (by decide) (by rfl) (by rfl)).run pins s σ H Q I ?_⟩
  obtain ⟨H0, A, m, M, ρ, P, F, q⟩ := q
  refine sub F q fun xs M1 H1 vs F1 s1 r1 q1 => ?_
  unfold bSortS at q1
  split at q1
  · rename_i x
    obtain ⟨v, rfl, r⟩ := Paired.one r1
    split at q1
    · rename_i ns hl
      split at q1
      · rename_i hn
        obtain ⟨a, ev, hs⟩ := intsOf_at hl r
        refine ⟨a, ns, by rw [ev], SqL.of hs, hn, fun p S n hp hS hz => ?_⟩
        refine ⟨p, S, n, rfl, upd_same, by omega, fun ns' p' h1 h2 h3 hp' => ?_⟩
        rw [usrt_is h1 fun k => (h2 k).trans (hS k)]
        have F2 := F1.grow (o := SetO X.w p S n) hp
        exact PX.made (PX.step (Stp.upd hp) q1) F2 hp' (newL (C := cf X T W) F2 hp' (Rps.of_ints _))
      · exact q1.elim
    · exact q1.elim
  · exact q1.elim
end
end DL

set_option Elab.async false
set_option linter.all false
set_option maxRecDepth 100000
set_option maxHeartbeats 4000000
/-! The data layer: dicts with tuple keys: written, locked, walked. -/
namespace DL
open PySem PySem.Spec PyProof.Rows L2
section
variable {C : Cf} {H0 H : Hp} {A m : List Addr} {M : Mem} {ρ : Env} {σ : L2.St} {P : List Addr}
theorem FR.ownTd (F : FR C H0 A m M H ρ σ P) {j : Nat} {ks : List (List Key)} {l : List D} (h : ρ[j]? = some (some (.dt .own ks l))) :
    ∃ p kvs, σ[j]? = some (some (.ref p)) ∧ H p = some (.dT kvs) ∧ kvs.map (·.1) = ks ∧ p ∈ A ∧ p ∉ m ∧ Rps C.K A m H l (kvs.map (·.2)) ∧ ∀ (kvs' : List (List Key × V)) l', Rps C.K A m (upd H p (.dT kvs')) l' (kvs'.map (·.2)) → FR C H0 A m M (upd H p (.dT kvs')) (ρ.set j (some (.dt .own (kvs'.map (·.1)) l'))) σ P := by
  obtain ⟨v, P1, q1, q2, q3⟩ := ER.get F.er h
  obtain ⟨p, kvs, rfl, hp, ek, eP, r⟩ := q2
  have hP := q3 p (by rw [eP]; exact List.mem_cons_self)
  have ho := F.own p hP
  refine ⟨p, kvs, q1, hp, ek, ho.1, ho.2.1, r, fun kvs' l' r' => ?_⟩
  refine F.mutE h q1 hP hp trivial trivial (fun Q1 hq _ => ?_) (fun Q1 hq => ?_)
  · obtain ⟨p', kvs'', e, hp', ek', eQ, _⟩ := hq
    cases e
    exact ⟨p, kvs', rfl, upd_same, rfl, eQ, r'⟩
  · obtain ⟨p', kvs'', e, hp', ek', eQ, _⟩ := hq
    cases e
    rw [eQ]; exact List.mem_cons_self
end
/-- v[k] = e, v an own dict, its keys tuples -/
def dputT2 (ρ : Env) (M : Mem) (j : Nat) (x y : Ev) : SR := match x, y with
  | .d d, .d (.tup k) => match keysOf k, ρ[j]? with
    | some key, some (some (.dt .own ks l)) => if ks.length < most then .nx (ρ.set j (some (.dt .own (putKs ks key) (putVs ks l key d)))) M else .stuck
    | _, _ => .stuck
  | _, _ => .stuck
def sDputT (j : Nat) (fi fe : Sm Ev) : Ss := fun ρ M => sE (fe ρ M) ρ fun x M1 => match ρ[j]? with
  | some (some _) => sE (fi ρ M1) ρ fun y M2 => dputT2 ρ M2 j x y
  | _ => .stuck
section
variable {X : Cx} {T : List (Addr × Str)} {W : WX} {e ie : Expr} {pos p p2 : Pos} {fi fe : Sm Ev}
theorem ds_dputT {j : Nat} {x : Str} (hu : X.A.units + 1 < cLine) (he : PE X e (tE (cf X T W) fe)) (hi : PE X ie (tE (cf X T W) fi)) (hN : X.N[j]? = some x := by rfl) (hv : Vis X.env.scope x := by first | exact Or.inl rfl | exact Or.inr (Or.inl rfl) | exact Or.inr (Or.inr rfl)) (hd : (x == ("__debug__" : Str)) = false := by decide)
    (hcd : (x == ("__classdict__" : Str)) = false := by decide) (hs : swapsWithSole [.Subscript (.Name x p) ie p2] e pos.line X.env = pure false := by rfl) (hw : swappedStores [.Subscript (.Name x p) ie p2] e X.env = pure none := by rfl)
    (h1 : (assignEach [.Subscript (.Name x p) ie p2] X.env).map (·.2) = [assign (.Subscript (.Name x p) ie p2) X.env] := by rfl)
    (ha : ∀ v, assign (.Subscript (.Name x p) ie p2) X.env v = (do
      let ov ← holding [v] (eval (.Name x p) X.env)
      let iv ← holding [v, ov] (eval ie X.env)
      standAt p2
      holding [v, ov, iv] (setItem ov iv v)
      release [v, ov, iv] []) := by intro _; rfl) : PS X (.Assign [.Subscript (.Name x p) ie p2] e pos) (tS (cf X T W) (sDputT j fi fe)) := by
  refine ⟨fun pins s σ H Dn I q => (ps_asg he (pg_sub (pe_var hN hv hd hcd) hi (set_dict hu) ha) hs hw h1).run pins s σ H Dn I ?_⟩
  obtain ⟨H0, A, m, M, ρ, P, F, q⟩ := q
  refine subS F q fun x M1 H1 v F1 s1 r1 q1 => ?_
  split at q1
  · rename_i z hz
    obtain ⟨o, P1, h1, _, _⟩ := ER.get F1.er hz
    refine ⟨o, h1, ?_⟩
    refine subS F1 q1 fun y M2 H2 w F2 s2 r2 q2 => ?_
    unfold dputT2 at q2
    split at q2
    · rename_i d k
      split at q2
      · rename_i key ks l hk hj
        split at q2
        · rename_i hl
          obtain ⟨p0, kvs, e1, hp, ek, hA, hm, r3, wt⟩ := F2.ownTd hj
          rw [h1] at e1; cases e1
          obtain ⟨b, vs, ew, hb, rb⟩ := r2
          have ev := keysOf_at hk rb
          subst ev
          subst ew
          subst ek
          have rv : Rp X.K A m H2 d v := Rp.step F1.wr.aok F1.ma s2 _ _ r1
          have hn : kvs.length < sizeLine := by rw [List.length_map] at hl; have := most_line (Nat.le_refl most); omega
          refine ⟨p0, upd H2 p0 (.dT (putK kvs key v)), rfl, .t hp hb hn, ?_⟩
          have F' := wt (putK kvs key v) (putVs (kvs.map (·.1)) l key d) (putK_rps (Rp.self hp trivial hA rv) (Rps.self hp trivial hA r3))
          rw [putK_keys] at F'
          exact q2 A _ σ P (Ext.write hA) F'
        · exact q2.elim
      · exact q2.elim
    · exact q2.elim
  · exact q1.elim
end
/-! ### an own dict is written no more -/
section
variable {K : PySem.W.Frag} {H0 H : Hp} {A A' m : List Addr}
theorem ER.frzT : ∀ {ρ : Env} {σ : L2.St} {P : List Addr} {j : Nat} {ks : List (List Key)} {l : List D}, ER K H0 A m H ρ σ P → P.Nodup → ρ[j]? = some (some (.dt .own ks l)) →
    ∃ a P' kvs, a ∈ P ∧ P'.Nodup ∧ (∀ x ∈ P', x ∈ P) ∧ a ∉ P' ∧ H a = some (.dT kvs) ∧ kvs.map (·.1) = ks ∧ Rps K A m H l (kvs.map (·.2)) ∧ σ[j]? = some (some (.ref a)) ∧ ER K H0 A m H (ρ.set j none) σ P'
  | [], _, _, j, _, _, _, _, e => by simp at e
  | none :: ρ, σ, P, 0, _, _, _, _, e => by simp at e
  | none :: ρ, σ, P, j + 1, ks, l, ⟨y, τ, eσ, h⟩, nd, e => by
    obtain ⟨a, P', kvs, h1, h2, h3, h4, h5, h6, h7, h8, h9⟩ := ER.frzT (j := j) h nd (by simpa using e)
    exact ⟨a, P', kvs, h1, h2, h3, h4, h5, h6, h7, by rw [eσ]; simpa using h8, ⟨y, τ, eσ, h9⟩⟩
  | some z :: ρ, σ, P, 0, ks, l, ⟨w, τ, P1, P2, eσ, eP, h1, h2⟩, nd, e => by
    simp at e; subst e
    obtain ⟨a, kvs, ew, ha, ek, e1, r⟩ := h1
    subst e1; subst eP
    have nd' := List.nodup_cons.mp nd
    exact ⟨a, P2, kvs, List.mem_cons_self, nd'.2, fun x hx => List.mem_cons_of_mem _ hx, nd'.1, ha, ek, r, by rw [eσ, ew]; rfl, ⟨_, τ, eσ, h2⟩⟩
  | some z :: ρ, σ, P, j + 1, ks, l, ⟨w, τ, P1, P2, eσ, eP, h1, h2⟩, nd, e => by
    subst eP
    have nd' := List.nodup_append.mp nd
    obtain ⟨a, P', kvs, k1, k2, k3, k4, k5, k6, k7, k8, k9⟩ := ER.frzT (j := j) h2 nd'.2.1 (by simpa using e)
    refine ⟨a, P1 ++ P', kvs, List.mem_append_right _ k1, ?_, fun x hx => ?_, fun hx => ?_, k5, k6, k7, by rw [eσ]; simpa using k8, ⟨w, τ, P1, P', eσ, rfl, h1, k9⟩⟩
    · exact List.nodup_append.mpr ⟨nd'.1, k2, fun x hx y hy => nd'.2.2 x hx y (k3 y hy)⟩
    · rcases List.mem_append.mp hx with hx | hx
      · exact List.mem_append_left _ hx
      · exact List.mem_append_right _ (k3 x hx)
    · rcases List.mem_append.mp hx with hx | hx
      · exact nd'.2.2 a hx a k1 rfl
      · exact k4 hx
end
def sFzT (j : Nat) : Ss := fun ρ M => match ρ[j]? with
  | some (some (.dt .own ks l)) => .nx (ρ.set j (some (.d (.dT ks l)))) M
  | _ => .stuck
theorem set_same {α : Type} {l : List α} {j : Nat} {x : α} (h : l[j]? = some x) : l.set j x = l := by
  apply List.ext_getElem?
  intro i
  rw [List.getElem?_set]
  split
  · rename_i e; subst e
    obtain ⟨hl, hx⟩ := List.getElem?_eq_some_iff.mp h
    rw [if_pos hl, h]
  · rfl
theorem tS_frzT {X : Cx} {T : List (Addr × Str)} {W : WX} {f : Ss} {j : Nat} {D : Ends} {pins : List (Addr × Obj)} {s : Shared} {σ : L2.St} {H : Hp} (I : Inv X pins σ H s) (h : tS (cf X T W) (sSeq (sFzT j) f) D σ H) : ∃ H2, Inv X pins σ H2 s ∧ tS (cf X T W) f D σ H2 := by
  obtain ⟨H0, A, m, M, ρ, P, F, q⟩ := h
  unfold sSeq sFzT at q
  by_cases hj : ∃ ks l, ρ[j]? = some (some (.dt .own ks l))
  · obtain ⟨ks, l, hj⟩ := hj
    rw [hj] at q
    obtain ⟨a, P', kvs, h1, h2, h3, h4, h5, h6, h7, h8, h9⟩ := ER.frzT F.er F.nd hj
    obtain ⟨o1, o2, o3⟩ := F.own a h1
    obtain ⟨od, I2⟩ := I.lock h5 trivial
    have mu : muta (.dT kvs) := trivial
    have sub : ∀ x ∈ A.filter (fun x => decide (x ≠ a)), x ∈ A := fun x hx => (List.mem_filter.mp hx).1
    have na : a ∉ A.filter (fun x => decide (x ≠ a)) := fun hx => by have := (List.mem_filter.mp hx).2; simp at this
    have inn : ∀ x ∈ A, x ≠ a → x ∈ A.filter (fun x => decide (x ≠ a)) := fun x hx ne => List.mem_filter.mpr ⟨hx, by simp [ne]⟩
    have av : ∀ x ∈ A.filter (fun x => decide (x ≠ a)), x ∈ A ∨ ¬ Lv (upd H a (.frz od (.dT kvs))) x := fun x hx => .inl (sub x hx)
    have e1 : ER X.K H0 A m (upd H a (.frz od (.dT kvs))) (ρ.set j none) σ P' := ER.stepO (B := [a]) (aok_one h5 mu) (fun x hx => by rw [List.mem_singleton.mp hx]; exact o1) (fun x hx => by rw [List.mem_singleton.mp hx]; exact o3) stp_upd (fun x hx z => h4 (by rw [← List.mem_singleton.mp z]; exact hx)) h9
    have F2 : FR (cf X T W) H0 (A.filter (fun x => decide (x ≠ a))) m M (upd H a (.frz od (.dT kvs))) (ρ.set j none) σ P' := by
      refine ⟨F.wr.mut o2 h5 mu, Tabs.mut F.tb h5 mu, ER.avoid av e1, h2, fun x hx => ?_, fun x hx => inn x (F.ma x hx) fun z => o2 (by rw [← z]; exact hx), fun x hx => ?_, fun x u e n t => ?_⟩
      · obtain ⟨w1, w2, w3⟩ := F.own x (h3 x hx)
        exact ⟨inn x w1 fun z => h4 (by rw [← z]; exact hx), w2, w3⟩
      · obtain ⟨u, g1, g2⟩ := F.aok x (sub x hx)
        exact ⟨u, by rw [upd_ne (fun z : x = a => na (z ▸ hx))]; exact g1, g2⟩
      · have q := F.base x u e n t
        by_cases ex : x = a
        · subst ex; exact absurd ⟨u, e, t⟩ o3
        · rw [upd_ne ex]; exact q
    have rl : Rps X.K (A.filter (fun x => decide (x ≠ a))) m (upd H a (.frz od (.dT kvs))) l (kvs.map (·.2)) :=
      Rps.avoid av _ _ (Rps.step (B := [a]) (aok_one h5 mu) (fun x hx => by rw [List.mem_singleton.mp hx]; exact o1) stp_upd _ _ h7)
    have hjl : j < (ρ.set j none).length := by rw [List.length_set]; exact (List.getElem?_eq_some_iff.mp hj).1
    obtain ⟨P2, F3⟩ := F2.set (x := .d (.dT ks l)) (v := .ref a) (i := j) ⟨rfl, a, kvs, rfl, ⟨od, upd_same⟩, h6, na, rl⟩ hjl
    rw [List.set_set, set_same h8] at F3
    exact ⟨_, I2, H0, _, m, M, _, P2, F3, PZ.step ((Ext.write o1).trans (Ext.less sub fun x hx lv => inn x hx fun z => o3 (by rw [← z]; exact lv))) q⟩
  · exfalso
    revert q
    cases e : ρ[j]? with
    | none => exact fun q => q
    | some o => cases o with
      | none => exact fun q => q
      | some x => cases x with
        | dt md ks l => cases md with
          | own => exact (hj ⟨ks, l, e⟩).elim
          | _ => exact fun q => q
        | _ => exact fun q => q
theorem ds_frzT {X : Cx} {T : List (Addr × Str)} {W : WX} {st : Stmt} {f : Ss} {j : Nat} (h : PS X st (tS (cf X T W) f)) : PS X st (tS (cf X T W) (sSeq (sFzT j) f)) :=
  ⟨fun pins s σ H D I q => by
    obtain ⟨H2, I2, q2⟩ := tS_frzT I q
    exact h.run pins s σ H2 D I2 q2⟩
/-! ### for k in d -/
def kD : Key → D
  | .inl i => .int i
  | .inr s => .str s
theorem kD_at {K : PySem.W.Frag} {A m : List Addr} {H : Hp} : ∀ k : List Key, Rps K A m H (k.map kD) (k.map kV)
  | [] => rfl
  | .inl i :: k => ⟨_, _, rfl, rfl, kD_at k⟩
  | .inr s :: k => ⟨_, _, rfl, rfl, kD_at k⟩
def iKeysT (f : Sm Ev) : Sm (List D) := fun ρ M => bnd (f ρ M) fun x M1 => match x with
  | .d (.dT ks _) => .ok (ks.map fun k => D.tup (k.map kD)) M1
  | _ => .stuck
section
variable {X : Cx} {T : List (Addr × Str)} {W : WX} {e : Expr} {tg : Expr} {f : Sm Ev} {k : Bool}
theorem di_keysT (ha : PE X e (tE (cf X T W) f)) : PI X tg e (tI (cf X T W) k (iKeysT f)) := by
  refine ⟨fun pins s σ H G I q => (pi_keys ha).run pins s σ H G I ?_⟩
  obtain ⟨H0, A, m, M, ρ, P, F, q⟩ := q
  refine subI F q fun x M1 H1 v F1 r1 q1 => ?_
  cases x with
  | d x => cases x with
    | dT ks l =>
      obtain ⟨a, kvs, ev, ⟨o, hs⟩, ek, hn, r⟩ := r1
      have hm : a ∉ m := fun z => hn (F1.ma a z)
      refine ⟨a, o, ev, .inr ⟨kvs, hs, q1 _ _ (Stp.refl _ _) F1.wr F1.tb ?_⟩⟩
      have st : ∀ A' H2, (if k = true then RchC A m H1 else RchS A m H0 H1) A' H2 → H2 a = some (.frz o (.dT kvs)) := by
        intro A' H2 hr
        cases k with
        | true =>
          obtain ⟨_, _, h3⟩ := hr
          exact h3 a _ hs hm frz_tbl
        | false =>
          obtain ⟨h1, _⟩ := hr
          exact h1.keep a _ hs hn frz_tbl
      subst ek
      refine ⟨fun A' H2 hr i d hd => ?_, fun A' H2 hr => ⟨st A' H2 hr, by rw [List.length_map, List.length_map]; exact Nat.le_refl _⟩⟩
      rw [List.map_map, List.getElem?_map] at hd
      cases hkv : kvs[i]? with
      | none => rw [hkv] at hd; cases hd
      | some kv =>
        rw [hkv] at hd
        cases hd
        refine ⟨⟨st A' H2 hr, (List.getElem?_eq_some_iff.mp hkv).1⟩, fun x H3 hy => ?_⟩
        obtain ⟨rfl, k', v', q', e1, rfl, e3⟩ := hy
        rw [hkv] at e1; cases e1
        exact ⟨.inl rfl, q', _, rfl, e3, kD_at _⟩
    | _ => exact q1.elim
  | _ => exact q1.elim
end
end DL

set_option Elab.async false
set_option linter.all false
set_option maxRecDepth 100000
set_option maxHeartbeats 4000000
/-! The data layer: a call without arguments. -/
namespace DL
open PySem PySem.Spec PyProof.Rows L2
section
variable {X : Cx} {T : List (Addr × Str)} {W : WX} {x : Str} {p pos : Pos} {k n : Nat} {F : Fn}
theorem de_call0 (G : Dn X.prog X.w X.K X.mg X.base T k x n F) (hr : Room k X.A) (hg : Gl X x) (tk : Takes X W) (hdb : (x == ("__debug__" : Str)) = false := by decide) : PE X (.Call (.Name x p) [] [] pos) (tE (cf X T W) (eCall n F aNil)) := by
  obtain ⟨af, fd, ps, hn, G, hm, hk, hb⟩ := G.ex
  refine ⟨fun pins s σ H Q I q => ?_⟩
  refine wpAny_Call_Name_kw (ld_glob I hg hm ?_ hdb)
  refine PySem.W.callWith_K0 I.kIn hk (run_fnS (us := []) (vs := []) (E := WE W) G hr hb (passAt tk σ) I .nil ?_)
  obtain ⟨H0, A, m, M, ρ, P, F1, q⟩ := q
  have q1 : PX (cf X T W) m σ (relE (cf X T W).K H0 A m) H (if ([] : List Ev).length = n then bnd (F [] M) fun d M2 => .ok (.d d) M2 else .stuck) Q := q
  split at q1
  · rename_i hl
    have er := pass_at (K := X.K) (H0 := H0) (A := A) (xs := []) (ys := []) F1.wr.aok (show passL [] = some [] from rfl) (Paired.nil)
    refine ⟨by rw [hn, ← hl]; rfl, A, m, M, [], F1.wr, F1.tb, F1.ma, F1.aok, er, ?_⟩
    revert q1
    cases F [] M with
    | ok d M2 => exact fun q1 H' v s w t r => q1 H' v s w t r
    | exc c g M2 => exact fun q1 H' cls d s w t x => q1 H' cls d s w t x
    | stuck => exact fun q1 => q1
  · exact q1.elim
end
end DL

set_option Elab.async false
set_option linter.all false
set_option maxRecDepth 100000
set_option maxHeartbeats 4000000
/-! The data layer: the laws' `_law_is` that looks at None first. -/
namespace LN
open PySem PySem.Spec PyProof.Rows L2 DL
def S_is (Fr : Fn) : Ss := (sSeq (sIf (bOr (tCmpE (opIs false) (eVar 1) (eC .non)) (tCmpE (opIs false) (eVar 0) (eC .non))) (sRet (eAnd (eBin (opIs false) (eVar 1) (eC .non)) (eBin (opIs false) (eVar 0) (eC .non)))) sNext) (sSeq (sIf (tTru (eB bIsi (aCons (eVar 1) (aCons (eTup (aCons (eC (.ty "tuple")) (aCons (eC (.ty "list")) aNil))) aNil)))) (sSeq (sIf (bOr (tCmpE (opEq true) (eB bIsi (aCons (eVar 0) (aCons (eC (.ty "tuple")) aNil))) (eB bIsi (aCons (eVar 1) (aCons (eC (.ty "tuple")) aNil)))) (tCmpE (opEq true) (eB bIsi (aCons (eVar 0) (aCons (eC (.ty "list")) aNil))) (eB bIsi (aCons (eVar 1) (aCons (eC (.ty "list")) aNil))))) (sRet (eC (.bl false))) sNext) (sRet (eAnd (eBin (opEq false) (eB bLen (aCons (eVar 0) aNil)) (eB bLen (aCons (eVar 1) aNil))) (eB bAll (aCons (eF (fLc (iO (zip2 true) (aCons (eVar 0) (aCons (eVar 1) aNil))) (.many [2, 3]) [2, 3] tYesE (eCall 2 Fr (aCons (eVar 2) (aCons (eVar 3) aNil))))) aNil))))) sNext) (sSeq (sIf (bOr (tCmpE (opEq true) (eB bIsi (aCons (eVar 0) (aCons (eC (.ty "bool")) aNil))) (eB bIsi (aCons (eVar 1) (aCons (eC (.ty "bool")) aNil)))) (tCmpE (opEq true) (eB bIsi (aCons (eVar 0) (aCons (eC (.ty "int")) aNil))) (eB bIsi (aCons (eVar 1) (aCons (eC (.ty "int")) aNil))))) (sRet (eC (.bl false))) sNext) (sRet (eAnd (eBin (opEq false) (eB bIsi (aCons (eVar 0) (aCons (eC (.ty "str")) aNil))) (eB bIsi (aCons (eVar 1) (aCons (eC (.ty "str")) aNil)))) (eBin (opEq false) (eVar 0) (eVar 1)))))))
def R_is : Nat → Fn
  | 0 => fun _ _ => .stuck
  | n + 1 => fnOf 4 (S_is (R_is n))
theorem is_int (n : Nat) (a b : Int) (M : Mem) : R_is (n + 1) [.d (.int a), .d (.int b)] M = .ok (.bl (decide (a = b))) M := by
  show fnOf 4 (S_is (R_is n)) _ _ = _
  rw [fnOf_eq]
  have v0 : eVar 0 [some (.d (.int a)), some (.d (.int b)), none, none] M = .ok (.d (.int a)) M := rfl
  have v1 : eVar 1 [some (.d (.int a)), some (.d (.int b)), none, none] M = .ok (.d (.int b)) M := rfl
  have t1 := truV (isi2 (b := "tuple") (c := "list") v1 (a := "int") rfl (by decide) (by decide))
  have t2 : (bOr (tCmpE (opIs false) (eVar 1) (eC .non)) (tCmpE (opIs false) (eVar 0) (eC .non))) [some (.d (.int a)), some (.d (.int b)), none, none] M = .ok false M := rfl
  have t3 := neB (isi1 (b := "bool") v0 (a := "int") rfl (by decide)) (isi1 (b := "bool") v1 (a := "int") rfl (by decide))
  have t4 := neB (isi1 (b := "int") v0 (a := "int") rfl (by decide)) (isi1 (b := "int") v1 (a := "int") rfl (by decide))
  have t5 := eqB (isi1 (b := "str") v0 (a := "int") rfl (by decide)) (isi1 (b := "str") v1 (a := "int") rfl (by decide))
  rw [show (isOf "int" "tuple" || isOf "int" "list") = false by decide] at t1
  rw [show (!decide (isOf "int" "bool" = isOf "int" "bool")) = false by decide] at t3
  rw [show (!decide (isOf "int" "int" = isOf "int" "int")) = false by decide] at t4
  rw [show decide (isOf "int" "str" = isOf "int" "str") = true by decide] at t5
  show fnEnd (S_is (R_is n) [some (.d (.int a)), some (.d (.int b)), none, none] M) = _
  have t6 : eBin (opEq false) (eVar 0) (eVar 1) [some (.d (.int a)), some (.d (.int b)), none, none] M = .ok (bv (decide (a = b))) M := by rw [q_bin v0 v1]; rfl
  rw [S_is, q_nx (q_skip t2), q_nx (q_skip t1), q_nx (q_skip (by rw [q_or0 t3]; exact t4)), q_ret (x := bv (decide (a = b))) (by rw [q_eand1 t5 rfl]; exact t6) rfl]
  rfl
theorem is_tup (n : Nat) (l l' : List D) (M : Mem) (hl : l.length = l'.length) (hm : l.length ≤ most) (h : ∀ p ∈ l.zip l', R_is n [.d p.1, .d p.2] M = .ok (.bl true) M) : R_is (n + 1) [.d (.tup l), .d (.tup l')] M = .ok (.bl true) M := by
  have lc : fLc (iO (zip2 true) (aCons (eVar 0) (aCons (eVar 1) aNil))) (.many [2, 3]) [2, 3] tYesE (eCall 2 (R_is n) (aCons (eVar 2) (aCons (eVar 3) aNil))) [some (.d (.tup l)), some (.d (.tup l')), none, none] M = .ok ((zipL l l').map fun _ => .bl true) M := by
    have e1 : iO (zip2 true) (aCons (eVar 0) (aCons (eVar 1) aNil)) [some (.d (.tup l)), some (.d (.tup l')), none, none] M = .ok (zipL l l') M := by
      simp [iO, aCons, aNil, eVar, look, bnd, zip2, optR]
    have hz : (zipL l l').length ≤ most := by rw [zipL_len]; omega
    simp only [fLc, e1, bnd, if_pos hz]
    refine lcL_map _ _ fun x hx => ?_
    unfold zipL at hx
    obtain ⟨p, hp, rfl⟩ := List.mem_map.mp hx
    refine ⟨[some (.d (.tup l)), some (.d (.tup l')), some (.d p.1), some (.d p.2)], by simp [tgE, wipeE, setAllE], ?_⟩
    simp [eCall, aCons, aNil, eVar, look, bnd, DL.passL, pass1, h p hp]
  have tb : ∀ m : List D, toBls (m.map fun _ => D.bl true) = some (m.map fun _ => true) := by
    intro m
    induction m with
    | nil => rfl
    | cons x m ih => simp [toBls, ih]
  show fnOf 4 (S_is (R_is n)) _ _ = _
  rw [fnOf_eq]
  have v0 : eVar 0 [some (.d (.tup l)), some (.d (.tup l')), none, none] M = .ok (.d (.tup l)) M := rfl
  have v1 : eVar 1 [some (.d (.tup l)), some (.d (.tup l')), none, none] M = .ok (.d (.tup l')) M := rfl
  have t1 := truV (isi2 (b := "tuple") (c := "list") v1 (a := "tuple") rfl (by decide) (by decide))
  have t3 := neB (isi1 (b := "tuple") v0 (a := "tuple") rfl (by decide)) (isi1 (b := "tuple") v1 (a := "tuple") rfl (by decide))
  have t4 := neB (isi1 (b := "list") v0 (a := "tuple") rfl (by decide)) (isi1 (b := "list") v1 (a := "tuple") rfl (by decide))
  rw [show (isOf "tuple" "tuple" || isOf "tuple" "list") = true by decide] at t1
  rw [show (!decide (isOf "tuple" "tuple" = isOf "tuple" "tuple")) = false by decide] at t3
  rw [show (!decide (isOf "tuple" "list" = isOf "tuple" "list")) = false by decide] at t4
  have t5 : eBin (opEq false) (eB bLen (aCons (eVar 0) aNil)) (eB bLen (aCons (eVar 1) aNil)) [some (.d (.tup l)), some (.d (.tup l')), none, none] M = .ok (bv true) M := by
    simp [eBin, eB, aCons, aNil, v0, v1, bnd, bLen, seqOf, opEq, eqR, hl]
  show fnEnd (S_is (R_is n) [some (.d (.tup l)), some (.d (.tup l')), none, none] M) = _
  have t6 : eB bAll (aCons (eF (fLc (iO (zip2 true) (aCons (eVar 0) (aCons (eVar 1) aNil))) (.many [2, 3]) [2, 3] tYesE (eCall 2 (R_is n) (aCons (eVar 2) (aCons (eVar 3) aNil))))) aNil) [some (.d (.tup l)), some (.d (.tup l')), none, none] M = .ok (bv true) M := by
    have e1 : eF (fLc (iO (zip2 true) (aCons (eVar 0) (aCons (eVar 1) aNil))) (.many [2, 3]) [2, 3] tYesE (eCall 2 (R_is n) (aCons (eVar 2) (aCons (eVar 3) aNil)))) [some (.d (.tup l)), some (.d (.tup l')), none, none] M = .ok (.d (.lst ((zipL l l').map fun _ => .bl true))) M := by
      simp only [eF, lc, bnd]
    rw [q_B (q_cons e1 rfl)]
    simp [bAll, blsOf, lstOf, tb]
  have t0 : (bOr (tCmpE (opIs false) (eVar 1) (eC .non)) (tCmpE (opIs false) (eVar 0) (eC .non))) [some (.d (.tup l)), some (.d (.tup l')), none, none] M = .ok false M := rfl
  rw [S_is, q_nx (q_skip t0), q_rt (d := .bl true) (M' := M) (by rw [q_if1 t1, q_nx (q_skip (by rw [q_or0 t3]; exact t4)), q_ret (x := bv true) (by rw [q_eand1 t5 rfl]; exact t6) rfl])]
  rfl
theorem is_lst (n : Nat) (l l' : List D) (M : Mem) (hl : l.length = l'.length) (hm : l.length ≤ most) (h : ∀ p ∈ l.zip l', R_is n [.d p.1, .d p.2] M = .ok (.bl true) M) : R_is (n + 1) [.d (.lst l), .d (.lst l')] M = .ok (.bl true) M := by
  have lc : fLc (iO (zip2 true) (aCons (eVar 0) (aCons (eVar 1) aNil))) (.many [2, 3]) [2, 3] tYesE (eCall 2 (R_is n) (aCons (eVar 2) (aCons (eVar 3) aNil))) [some (.d (.lst l)), some (.d (.lst l')), none, none] M = .ok ((zipL l l').map fun _ => .bl true) M := by
    have e1 : iO (zip2 true) (aCons (eVar 0) (aCons (eVar 1) aNil)) [some (.d (.lst l)), some (.d (.lst l')), none, none] M = .ok (zipL l l') M := by
      simp [iO, aCons, aNil, eVar, look, bnd, zip2, itemsOf, optR]
    have hz : (zipL l l').length ≤ most := by rw [zipL_len]; omega
    simp only [fLc, e1, bnd, if_pos hz]
    refine lcL_map _ _ fun x hx => ?_
    unfold zipL at hx
    obtain ⟨p, hp, rfl⟩ := List.mem_map.mp hx
    refine ⟨[some (.d (.lst l)), some (.d (.lst l')), some (.d p.1), some (.d p.2)], by simp [tgE, wipeE, setAllE], ?_⟩
    simp [eCall, aCons, aNil, eVar, look, bnd, DL.passL, pass1, h p hp]
  have tb : ∀ m : List D, toBls (m.map fun _ => D.bl true) = some (m.map fun _ => true) := by
    intro m
    induction m with
    | nil => rfl
    | cons x m ih => simp [toBls, ih]
  show fnOf 4 (S_is (R_is n)) _ _ = _
  rw [fnOf_eq]
  have v0 : eVar 0 [some (.d (.lst l)), some (.d (.lst l')), none, none] M = .ok (.d (.lst l)) M := rfl
  have v1 : eVar 1 [some (.d (.lst l)), some (.d (.lst l')), none, none] M = .ok (.d (.lst l')) M := rfl
  have t1 := truV (isi2 (b := "tuple") (c := "list") v1 (a := "list") rfl (by decide) (by decide))
  have t3 := neB (isi1 (b := "tuple") v0 (a := "list") rfl (by decide)) (isi1 (b := "tuple") v1 (a := "list") rfl (by decide))
  have t4 := neB (isi1 (b := "list") v0 (a := "list") rfl (by decide)) (isi1 (b := "list") v1 (a := "list") rfl (by decide))
  rw [show (isOf "list" "tuple" || isOf "list" "list") = true by decide] at t1
  rw [show (!decide (isOf "list" "tuple" = isOf "list" "tuple")) = false by decide] at t3
  rw [show (!decide (isOf "list" "list" = isOf "list" "list")) = false by decide] at t4
  have t5 : eBin (opEq false) (eB bLen (aCons (eVar 0) aNil)) (eB bLen (aCons (eVar 1) aNil)) [some (.d (.lst l)), some (.d (.lst l')), none, none] M = .ok (bv true) M := by
    simp [eBin, eB, aCons, aNil, v0, v1, bnd, bLen, seqOf, opEq, eqR, hl]
  show fnEnd (S_is (R_is n) [some (.d (.lst l)), some (.d (.lst l')), none, none] M) = _
  have t6 : eB bAll (aCons (eF (fLc (iO (zip2 true) (aCons (eVar 0) (aCons (eVar 1) aNil))) (.many [2, 3]) [2, 3] tYesE (eCall 2 (R_is n) (aCons (eVar 2) (aCons (eVar 3) aNil))))) aNil) [some (.d (.lst l)), some (.d (.lst l')), none, none] M = .ok (bv true) M := by
    have e1 : eF (fLc (iO (zip2 true) (aCons (eVar 0) (aCons (eVar 1) aNil))) (.many [2, 3]) [2, 3] tYesE (eCall 2 (R_is n) (aCons (eVar 2) (aCons (eVar 3) aNil)))) [some (.d (.lst l)), some (.d (.lst l')), none, none] M = .ok (.d (.lst ((zipL l l').map fun _ => .bl true))) M := by
      simp only [eF, lc, bnd]
    rw [q_B (q_cons e1 rfl)]
    simp [bAll, blsOf, lstOf, tb]
  have t0 : (bOr (tCmpE (opIs false) (eVar 1) (eC .non)) (tCmpE (opIs false) (eVar 0) (eC .non))) [some (.d (.lst l)), some (.d (.lst l')), none, none] M = .ok false M := rfl
  rw [S_is, q_nx (q_skip t0), q_rt (d := .bl true) (M' := M) (by rw [q_if1 t1, q_nx (q_skip (by rw [q_or0 t3]; exact t4)), q_ret (x := bv true) (by rw [q_eand1 t5 rfl]; exact t6) rfl])]
  rfl


def Sf (n : Nat) (d : D) : Prop := ∀ M, R_is n [.d d, .d d] M = .ok (.bl true) M
theorem Sf.int (n : Nat) (a : Int) : Sf (n + 1) (.int a) := fun M => by rw [is_int, decide_eq_true rfl]
theorem Sf.bl (n : Nat) (a : Bool) : Sf (n + 1) (.bl a) := fun M => by
  show fnOf 4 (S_is (R_is n)) _ _ = _
  rw [fnOf_eq]
  have v0 : eVar 0 [some (.d (.bl a)), some (.d (.bl a)), none, none] M = .ok (.d (.bl a)) M := rfl
  have v1 : eVar 1 [some (.d (.bl a)), some (.d (.bl a)), none, none] M = .ok (.d (.bl a)) M := rfl
  have t1 := truV (isi2 (b := "tuple") (c := "list") v1 (a := "bool") rfl (by decide) (by decide))
  have t2 : (bOr (tCmpE (opIs false) (eVar 1) (eC .non)) (tCmpE (opIs false) (eVar 0) (eC .non))) [some (.d (.bl a)), some (.d (.bl a)), none, none] M = .ok false M := rfl
  have t3 := neB (isi1 (b := "bool") v0 (a := "bool") rfl (by decide)) (isi1 (b := "bool") v1 (a := "bool") rfl (by decide))
  have t4 := neB (isi1 (b := "int") v0 (a := "bool") rfl (by decide)) (isi1 (b := "int") v1 (a := "bool") rfl (by decide))
  have t5 := eqB (isi1 (b := "str") v0 (a := "bool") rfl (by decide)) (isi1 (b := "str") v1 (a := "bool") rfl (by decide))
  rw [show (isOf "bool" "tuple" || isOf "bool" "list") = false by decide] at t1
  rw [show (!decide (isOf "bool" "bool" = isOf "bool" "bool")) = false by decide] at t3
  rw [show (!decide (isOf "bool" "int" = isOf "bool" "int")) = false by decide] at t4
  rw [show decide (isOf "bool" "str" = isOf "bool" "str") = true by decide] at t5
  show fnEnd (S_is (R_is n) [some (.d (.bl a)), some (.d (.bl a)), none, none] M) = _
  have t6 : eBin (opEq false) (eVar 0) (eVar 1) [some (.d (.bl a)), some (.d (.bl a)), none, none] M = .ok (bv true) M := by rw [q_bin v0 v1]; simp [look, opEq, eqR_bl]
  rw [S_is, q_nx (q_skip t2), q_nx (q_skip t1), q_nx (q_skip (by rw [q_or0 t3]; exact t4)), q_ret (x := bv true) (by rw [q_eand1 t5 rfl]; exact t6) rfl]
  rfl

theorem Sf.tup {n : Nat} {l : List D} (hl : l.length ≤ most) (h : ∀ d ∈ l, Sf n d) : Sf (n + 1) (.tup l) := fun M => is_tup n l l M rfl hl fun p hp => by
  obtain ⟨h1, h2⟩ := zip_same hp
  rw [← h1]; exact h _ h2 M
theorem Sf.lst {n : Nat} {l : List D} (hl : l.length ≤ most) (h : ∀ d ∈ l, Sf n d) : Sf (n + 1) (.lst l) := fun M => is_lst n l l M rfl hl fun p hp => by
  obtain ⟨h1, h2⟩ := zip_same hp
  rw [← h1]; exact h _ h2 M
theorem Sf.non (n : Nat) : Sf (n + 1) .non := fun M => rfl
theorem Sf.str (n : Nat) (a : Str) : Sf (n + 1) (.str a) := fun M => by
  show fnOf 4 (S_is (R_is n)) _ _ = _
  rw [fnOf_eq]
  have v0 : eVar 0 [some (.d (.str a)), some (.d (.str a)), none, none] M = .ok (.d (.str a)) M := rfl
  have v1 : eVar 1 [some (.d (.str a)), some (.d (.str a)), none, none] M = .ok (.d (.str a)) M := rfl
  have t1 := truV (isi2 (b := "tuple") (c := "list") v1 (a := "str") rfl (by decide) (by decide))
  have t2 : (bOr (tCmpE (opIs false) (eVar 1) (eC .non)) (tCmpE (opIs false) (eVar 0) (eC .non))) [some (.d (.str a)), some (.d (.str a)), none, none] M = .ok false M := rfl
  have t3 := neB (isi1 (b := "bool") v0 (a := "str") rfl (by decide)) (isi1 (b := "bool") v1 (a := "str") rfl (by decide))
  have t4 := neB (isi1 (b := "int") v0 (a := "str") rfl (by decide)) (isi1 (b := "int") v1 (a := "str") rfl (by decide))
  have t5 := eqB (isi1 (b := "str") v0 (a := "str") rfl (by decide)) (isi1 (b := "str") v1 (a := "str") rfl (by decide))
  rw [show (isOf "str" "tuple" || isOf "str" "list") = false by decide] at t1
  rw [show (!decide (isOf "str" "bool" = isOf "str" "bool")) = false by decide] at t3
  rw [show (!decide (isOf "str" "int" = isOf "str" "int")) = false by decide] at t4
  rw [show decide (isOf "str" "str" = isOf "str" "str") = true by decide] at t5
  show fnEnd (S_is (R_is n) [some (.d (.str a)), some (.d (.str a)), none, none] M) = _
  have t6 : eBin (opEq false) (eVar 0) (eVar 1) [some (.d (.str a)), some (.d (.str a)), none, none] M = .ok (bv true) M := by rw [q_bin v0 v1]; simp [opEq, eqR]
  rw [S_is, q_nx (q_skip t2), q_nx (q_skip t1), q_nx (q_skip (by rw [q_or0 t3]; exact t4)), q_ret (x := bv true) (by rw [q_eand1 t5 rfl]; exact t6) rfl]
  rfl


theorem Sf.up {n : Nat} {d : D} (h : Sf n d) : Sf n d := h
end LN

set_option Elab.async false
set_option linter.all false
set_option maxRecDepth 100000
set_option maxHeartbeats 4000000
/-! The data layer: sum, max of a tuple of ints. -/
namespace DL
open PySem PySem.Spec PyProof.Rows L2
section
variable {X : Cx} {T : List (Addr × Str)} {W : WX}
def rSumT (K : PySem.W.Frag) : List V → Hp → VK → Prop := fun vs H Q => ∃ (a : Addr) (ns : List Int), vs = [V.ref a] ∧ SqT K H a (ns.map V.int) ∧ Q (.int ns.sum) H
theorem cr_sumT (hc : X.calm = true) : CallR X (.builtin "sum") (rSumT X.K) := by
  intro pins s σ H vs us Q I r h
  obtain ⟨a, ns, rfl, hs, q⟩ := h
  obtain ⟨its, rv, hl, _⟩ := I.tuple hs
  rw [Vals.ref1 r]
  have hi := rv.ints
  obtain ⟨xs, e⟩ := hi.allInts.items
  have hn : numsOf (intItems xs).toList = ns := by rw [← e]; exact hi.numsOf
  rw [nums_intItems] at hn
  rw [e] at hl
  refine PySem.W.ktm_sumG (I.ok.hd hc) hl fun h' tk t' hk => ?_
  refine ⟨.int ns.sum, H, I.kept hk, ⟨t', ?_⟩, q⟩
  rw [preSum_eq, List.take_of_length_le (by simp), hn]
def bSumT (xs : List Ev) (M : Mem) : R Ev := match xs with
  | [.d (.tup l)] => match toInts l with
    | some ns => .ok (iv ns.sum) M
    | none => .stuck
  | xs => bSum xs M
theorem bi_sumT (hc : X.calm = true) : BIs X T W (.builtin "sum") bSumT := by
  obtain ⟨r, h1, h2⟩ := bi_sum (X := X) (T := T) (W := W) hc
  refine ⟨_, (cr_sumT hc).or h1, ?_⟩
  intro H0 A m M H ρ σ P xs vs Q F ra h
  unfold bSumT at h
  split at h
  · rename_i l
    obtain ⟨v, rfl, r1⟩ := Paired.one ra
    split at h
    · rename_i ns hl
      obtain ⟨a, ws, rfl, hp, r2⟩ := r1
      have ew := ints_back hl r2
      subst ew
      exact .inl ⟨a, ns, rfl, SqT.of hp, h.fin F rfl⟩
    · exact h.elim
  · exact .inr (h2 H0 A m M H ρ σ P _ vs Q F ra h)
def mx (i : Int) (l : List Int) : Int := l.foldl (fun a b => if a < b then b else a) i
def rMaxTs (K : PySem.W.Frag) : List V → Hp → VK → Prop := fun vs H Q => ∃ (a : Addr) (i : Int) (ns : List Int), vs = [V.ref a] ∧ SqT K H a ((i :: ns).map V.int) ∧ Q (.int (mx i ns)) H
theorem hold_ints {h : Heap} : ∀ {ns : List Int} {its : List Value}, Vals (ns.map V.int) its → PySem.W.HoldAll h its ns
  | [], _, r => by cases r; exact PySem.W.HoldAll.nil
  | n :: ns, _, r => by
    cases r with
    | cons r1 r2 =>
      obtain ⟨t, rfl⟩ := r1
      exact PySem.W.HoldAll.cons (PySem.W.holds_int n t) (hold_ints r2)
theorem mx_is (i : Int) (ns : List Int) : PySem.W.maxOf i ns = mx i ns := by
  unfold mx PySem.W.maxOf
  congr 1
  funext a b
  show (if decide (a < b) = true then b else a) = _
  by_cases k : a < b <;> simp [k]
theorem cr_maxTs (hc : X.calm = true) (hu : X.A.units + 64 < cLine) : CallR X (.builtin "max") (rMaxTs X.K) := by
  intro pins s σ H vs us Q I r h
  obtain ⟨a, i, ns, rfl, hs, q⟩ := h
  obtain ⟨its, rv, hl, _⟩ := I.tuple hs
  rw [Vals.ref1 r]
  refine PySem.W.max_tuple_datum (x := i) (xs := ns) (I.ok.hd hc) hl (hold_ints (ns := i :: ns) rv) ?_ fun n v h' tk hn hv hk => ?_
  · show X.A.units + 1 + 0 < cLine
    omega
  · obtain ⟨t', rfl⟩ := PySem.W.int_of_holds hv
    refine ⟨.int _, H, I.kept hk, ⟨_, rfl⟩, ?_⟩
    rw [mx_is]; exact q
def bMaxTs (xs : List Ev) (M : Mem) : R Ev := match xs with
  | [.d (.tup l)] => match toInts l with
    | some (i :: ns) => .ok (iv (mx i ns)) M
    | _ => .stuck
  | xs => bMax xs M
theorem bi_maxTs (hc : X.calm = true) (hu : X.A.units + 64 < cLine) : BIs X T W (.builtin "max") bMaxTs := by
  obtain ⟨r, h1, h2⟩ := bi_max (X := X) (T := T) (W := W) hc
  refine ⟨_, (cr_maxTs hc hu).or h1, ?_⟩
  intro H0 A m M H ρ σ P xs vs Q F ra h
  unfold bMaxTs at h
  split at h
  · rename_i l
    obtain ⟨v, rfl, r1⟩ := Paired.one ra
    split at h
    · rename_i i ns hl
      obtain ⟨a, ws, rfl, hp, r2⟩ := r1
      have ew := ints_back hl r2
      subst ew
      exact .inl ⟨a, i, ns, rfl, SqT.of hp, h.fin F rfl⟩
    · exact h.elim
  · exact .inr (h2 H0 A m M H ρ σ P _ vs Q F ra h)
end
theorem mx_lt {b : Int} : ∀ (l : List Int) (i : Int), mx i l < b ↔ i < b ∧ ∀ x ∈ l, x < b
  | [], i => by simp [mx]
  | a :: l, i => by
    show mx (if i < a then a else i) l < b ↔ _
    rw [mx_lt]
    constructor
    · rintro ⟨h1, h2⟩
      split at h1
      · exact ⟨by omega, fun x hx => (List.mem_cons.mp hx).elim (fun e => e ▸ h1) (h2 x)⟩
      · refine ⟨h1, fun x hx => (List.mem_cons.mp hx).elim (fun e => ?_) (h2 x)⟩
        subst e; omega
    · rintro ⟨h1, h2⟩
      refine ⟨?_, fun x hx => h2 x (List.mem_cons_of_mem _ hx)⟩
      have := h2 a List.mem_cons_self
      split <;> omega
end DL

set_option Elab.async false
set_option linter.all false
set_option maxRecDepth 100000
set_option maxHeartbeats 2000000
/-! The data layer: lambdas handed on by two defs. -/
namespace DL
open PySem PySem.Spec PyProof.Rows L2
section
variable {X : Cx} {T : List (Addr × Str)} {W : WX}
theorem de_word2 {x ca told : Str} {st : Stmt} {g CS c P : Addr} {fd : FuncData} {k : Nat} {params : Arguments} {body : Expr} {scope : Scope} {fb : Sm Ev} {tw : Str → Option Str} {N : List Str} {ok : Addr → Str → Prop} {p lpos pos : Pos} (Fr : FunD X.K x x (defArgs st) (defBody st) (defScope st) [] [] g fd) (hm : X.mg x = some (.ref g)) (hb : Binds X.K fd [ca] [])
    (Sg : FnScope N [ca] (defScope st)) (n0 : N[0]? = some ca) (h5 : (defScope st).names.lookup ca = some .local)
    (gives : LamX.GivesTo X N x (defScope st) g fd.code (defBody st) ca (X.env.qual ++ "<lambda>") (TTw X.K T CS told ok))
    (hx : ∀ c wd, tw c = some wd → ∃ Dc, X.mg c = some (.ref Dc) ∧ ExcC X.K Dc ∧ PySem.W.exmOne X.K (.ref Dc) (.ref CS) = some true ∧ ok Dc wd)
    (TB : LamX.TabB X.base X.mg c P) (hcode : X.env.code = .ref c) (hmT : (P, X.env.qual ++ "<lambda>") ∈ T) (hu : ∀ p ∈ T, p.1 = P → p.2 = X.env.qual ++ "<lambda>") (hr : Room (k + 2) X.A) (hg : Gl X x)
    (hlam : ∀ (A : Around) (outer : List PySem.Env) (s : Shared) (H : Hp) (E : XK) (f c' : Addr), Room k (A.deeper (LamX.lamEnv X scope s.heap.objs.size f c')) → PE (LamX.lamCx X A outer s H E scope f c') body (tE (cf (LamX.lamCx X A outer s H E scope f c') T (wE E)) fb))
    (L : LamX.LamS X.env.scope scope) (hdef : defaultsOf params X.env = ([], []) := by rfl) (hbind : ∀ (q : Str) (cl : List (Str × Addr)) (pm cv ctv : Value), bindArgs (PySem.W.kla_fn "<lambda>" q params body scope cl pm cv ctv) ⟨[], []⟩ = pure [] := by intros; rfl)
    (hdb : (x == ("__debug__" : Str)) = false := by decide) (hda : (ca == ("__debug__" : Str)) = false := by decide) (hdc : (ca == ("__classdict__" : Str)) = false := by decide) :
    PE X (.Call (.Name x p) [.Lambda params body scope lpos] [] pos) (tE (cf X T W) (eWord tw told fb)) := by
  obtain ⟨oc, od, dV, kV, doc, pm, an, cdv, ct, osl, rfl, lk, hcd, hD, _⟩ := Fr.ex
  rcases hD with ⟨_, rfl⟩ | ⟨e, _⟩
  · refine ⟨fun pins s σ H Q I q => (LamX.pe_lamcall (T := T) (TT := TTw X.K T CS told ok) (a := ca) (Ng := N) (k := k) (t := fun E => tE ⟨X.K, X.mg, T, wE E⟩ fb) hg hm Fr.kp lk hcd hb Sg n0 (Or.inl h5) gives TB hcode hmT hu hr L hdef hbind hlam hdb hda hdc).run pins s σ H Q I ?_⟩
    obtain ⟨H0, A, m, M, ρ, P', F, q⟩ := q
    refine ⟨F.tb, fun H1 en t1 => ?_⟩
    have s1 : Stp m H H1 := fun a o e _ t => en a o e t
    have F1 : FR ⟨X.K, X.mg, T, W⟩ H0 A m M H1 ρ σ P' := F.step s1 (F.wr.step en) t1
    refine ⟨H0, A, m, M, ρ, P', F1.wish rfl rfl, ?_⟩
    unfold eWord at q
    cases e : fb ρ M with
    | stuck => rw [e] at q; exact q.elim
    | ok x M1 =>
      rw [e] at q
      exact fun H' v s w t r => q H' (.str told) (s1.trans s) w t rfl
    | exc c' g' M1 =>
      rw [e] at q
      cases g' with
      | some _ => exact q.elim
      | none =>
        cases e2 : tw c' with
        | none =>
          have q' : PX (cf X T W) m σ (relE X.K H0 A m) H (match tw c' with | some b => .ok (.d (.str b)) M1 | none => .stuck) Q := q
          rw [e2] at q'; exact q'.elim
        | some b =>
          have q' : PX (cf X T W) m σ (relE X.K H0 A m) H (match tw c' with | some b => .ok (.d (.str b)) M1 | none => .stuck) Q := q
          rw [e2] at q'
          intro H' cls d s w t hxr
          obtain ⟨C', hC, rfl, hd⟩ := hxr
          obtain ⟨Dc, g1, g2, g3, g4⟩ := hx c' b e2
          have g1' : X.mg c' = some (.ref C') := hC
          rw [g1] at g1'; cases g1'
          exact ⟨hd, _, b, rfl, g2, g3, g4, t, fun H'' st tb => q' H'' (.str b) (s1.trans (s.trans (st.mono fun _ h => nomatch h))) (w.step fun a o e tt => st a o e (fun h => nomatch h) tt) tb rfl⟩
  · exact absurd rfl e
end
/-- what the law is asked, two tables -/
def spLaw2 (K : PySem.W.Frag) (P1 P2 : Addr) : Sp := fun vs H Q _ => ∃ (a : Addr) (ns : List Int), vs = [.ref a] ∧ SqL K H a (ns.map V.int) ∧ ns.length ≤ 63 ∧ (∀ z ∈ ns, Builtin.Int.intBits z ≤ 1048576) ∧ H P1 = some (.tbl #[]) ∧ H P2 = some (.tbl #[]) ∧ ∀ H', Q (.bl true) H'
theorem law_runT {C : Cf} {n : Nat} {fh : Sm Ev} {rest : Ss} {a : Addr} {H : Hp} {ns cells : List Int} {k : Int} {Dn : Ends} (tab : LamX.Tabs C.T H) (hS : SqL C.K H a (ns.map V.int))
    (h1 : ∀ d, (d = .sc ns ∨ d = .lst (ns.map D.int)) → fh (some (.d d) :: List.replicate (n + 1) none) [] = .ok (.d (.lst [.lst (cells.map D.int), .int 0, .int 0, .int k, .int 0])) [])
    (h2 : ∃ M', rest (none :: some (.d (.ob 0)) :: List.replicate n none) [.lst [.ob 1, .int 0, .int 0, .int k, .int 0], .lst (cells.map D.int)] = .rt (.bl true) M') (hD : ∀ H', Dn.rt (.bl true) H') :
    tSeq (tAsg (tE C fh) (gName 1)) (tS C rest) Dn (some (.ref a) :: List.replicate (n + 1) none) H := by
  have pad : ∀ k, ER C.K H [] [] H (List.replicate k none) (List.replicate k none) [] := by
    intro k
    induction k with
    | zero => exact ⟨rfl, rfl⟩
    | succ k ih => exact ⟨none, List.replicate k none, rfl, ih⟩
  have go : ∀ d, (d = .sc ns ∨ d = .lst (ns.map D.int)) → Rp C.K [] [] H d (.ref a) → tSeq (tAsg (tE C fh) (gName 1)) (tS C rest) Dn (some (.ref a) :: List.replicate (n + 1) none) H := by
    intro d hd r
    have F : FR C H [] [] [] H (some (.d d) :: List.replicate (n + 1) none) (some (.ref a) :: List.replicate (n + 1) none) [] :=
      ⟨⟨rfl, List.nodup_nil, fun n a o h => by simp at h⟩, tab, ⟨_, _, [], [], rfl, rfl, ⟨rfl, r⟩, pad _⟩, List.nodup_nil, fun a h => (nomatch h), fun a h => (nomatch h), fun a h => (nomatch h), Stp.refl _ _⟩
    refine ⟨H, [], [], [], _, [], F, ?_⟩
    rw [h1 d hd]
    intro H' v s w t r
    obtain ⟨p, vs, rfl, hp, _, v0, r0, rfl, hc, rs⟩ := r
    obtain ⟨c, ws, rfl, hc, _, rc⟩ := hc
    have rs' : Rps C.K [p, c] [p, c] H' [.int 0, .int 0, .int k, .int 0] r0 := Rps.bare _ _ rfl (by
      obtain ⟨v1, r1, rfl, e1, v2, r2, rfl, e2, v3, r3, rfl, e3, v4, r4, rfl, e4, rfl⟩ := rs
      exact ⟨v1, _, rfl, e1, v2, _, rfl, e2, v3, _, rfl, e3, v4, _, rfl, e4, rfl⟩ : Rps C.K [] [p, c] H' [.int 0, .int 0, .int k, .int 0] r0)
    have hne : p ≠ c := fun z => by
      subst z
      rw [hp] at hc
      have e := Rps.ints rc
      rw [e] at hc
      cases cells with
      | nil => cases hc
      | cons x xs => cases hc
    have hw : WR C.K [p, c] [.lst [.ob 1, .int 0, .int 0, .int k, .int 0], .lst (cells.map D.int)] H' := by
      refine ⟨rfl, by simp [hne], fun i b o e1 e2 => ?_⟩
      match i, e1, e2 with
      | 0, e1, e2 =>
        simp at e1 e2
        subst e1; subst e2
        exact ⟨_, hp, rfl, _, _, rfl, ⟨c, rfl, rfl⟩, rs'⟩
      | 1, e1, e2 =>
        simp at e1 e2
        subst e1; subst e2
        refine ⟨_, hc, ?_, ?_⟩
        · exact bare_ints cells
        · rw [Rps.ints rc]; exact Rps.of_ints _
    have F2 : FR C H' [p, c] [p, c] [.lst [.ob 1, .int 0, .int 0, .int k, .int 0], .lst (cells.map D.int)] H' (none :: some (.d (.ob 0)) :: List.replicate n none) ((some (.ref a) :: List.replicate (n + 1) none).set 1 (some (.ref p))) [] := by
      refine ⟨hw, t, ⟨_, _, rfl, ?_⟩, List.nodup_nil, fun a h => (nomatch h), fun a h => h, fun b hb => ?_, Stp.refl _ _⟩
      · have pad' : ∀ k, ER C.K H' [p, c] [p, c] H' (List.replicate k none) (List.replicate k none) [] := by
          intro k
          induction k with
          | zero => exact ⟨rfl, rfl⟩
          | succ k ih => exact ⟨none, List.replicate k none, rfl, ih⟩
        exact ⟨_, _, [], [], rfl, rfl, ⟨rfl, p, rfl, rfl⟩, pad' n⟩
      · rcases List.mem_cons.mp hb with z | z
        · rw [z]; exact ⟨_, hp, trivial⟩
        · rw [List.mem_singleton.mp z]; exact ⟨_, hc, trivial⟩
    refine ⟨H', [p, c], [p, c], _, _, [], F2, ?_⟩
    obtain ⟨M', e⟩ := h2
    rw [e]
    intro H2 v2 _ _ _ rv
    have := rv [] (fun a h => nomatch h)
    rw [show v2 = V.bl true from this]
    exact hD H2
  rcases hS with (h | ⟨o, h⟩) | h
  · exact go (.lst (ns.map D.int)) (.inr rfl) ⟨a, _, rfl, h, by simp, Rps.of_ints ns⟩
  · exact go (.sc ns) (.inl rfl) ⟨a, rfl, .inl ⟨o, h⟩⟩
  · exact go (.sc ns) (.inl rfl) ⟨a, rfl, .inr h⟩

theorem tabs2 {T : List (Addr × Str)} {P1 P2 : Addr} {q1 q2 : Str} {H : Hp} (hT : T = [(P1, q1), (P2, q2)]) (h1 : H P1 = some (.tbl #[])) (h2 : H P2 = some (.tbl #[])) : LamX.Tabs T H := fun p hp => by
  rw [hT] at hp
  rcases List.mem_cons.mp hp with rfl | hp
  · exact LamX.TabS.nil h1
  · rw [List.mem_singleton.mp hp]
    exact LamX.TabS.nil h2
end DL

set_option Elab.async false
set_option linter.all false
set_option maxRecDepth 100000
set_option maxHeartbeats 4000000
/-! The data layer: comprehensions with two fors. -/
namespace DL
open PySem PySem.Spec PyProof.Rows L2
section
variable {C : Cf} {K : PySem.W.Frag} {H0 H : Hp} {A m : List Addr} {M : Mem} {ρ : Env} {σ : L2.St} {P : List Addr}
theorem FR.setS (F : FR C H0 A m M H ρ σ P) {x : Ev} {v : V} {i : Nat} (hx : SlR C.K H0 A m H x v []) (hi : i < ρ.length) : ∃ P', FR C H0 A m M H (ρ.set i (some x)) (σ.set i (some v)) P' ∧ ∀ a ∈ P', a ∈ P := by
  obtain ⟨L, R, q, s⟩ := ER.set hx i F.er hi
  exact ⟨L ++ R, ⟨F.wr, F.tb, by simpa using q, s.nodup F.nd, fun a ha => F.own a (s.subset ha), F.ma, F.aok, F.base⟩, fun a ha => s.subset ha⟩
theorem FR.setAllS : ∀ {is : List Nat} {l : List D} {vs : List V} {ρ : Env} {σ : L2.St} {P : List Addr}, FR C H0 A m M H ρ σ P → Rps C.K A m H l vs → (∀ i ∈ is, i < ρ.length) → ∃ P', FR C H0 A m M H (setAllE ρ is l) (DL.setAll σ is vs) P' ∧ ∀ a ∈ P', a ∈ P
  | [], _, _, ρ, σ, P, F, _, _ => ⟨P, F, fun _ h => h⟩
  | i :: is, [], vs, ρ, σ, P, F, r, _ => by cases (show vs = [] from r); exact ⟨P, F, fun _ h => h⟩
  | i :: is, d :: l, _, ρ, σ, P, F, ⟨v, r, e, h1, h2⟩, hi => by
    subst e
    obtain ⟨P1, F1, s1⟩ := F.setS (x := .d d) (v := v) (i := i) ⟨rfl, h1⟩ (hi i List.mem_cons_self)
    obtain ⟨P2, F2, s2⟩ := FR.setAllS (is := is) F1 h2 (fun j hj => by rw [List.length_set]; exact hi j (List.mem_cons_of_mem _ hj))
    exact ⟨P2, F2, fun a ha => s1 a (s2 a ha)⟩
theorem FR.wipeS (F : FR C H0 A m M H ρ σ P) : ∀ vs : List Nat, ∃ P', FR C H0 A m M H (wipeE ρ vs) (L2.wipe σ vs) P' ∧ ∀ a ∈ P', a ∈ P
  | [] => ⟨P, F, fun _ h => h⟩
  | v :: vs => by
    obtain ⟨P1, F1, s1⟩ := FR.wipeS F vs
    obtain ⟨P', q, s⟩ := ER.clear v F1.er
    exact ⟨P', ⟨F1.wr, F1.tb, q, s.nodup F1.nd, fun a ha => F1.own a (s.subset ha), F1.ma, F1.aok, F1.base⟩, fun a ha => s1 a (s.subset ha)⟩
/-- a target within a comprehension's block; no slot gets addresses of its own -/
theorem tg_blkS {ρ' : Env} {g : Tgt} {d : D} {v : V} {vs : List Nat} {Q : L2.St → Hp → Prop} (F : FR C H0 A m M H ρ σ P) (hv : ∀ i ∈ g.slots, i ∈ vs) (r : Rp C.K A m H d v) (h : tgE g (wipeE ρ vs) d = some ρ')
    (q : ∀ σ' P', FR C H0 A m M H ρ' σ' P' → (∀ a ∈ P', a ∈ P) → L2.wipe σ' vs = L2.wipe σ vs → Q σ' H) : tgG C.K g v (L2.wipe σ vs) H Q := by
  obtain ⟨P1, F1, s1⟩ := F.wipeS vs
  have ww : L2.wipe (L2.wipe σ vs) vs = L2.wipe σ vs := wipe_wipe vs vs σ fun _ z => z
  cases g with
  | one i =>
    have h' : (if i < (wipeE ρ vs).length then some ((wipeE ρ vs).set i (some (.d d))) else none) = some ρ' := h
    split at h'
    · rename_i hi
      cases h'
      obtain ⟨P', F', s'⟩ := F1.setS (x := .d d) (v := v) ⟨rfl, r⟩ hi
      exact q _ P' F' (fun a ha => s1 a (s' a ha)) (by rw [wipe_set (hv i List.mem_cons_self), ww])
    · cases h'
  | many is =>
    cases d with
    | tup l =>
      have h' : (if l.length = is.length ∧ ∀ i ∈ is, i < (wipeE ρ vs).length then some (setAllE (wipeE ρ vs) is l) else none) = some ρ' := h
      split at h'
      · rename_i hc
        cases h'
        obtain ⟨a, ws, e, hs, r⟩ := r
        obtain ⟨P', F', s'⟩ := FR.setAllS (is := is) F1 r hc.2
        exact ⟨a, ws, e, SqT.of hs, by rw [Rps.len r]; exact hc.1, gsN_run (by rw [Rps.len r]; exact hc.1) (q _ P' F' (fun a ha => s1 a (s' a ha)) (by rw [wipe_setAll (is := is) hv, ww]))⟩
      · cases h'
    | _ => cases h
end
theorem bnd_assoc {α β γ : Type} (r : R α) (k : α → Mem → R β) (k2 : β → Mem → R γ) : bnd (bnd r k) k2 = bnd r (fun a M => bnd (k a M) k2) := by
  cases r <;> rfl
def lc2L (g : Tgt) (vs : List Nat) (t : Sm Bool) (it1 : Sm (List D)) (g1 : Tgt) (vs1 : List Nat) (t1 : Sm Bool) (f : Sm Ev) (ρ : Env) : List D → List D → Mem → R (List D)
  | acc, [], M => .ok acc M
  | acc, d :: r, M => match tgE g (wipeE ρ vs) d with
    | some ρ1 => bnd (noX (t ρ1 M)) fun k M1 => if k = true then bnd (noX (it1 ρ1 M1)) fun items1 M2 => if acc.length + items1.length ≤ most then bnd (lcL g1 vs1 t1 f ρ1 acc items1 M2) fun acc' M3 => lc2L g vs t it1 g1 vs1 t1 f ρ acc' r M3 else .stuck
      else lc2L g vs t it1 g1 vs1 t1 f ρ acc r M1
    | none => .stuck
def fLc2 (it : Sm (List D)) (g : Tgt) (vs : List Nat) (t : Sm Bool) (it1 : Sm (List D)) (g1 : Tgt) (vs1 : List Nat) (t1 : Sm Bool) (f : Sm Ev) : Sm (List D) := fun ρ M => bnd (it ρ M) fun items M1 => if items.length ≤ most then lc2L g vs t it1 g1 vs1 t1 f ρ [] items M1 else .stuck
theorem NoE.bnd2 {α β : Type} {r : R α} {k : α → Mem → R β} (hr : NoE r) (h : ∀ a M, NoE (k a M)) : NoE (DL.bnd r k) := by
  cases r with
  | ok a M => exact h a M
  | exc c g M => exact hr.elim
  | stuck => trivial
theorem lc2L_noX {g : Tgt} {vs : List Nat} {t : Sm Bool} {it1 : Sm (List D)} {g1 : Tgt} {vs1 : List Nat} {t1 : Sm Bool} {f : Sm Ev} {ρ : Env} : ∀ (its acc : List D) (M : Mem), NoE (lc2L g vs t it1 g1 vs1 t1 f ρ acc its M)
  | [], acc, M => trivial
  | d :: r, acc, M => by
    unfold lc2L
    cases tgE g (wipeE ρ vs) d with
    | none => trivial
    | some ρ1 =>
      refine NoE.bnd fun b M1 => ?_
      cases b with
      | false => exact lc2L_noX r acc M1
      | true =>
        refine NoE.bnd fun items1 M2 => ?_
        by_cases hc : acc.length + items1.length ≤ most
        · rw [if_pos hc]
          exact NoE.bnd2 (lcL_noX items1 acc M2) fun acc' M3 => lc2L_noX r acc' M3
        · rw [if_neg hc]; trivial
section
variable {X : Cx} {T : List (Addr × Str)} {W : WX} {f : Sm Ev} {pos : Pos}
theorem lc2_run {it it1 : Sm (List D)} {tgt tgt1 : Tgt} {vs vs1 : List Nat} {t t1 : Sm Bool} (hv : ∀ i ∈ tgt.slots, i ∈ vs) (hv1 : ∀ i ∈ tgt1.slots, i ∈ vs1) {σ : L2.St} {H : Hp} {Q : VK} (q : tF (cf X T W) (fLc2 it tgt vs t it1 tgt1 vs1 t1 f) σ H Q) :
    tLc2 (tI (cf X T W) true it) (tgG X.K tgt) (tT (cf X T W0) t) (tI (cf X T W0) false it1) (tgG X.K tgt1) (tT (cf X T W0) t1) (tE (cf X T W0) f) vs vs1 σ H Q := by
  obtain ⟨H0, A, m, M, ρ, P, F, q⟩ := q
  refine ⟨H0, A, m, M, ρ, P, F, ?_⟩
  unfold fLc2 at q
  cases e : it ρ M with
  | stuck => rw [e] at q; exact q.elim
  | exc c g M1 => rw [e] at q; exact q
  | ok items M1 =>
    rw [e, bnd_ok] at q
    intro J H1 s w tb Wl Da nD
    have F1 := F.step s w tb
    have hDm : Da ∉ m := fun z => by obtain ⟨o, e, _⟩ := F1.wr.aok Da z; rw [nD] at e; cases e
    have nH : ¬ Lv H Da := fun z => by obtain ⟨o, e, _⟩ := s.lv z hDm; rw [nD] at e; cases e
    have hDP : Da ∉ P := fun z => (not_in_A F1.aok (not_lv_of nD)) (F1.own Da z).1
    have hD0 : ¬ Lv H0 Da := F1.h0 nD
    by_cases hc : items.length ≤ most
    · rw [if_pos hc] at q
      obtain ⟨Z, hZ⟩ : ∃ Z : List D → Mem → Prop, Z = fun l M' => ∀ H' p ws, Stp m H H' → WR X.K m M' H' → LamX.Tabs T H' → ¬ Lv H p → H' p = some (.lst ws) → Rps X.K (p :: A) m H' l ws → Q (.ref p) H' := ⟨_, rfl⟩
      have q' : Gd Z (lc2L tgt vs t it1 tgt1 vs1 t1 f ρ [] items M1) := by
        rw [hZ]
        cases e2 : lc2L tgt vs t it1 tgt1 vs1 t1 f ρ [] items M1 with
        | stuck => rw [e2] at q; exact q
        | exc c g M2 => have z := lc2L_noX (g := tgt) (vs := vs) (t := t) (it1 := it1) (g1 := tgt1) (vs1 := vs1) (t1 := t1) (f := f) (ρ := ρ) items [] M1; rw [e2] at z; exact z.elim
        | ok l M2 => rw [e2] at q; exact q
      have G0 : FR (cf X T W0) H0 (Da :: A) m M1 (upd H1 Da (.lst [])) ρ σ P := (F1.more nD (o := .lst []) trivial).wish rfl rfl
      refine ⟨fun i k H2 => k + i = items.length ∧ Stp m H1 H2 ∧ ∃ M2 acc accV, FR (cf X T W0) H0 (Da :: A) m M2 H2 ρ σ P ∧ H2 Da = some (.lst accV) ∧ Rps X.K (Da :: A) m H2 acc accV ∧ acc.length ≤ most ∧ Gd Z (lc2L tgt vs t it1 tgt1 vs1 t1 f ρ acc (items.drop i) M2),
        ⟨items.length, by simp, Stp.upd nD, M1, [], [], G0, upd_same, rfl, Nat.zero_le _, by simpa using q'⟩, fun i k H2 h => ?_⟩
      obtain ⟨hk, st, M2, acc, accV, F2, hD, rD, la, q2⟩ := h
      have hr : RchC A m H1 (Da :: A) H2 := ⟨fun a ha => (List.mem_cons.mp ha).elim (fun z => .inr (by rw [z]; exact not_lv_of nD)) .inl, fun a ha => List.mem_cons_of_mem _ ha, st⟩
      cases k with
      | zero =>
        have hi : i = items.length := by omega
        subst hi
        rw [List.drop_length] at q2
        have q2' : Z acc M2 := q2
        rw [hZ] at q2'
        exact .inl ⟨Wl.stop _ H2 hr, q2' H2 Da accV (s.trans st) F2.wr F2.tb nH hD rD⟩
      | succ k =>
        have hi : i < items.length := by omega
        have ed : items.drop i = items[i] :: items.drop (i + 1) := List.drop_eq_getElem_cons hi
        rw [ed] at q2
        obtain ⟨hgo, hy⟩ := Wl.go _ H2 hr i items[i] (List.getElem?_eq_getElem hi)
        refine .inr ⟨hgo, fun H' => Stp m H1 H' ∧ ∃ M2 acc accV, FR (cf X T W0) H0 (Da :: A) m M2 H' ρ σ P ∧ H' Da = some (.lst accV) ∧ Rps X.K (Da :: A) m H' acc accV ∧ acc.length ≤ most ∧ Gd Z (lc2L tgt vs t it1 tgt1 vs1 t1 f ρ acc (items.drop (i + 1)) M2),
          fun H' h => ⟨k, Nat.lt_succ_self k, by omega, h⟩, fun v H3 hv3 => ?_⟩
        obtain ⟨h3, r3⟩ := hy v H3 hv3
        have F3 : FR (cf X T W0) H0 (Da :: A) m M2 H3 ρ σ P ∧ Stp m H2 H3 := by
          rcases h3 with rfl | ⟨p, o, hp, rfl⟩
          · exact ⟨F2, Stp.refl _ _⟩
          · exact ⟨F2.grow hp, Stp.upd hp⟩
        unfold lc2L at q2
        split at q2
        · rename_i ρ1 h1
          refine tg_blkS F3.1 hv r3 h1 fun σ' P' F4 sP hw => ⟨hw, ?_⟩
          have hDP' : Da ∉ P' := fun z => hDP (sP Da z)
          refine subB F4 q2 fun b M5 H5 b' F5 s5 r5 q5 => ?_
          cases (show b = b' from r5)
          have back : ∀ {M6 : Mem} {H6 : Hp}, WR X.K m M6 H6 → LamX.Tabs T H6 → Stp m H3 H6 → FR (cf X T W0) H0 (Da :: A) m M6 H6 ρ σ P ∧ Stp m H1 H6 ∧ H6 Da = some (.lst accV) ∧ Rps X.K (Da :: A) m H6 acc accV := by
            intro M6 H6 w6 t6 s6
            have s26 : Stp m H2 H6 := F3.2.trans s6
            exact ⟨F2.step s26 w6 t6, st.trans s26, s26 Da _ hD hDm lst_tbl, Rps.step F2.wr.aok F2.ma s26 _ _ rD⟩
          cases b with
          | false =>
            rw [if_neg (by decide)] at q5
            obtain ⟨b1, b2, b3, b4⟩ := back F5.wr F5.tb s5
            rw [if_neg (by decide)]
            exact ⟨b2, M5, acc, accV, b1, b3, b4, la, q5⟩
          | true =>
            rw [if_pos rfl] at q5
            rw [if_pos rfl]
            refine ⟨H0, Da :: A, m, M5, ρ1, P', F5, ?_⟩
            cases e5 : it1 ρ1 M5 with
            | stuck => rw [e5] at q5; exact q5.elim
            | exc c g M6 => rw [e5] at q5; exact q5.elim
            | ok items1 M6 =>
              rw [e5] at q5
              have q6 : Gd Z (if acc.length + items1.length ≤ most then bnd (lcL tgt1 vs1 t1 f ρ1 acc items1 M6) fun acc' M3 => lc2L tgt vs t it1 tgt1 vs1 t1 f ρ acc' (items.drop (i + 1)) M3 else .stuck) := q5
              intro J1 H4 s6 w6 tb6 Wl1
              have F6 : FR (cf X T W0) H0 (Da :: A) m M6 H4 ρ1 σ' P' := F5.step s6 w6 tb6
              obtain ⟨b1, b2, b3, b4⟩ := back w6 tb6 (s5.trans s6)
              by_cases hc1 : acc.length + items1.length ≤ most
              · rw [if_pos hc1] at q6
                refine ⟨fun j k' H' => k' + j = items1.length ∧ Ext H0 (Da :: A) H4 (Da :: A) H' ∧ Stp m H1 H' ∧ ∃ M7 acc1 acc1V, FR (cf X T W0) H0 (Da :: A) m M7 H' ρ1 σ' P' ∧ FR (cf X T W0) H0 (Da :: A) m M7 H' ρ σ P ∧ H' Da = some (.lst acc1V) ∧ Rps X.K (Da :: A) m H' acc1 acc1V ∧ acc1.length ≤ acc.length + j ∧
                  Gd Z (bnd (lcL tgt1 vs1 t1 f ρ1 acc1 (items1.drop j) M7) fun acc' M3 => lc2L tgt vs t it1 tgt1 vs1 t1 f ρ acc' (items.drop (i + 1)) M3),
                  ⟨items1.length, by simp, Ext.refl, b2, M6, acc, accV, F6, b1, b3, b4, Nat.le_refl _, by simpa using q6⟩, fun j k' H7 h7 => ?_⟩
                obtain ⟨hk7, x7, st7, M7, acc1, acc1V, F7, G7, hD7, rD7, la7, q7⟩ := h7
                have hr1 : RchS (Da :: A) m H0 H4 (Da :: A) H7 := ⟨x7, G7.base⟩
                cases k' with
                | zero =>
                  have hj : j = items1.length := by omega
                  subst hj
                  rw [List.drop_length] at q7
                  have q7' : Gd Z (lc2L tgt vs t it1 tgt1 vs1 t1 f ρ acc1 (items.drop (i + 1)) M7) := q7
                  exact .inl ⟨Wl1.stop _ H7 hr1, st7, M7, acc1, acc1V, G7, hD7, rD7, by omega, q7'⟩
                | succ k' =>
                  have hj : j < items1.length := by omega
                  have ed1 : items1.drop j = items1[j] :: items1.drop (j + 1) := List.drop_eq_getElem_cons hj
                  rw [ed1] at q7
                  obtain ⟨hgo1, hy1⟩ := Wl1.go _ H7 hr1 j items1[j] (List.getElem?_eq_getElem hj)
                  refine .inr ⟨hgo1, fun H' => Ext H0 (Da :: A) H4 (Da :: A) H' ∧ Stp m H1 H' ∧ ∃ M7 acc1 acc1V, FR (cf X T W0) H0 (Da :: A) m M7 H' ρ1 σ' P' ∧ FR (cf X T W0) H0 (Da :: A) m M7 H' ρ σ P ∧ H' Da = some (.lst acc1V) ∧ Rps X.K (Da :: A) m H' acc1 acc1V ∧ acc1.length ≤ acc.length + (j + 1) ∧
                    Gd Z (bnd (lcL tgt1 vs1 t1 f ρ1 acc1 (items1.drop (j + 1)) M7) fun acc' M3 => lc2L tgt vs t it1 tgt1 vs1 t1 f ρ acc' (items.drop (i + 1)) M3),
                    fun H' h => ⟨k', Nat.lt_succ_self k', by omega, h⟩, fun v1 H8 hv8 => ?_⟩
                  obtain ⟨h8, r8⟩ := hy1 v1 H8 hv8
                  have F8 : FR (cf X T W0) H0 (Da :: A) m M7 H8 ρ1 σ' P' ∧ Stp m H7 H8 := by
                    rcases h8 with rfl | ⟨p, o, hp, rfl⟩
                    · exact ⟨F7, Stp.refl _ _⟩
                    · exact ⟨F7.grow hp, Stp.upd hp⟩
                  have back1 : ∀ {M6 : Mem} {H6 : Hp}, WR X.K m M6 H6 → LamX.Tabs T H6 → Stp m H8 H6 → FR (cf X T W0) H0 (Da :: A) m M6 H6 ρ1 σ' P' ∧ FR (cf X T W0) H0 (Da :: A) m M6 H6 ρ σ P ∧ Ext H0 (Da :: A) H4 (Da :: A) H6 ∧ Stp m H1 H6 ∧ H6 Da = some (.lst acc1V) ∧ Rps X.K (Da :: A) m H6 acc1 acc1V := by
                    intro M6 H6 w6 t6 s6
                    have s76 : Stp m H7 H6 := F8.2.trans s6
                    exact ⟨F7.step s76 w6 t6, G7.step s76 w6 t6, x7.trans (Ext.step s76 G7.ma), st7.trans s76, s76 Da _ hD7 hDm lst_tbl, Rps.step G7.wr.aok G7.ma s76 _ _ rD7⟩
                  cases h9 : tgE tgt1 (wipeE ρ1 vs1) items1[j] with
                  | none => simp only [lcL, h9] at q7; exact q7.elim
                  | some ρ2 =>
                    simp only [lcL, h9, bnd_assoc] at q7
                    refine tg_blkS F8.1 hv1 r8 h9 fun σ3 P3 F9 sP3 hw3 => ⟨hw3, ?_⟩
                    refine subB F9 q7 fun b M10 H10 b' F10 s10 r10 q10 => ?_
                    cases (show b = b' from r10)
                    cases b with
                    | false =>
                      rw [if_neg (by decide)] at q10
                      obtain ⟨c1, c2, c3, c4, c5, c6⟩ := back1 F10.wr F10.tb s10
                      rw [if_neg (by decide)]
                      exact ⟨c3, c4, M10, acc1, acc1V, c1, c2, c5, c6, by omega, q10⟩
                    | true =>
                      rw [if_pos rfl, bnd_assoc] at q10
                      rw [if_pos rfl]
                      refine subB F10 q10 fun y M11 H11 u F11 s11 r11 q11 => ?_
                      obtain ⟨c1, c2, c3, c4, c5, c6⟩ := back1 F11.wr F11.tb (s10.trans s11)
                      cases y with
                      | d y =>
                        have G11 := c1.write (a := Da) (o' := .lst (acc1V ++ [u])) List.mem_cons_self hDm hDP' hD0 c5 trivial trivial
                        have K11 := c2.write (a := Da) (o' := .lst (acc1V ++ [u])) List.mem_cons_self hDm hDP hD0 c5 trivial trivial
                        have up : Stp [Da] H11 (upd H11 Da (.lst (acc1V ++ [u]))) := stp_upd
                        have r12 : Rps X.K (Da :: A) m (upd H11 Da (.lst (acc1V ++ [u]))) (acc1 ++ [y]) (acc1V ++ [u]) :=
                          Rps.step (B := [Da]) (aok_one c5 trivial) (fun x hx => by rw [List.mem_singleton.mp hx]; exact List.mem_cons_self) up _ _ (Rps.app c6 (Rps.one r11))
                        refine ⟨acc1V, c5, ?_, c3.trans (Ext.write List.mem_cons_self), fun a o e n tt => ?_, M11, acc1 ++ [y], acc1V ++ [u], G11, K11, upd_same, r12, by simp; omega, q11⟩
                        · rw [Rps.len c6]; have := most_line hc1; omega
                        · by_cases ea : a = Da
                          · subst ea; rw [nD] at e; cases e
                          · rw [upd_ne ea]; exact c4 a o e n tt
                      | _ => exact q11.elim
              · rw [if_neg hc1] at q6; exact q6.elim
        · exact q2.elim
    · rw [if_neg hc] at q; exact q.elim
variable {elt tg iter tg1 iter1 : Expr} {ifs ifs1 : List Expr} {scope : Scope} {own : List (Str × Nat)} {it it1 : Sm (List D)} {tgt tgt1 : Tgt} {vs1 : List Nat} {t t1 : Sm Bool}
theorem df_lc2 (hc : X.calm = true) (hN : X.N.Nodup) (hi : PI X tg iter (tI (cf X T W) true it)) (ok : BlkOk X.N X.env.scope scope own)
    (hg : ∀ (s : Shared) (H : Hp) (C : Addr) (cl : List (Str × Addr)) (fp : List Addr), PG (X.blk s H scope (compEnvC scope cl C X.env) fp) tg (tgG X.K tgt)) (ht : ∀ (s : Shared) (H : Hp) (C : Addr) (cl : List (Str × Addr)) (fp : List Addr), PTs (X.blk s H scope (compEnvC scope cl C X.env) fp) ifs (tT (cf X T W0) t))
    (hi1 : ∀ (s : Shared) (H : Hp) (C : Addr) (cl : List (Str × Addr)) (fp : List Addr), PI (X.blk s H scope (compEnvC scope cl C X.env) fp) tg1 iter1 (tI (cf X T W0) false it1))
    (hg1 : ∀ (s : Shared) (H : Hp) (C : Addr) (cl : List (Str × Addr)) (fp : List Addr), PG (X.blk s H scope (compEnvC scope cl C X.env) fp) tg1 (tgG X.K tgt1)) (ht1 : ∀ (s : Shared) (H : Hp) (C : Addr) (cl : List (Str × Addr)) (fp : List Addr), PTs (X.blk s H scope (compEnvC scope cl C X.env) fp) ifs1 (tT (cf X T W0) t1))
    (he : ∀ (s : Shared) (H : Hp) (C : Addr) (cl : List (Str × Addr)) (fp : List Addr), PE (X.blk s H scope (compEnvC scope cl C X.env) fp) elt (tE (cf X T W0) f)) (hv : ∀ i ∈ tgt.slots, i ∈ own.map (·.2) := by decide) (hv1 : ∀ i ∈ tgt1.slots, i ∈ vs1 := by decide) (hvv : ∀ i ∈ vs1, i ∈ own.map (·.2) := by decide) (hs : ∀ x, foldedSetIterable iter X.env x = pure x := by intro _; rfl) (hs1 : ∀ env x, foldedSetIterable iter1 env x = pure x := by intro _ _; rfl) :
    PE X (.ListComp elt [⟨tg, iter, ifs, 0⟩, ⟨tg1, iter1, ifs1, 0⟩] scope pos) (tF (cf X T W) (fLc2 it tgt (own.map (·.2)) t it1 tgt1 vs1 t1 f)) :=
  ⟨fun pins s σ H Q I q => (pe_lc2 hc hN hi ok hvv hg ht hi1 hg1 ht1 he hs hs1).run pins s σ H Q I (lc2_run hv hv1 q)⟩
theorem ds_setLc2 {i : Nat} {y : Str} {py spos : Pos} {n : Sm Ev} (hc : X.calm = true) (hN : X.N.Nodup) (hi : PI X tg iter (tI (cf X T W) true it)) (ok : BlkOk X.N X.env.scope scope own)
    (hg : ∀ (s : Shared) (H : Hp) (C : Addr) (cl : List (Str × Addr)) (fp : List Addr), PG (X.blk s H scope (compEnvC scope cl C X.env) fp) tg (tgG X.K tgt)) (ht : ∀ (s : Shared) (H : Hp) (C : Addr) (cl : List (Str × Addr)) (fp : List Addr), PTs (X.blk s H scope (compEnvC scope cl C X.env) fp) ifs (tT (cf X T W0) t))
    (hi1 : ∀ (s : Shared) (H : Hp) (C : Addr) (cl : List (Str × Addr)) (fp : List Addr), PI (X.blk s H scope (compEnvC scope cl C X.env) fp) tg1 iter1 (tI (cf X T W0) false it1))
    (hg1 : ∀ (s : Shared) (H : Hp) (C : Addr) (cl : List (Str × Addr)) (fp : List Addr), PG (X.blk s H scope (compEnvC scope cl C X.env) fp) tg1 (tgG X.K tgt1)) (ht1 : ∀ (s : Shared) (H : Hp) (C : Addr) (cl : List (Str × Addr)) (fp : List Addr), PTs (X.blk s H scope (compEnvC scope cl C X.env) fp) ifs1 (tT (cf X T W0) t1))
    (he : ∀ (s : Shared) (H : Hp) (C : Addr) (cl : List (Str × Addr)) (fp : List Addr), PE (X.blk s H scope (compEnvC scope cl C X.env) fp) elt (tE (cf X T W0) f)) (hn : ∀ σ H Q, tN (cf X T W) n σ H Q → tF (cf X T W) (fLc2 it tgt (own.map (·.2)) t it1 tgt1 vs1 t1 f) σ H Q)
    (hsw : swapsWith (.ListComp elt [⟨tg, iter, ifs, 0⟩, ⟨tg1, iter1, ifs1, 0⟩] scope pos) (some (.Name y py)) spos.line X.env = pure true) (hy : X.N[i]? = some y := by rfl) (hyl : X.env.scope.names.lookup y = some .local := by rfl)
    (hv : ∀ i ∈ tgt.slots, i ∈ own.map (·.2) := by decide) (hv1 : ∀ i ∈ tgt1.slots, i ∈ vs1 := by decide) (hvv : ∀ i ∈ vs1, i ∈ own.map (·.2) := by decide) (hs : ∀ x, foldedSetIterable iter X.env x = pure x := by intro _; rfl) (hs1 : ∀ env x, foldedSetIterable iter1 env x = pure x := by intro _ _; rfl) :
    PS X (.Assign [.Name y py] (.ListComp elt [⟨tg, iter, ifs, 0⟩, ⟨tg1, iter1, ifs1, 0⟩] scope pos) spos) (tS (cf X T W) (sSetN i n)) :=
  ⟨fun pins s σ H Dn I q => (ps_setLc2 hc hN hy hyl hsw hi ok hvv hg ht hi1 hg1 ht1 he hs hs1).run pins s σ H Dn I (lc2_run hv hv1 (hn _ _ _ (setN_run q)))⟩
end
end DL

set_option Elab.async false
set_option linter.all false
set_option maxRecDepth 100000
set_option maxHeartbeats 4000000
/-! The data layer: list(range(..)), tuple(range(..)); v.append(w.pop(e)). -/
namespace DL
open PySem PySem.Spec PyProof.Rows L2
section
variable {X : Cx} {T : List (Addr × Str)} {W : WX} {a b e : Expr} {pos p p2 pos2 : Pos} {f g : Sm Ev}
theorem rps_rg {K : PySem.W.Frag} {A m : List Addr} {H : Hp} (a b : Int) : Rps K A m H (rangeL a (b - a).toNat 1) (rgV a b) := by
  unfold rangeL rgV
  have : ∀ (l : List Nat), Rps K A m H (l.map fun (i : Nat) => D.int (a + (i : Int) * 1)) (l.map fun i => V.int (a + (i : Nat))) := by
    intro l
    induction l with
    | nil => exact rfl
    | cons i l ih => exact ⟨_, _, rfl, by show V.int _ = V.int _; rw [Int.mul_one], ih⟩
  exact this _
def rgD (t : Bool) (l : List D) : D := match t with
  | true => .tup l
  | false => .lst l
/-- list(range(n)) (t: tuple) -/
def rg1 (t : Bool) (x : Ev) (M : Mem) : R Ev := match x with
  | .d (.int n) => if -1000000 ≤ n ∧ n ≤ 1000000 then .ok (.d (rgD t (rangeL 0 n.toNat 1))) M else .stuck
  | _ => .stuck
def eRg1 (t : Bool) (f : Sm Ev) : Sm Ev := fun ρ M => bnd (f ρ M) (rg1 t)
theorem de_lstRg1 (hc : X.calm = true) (hg : Gl X "list") (hm : X.mg "list" = none) (hg2 : Gl X "range") (hm2 : X.mg "range" = none) (ha : PE X a (tE (cf X T W) f)) (na : starEach [a] X.env = (false, eval a X.env) :: starEach [] X.env := by rfl)
    (na2 : starEach [Expr.Call (.Name "range" p2) [a] [] pos2] X.env = (false, eval (.Call (.Name "range" p2) [a] [] pos2) X.env) :: starEach [] X.env := by rfl) : PE X (.Call (.Name "list" p) [.Call (.Name "range" p2) [a] [] pos2] [] pos) (tE (cf X T W) (eRg1 false f)) := by
  refine ⟨fun pins s σ H Q I q => (pe_listRg hc hg hm (prg_1 hg2 hm2 ha na) na2).run pins s σ H Q I ?_⟩
  obtain ⟨H0, A, m, M, ρ, P, F, q⟩ := q
  refine sub F q fun x M1 H1 v F1 _ r1 q1 => ?_
  unfold rg1 at q1
  split at q1
  · rename_i n
    split at q1
    · rename_i hc
      refine ⟨n, r1, ⟨by omega, by omega, by omega, by omega, by omega⟩, fun p hp => ?_⟩
      have q2 : PX (cf X T W) m σ (relE X.K H0 A m) H1 (.ok (Ev.d (.lst (rangeL 0 n.toNat 1))) M1) Q := q1
      exact q2.made F1 hp (newL F1 hp (by have := rps_rg (K := X.K) (A := A) (m := m) (H := H1) 0 n; rw [Int.sub_zero] at this; exact this))
    · exact q1.elim
  · exact q1.elim
def rg2 (t : Bool) (x y : Ev) (M : Mem) : R Ev := match x, y with
  | .d (.int i), .d (.int j) => if (-1000000 ≤ i ∧ i ≤ 1000000) ∧ -1000000 ≤ j ∧ j ≤ 1000000 then .ok (.d (rgD t (rangeL i (j - i).toNat 1))) M else .stuck
  | _, _ => .stuck
def eRg2 (t : Bool) (f g : Sm Ev) : Sm Ev := fun ρ M => bnd (f ρ M) fun x M1 => bnd (g ρ M1) fun y M2 => rg2 t x y M2
theorem de_tupRg1 (hc : X.calm = true) (hg : Gl X "tuple") (hm : X.mg "tuple" = none) (hg2 : Gl X "range") (hm2 : X.mg "range" = none) (ha : PE X a (tE (cf X T W) f)) (na : starEach [a] X.env = (false, eval a X.env) :: starEach [] X.env := by rfl)
    (na2 : starEach [Expr.Call (.Name "range" p2) [a] [] pos2] X.env = (false, eval (.Call (.Name "range" p2) [a] [] pos2) X.env) :: starEach [] X.env := by rfl) : PE X (.Call (.Name "tuple" p) [.Call (.Name "range" p2) [a] [] pos2] [] pos) (tE (cf X T W) (eRg1 true f)) := by
  refine ⟨fun pins s σ H Q I q => (pe_tupRg hc hg hm (prg_1 hg2 hm2 ha na) na2).run pins s σ H Q I ?_⟩
  obtain ⟨H0, A, m, M, ρ, P, F, q⟩ := q
  refine sub F q fun x M1 H1 v F1 _ r1 q1 => ?_
  unfold rg1 at q1
  split at q1
  · rename_i n
    split at q1
    · rename_i hc
      refine ⟨n, r1, ⟨by omega, by omega, by omega, by omega, by omega⟩, fun p hp => ?_⟩
      have q2 : PX (cf X T W) m σ (relE X.K H0 A m) H1 (.ok (Ev.d (.tup (rangeL 0 n.toNat 1))) M1) Q := q1
      exact q2.made F1 hp (newT (C := cf X T W) hp (by have := rps_rg (K := X.K) (A := A) (m := m) (H := H1) 0 n; rw [Int.sub_zero] at this; exact this))
    · exact q1.elim
  · exact q1.elim
theorem de_tupRg2 (hc : X.calm = true) (hg : Gl X "tuple") (hm : X.mg "tuple" = none) (hg2 : Gl X "range") (hm2 : X.mg "range" = none) (ha : PE X a (tE (cf X T W) f)) (hb : PE X b (tE (cf X T W) g)) (na : starEach [a, b] X.env = (false, eval a X.env) :: starEach [b] X.env := by rfl) (nb : starEach [b] X.env = (false, eval b X.env) :: starEach [] X.env := by rfl) (hp : (backTo pos2 (starEach [b] X.env)).any (·.1) = false := by rfl)
    (na2 : starEach [Expr.Call (.Name "range" p2) [a, b] [] pos2] X.env = (false, eval (.Call (.Name "range" p2) [a, b] [] pos2) X.env) :: starEach [] X.env := by rfl) : PE X (.Call (.Name "tuple" p) [.Call (.Name "range" p2) [a, b] [] pos2] [] pos) (tE (cf X T W) (eRg2 true f g)) := by
  refine ⟨fun pins s σ H Q I q => (pe_tupRg hc hg hm (prg_2 hg2 hm2 ha hb na nb hp) na2).run pins s σ H Q I ?_⟩
  obtain ⟨H0, A, m, M, ρ, P, F, q⟩ := q
  refine sub F q fun x M1 H1 v F1 _ r1 q1 => ?_
  refine sub F1 q1 fun y M2 H2 w F2 s2 r2 q2 => ?_
  unfold rg2 at q2
  split at q2
  · rename_i i j
    split at q2
    · rename_i hc
      refine ⟨i, j, r1, r2, ⟨by omega, by omega, by omega, by omega, by omega⟩, fun p hp => ?_⟩
      have q3 : PX (cf X T W) m σ (relE X.K H0 A m) H2 (.ok (Ev.d (.tup (rangeL i (j - i).toNat 1))) M2) Q := q2
      exact q3.made F2 hp (newT (C := cf X T W) hp (rps_rg (K := X.K) (A := A) (m := m) (H := H2) i j))
    · exact q2.elim
  · exact q2.elim
/-- rows as a value for a slot (a name that an inner block knows) -/
theorem dn_rows {elt tg iter : Expr} {scope : Scope} {own : List (Str × Nat)} {it : Sm (List D)} {tgt : Tgt} {h : Sm (List D)} (hc : X.calm = true) (hN : X.N.Nodup) (hi : PI X tg iter (tI (cf X T W) true it)) (ok : BlkOk X.N X.env.scope scope own)
    (hg : ∀ (s : Shared) (H : Hp) (C : Addr) (cl : List (Str × Addr)) (fp : List Addr), PG (X.blk s H scope (compEnvC scope cl C X.env) fp) tg (tgG X.K tgt)) (he : ∀ (s : Shared) (H : Hp) (C : Addr) (cl : List (Str × Addr)) (fp : List Addr), PE (X.blk s H scope (compEnvC scope cl C X.env) fp) elt (tF (cf X T W0) h))
    (hv : ∀ i ∈ tgt.slots, i ∈ own.map (·.2) := by decide) (hs : ∀ x, foldedSetIterable iter X.env x = pure x := by intro _; rfl) :
    PE X (.ListComp elt [⟨tg, iter, [], 0⟩] scope pos) (tN (cf X T W) (nRows it tgt (own.map (·.2)) h)) :=
  ⟨fun pins s σ H Q I q => (pe_lc hc hN hi ok hg (fun s H C cl fp => dts_nil (X := X.blk s H scope (compEnvC scope cl C X.env) fp)) he hs).run pins s σ H Q I (lcR_run hv q)⟩
/-! ### v.append(w.pop(e)) -/
theorem Rps.eraseIdx {K : PySem.W.Frag} {A m : List Addr} {H : Hp} : ∀ {l : List D} {vs : List V} (k : Nat), Rps K A m H l vs → Rps K A m H (l.eraseIdx k) (vs.eraseIdx k)
  | [], vs, k, h => by cases (show vs = [] from h); exact rfl
  | d :: l, _, 0, ⟨v, r, e, h1, h2⟩ => by subst e; exact h2
  | d :: l, _, k + 1, ⟨v, r, e, h1, h2⟩ => by subst e; exact ⟨v, r.eraseIdx k, rfl, h1, Rps.eraseIdx k h2⟩
def appPop (ρ : Env) (M : Mem) (i j : Nat) (x : Ev) : SR := match x, ρ[i]?, ρ[j]? with
  | .d (.int k), some (some (.ls .own l)), some (some (.ls .own r)) => match r[k.toNat]? with
    | some d => if i ≠ j ∧ 0 ≤ k ∧ r.length ≤ most ∧ l.length < most then .nx ((ρ.set j (some (.ls .own (r.eraseIdx k.toNat)))).set i (some (.ls .own (l ++ [d])))) M else .stuck
    | none => .stuck
  | _, _, _ => .stuck
def sAppPop (i j : Nat) (fe : Sm Ev) : Ss := fun ρ M => if ownB ρ i = true ∧ ownB ρ j = true then sE (fe ρ M) ρ fun x M1 => appPop ρ M1 i j x else .stuck
theorem ownB_get {ρ : Env} {j : Nat} (hw : ownB ρ j = true) : ∃ l, ρ[j]? = some (some (.ls .own l)) := by
  unfold ownB at hw
  split at hw
  · rename_i l h; exact ⟨l, h⟩
  · cases hw
variable {fe : Sm Ev}
theorem ds_appPop {i j : Nat} {x y : Str} {apos cpos apos2 cpos2 : Pos} (he : PE X e (tE (cf X T W) fe)) (hN : X.N[i]? = some x := by rfl) (hv : Vis X.env.scope x := by first | exact Or.inl rfl | exact Or.inr (Or.inl rfl) | exact Or.inr (Or.inr rfl)) (hd : (x == ("__debug__" : Str)) = false := by decide)
    (hcd : (x == ("__classdict__" : Str)) = false := by decide) (hN2 : X.N[j]? = some y := by rfl) (hv2 : Vis X.env.scope y := by first | exact Or.inl rfl | exact Or.inr (Or.inl rfl) | exact Or.inr (Or.inr rfl)) (hd2 : (y == ("__debug__" : Str)) = false := by decide)
    (hcd2 : (y == ("__classdict__" : Str)) = false := by decide) (hbase : attributeBase (.Name x p) "append" X.env (eval (.Name x p) X.env) = eval (.Name x p) X.env := by rfl) (hbase2 : attributeBase (.Name y p2) "pop" X.env (eval (.Name y p2) X.env) = eval (.Name y p2) X.env := by rfl)
    (hfew : ((backTo cpos (starEach [Expr.Call (.Attribute (.Name y p2) "pop" apos2) [e] [] cpos2] X.env)).all (fun x => !x.1) && (backToKw cpos (keywordEach [] X.env)).all (fun x => x.1.isSome)
      && decide (([Expr.Call (.Attribute (.Name y p2) "pop" apos2) [e] [] cpos2] : List Expr).length + ([] : List Keyword).length + (if ([] : List Keyword).isEmpty then 0 else 1) < 30)) = true := by rfl)
    (hfew2 : ((backTo cpos2 (starEach [e] X.env)).all (fun x => !x.1) && (backToKw cpos2 (keywordEach [] X.env)).all (fun x => x.1.isSome)
      && decide (([e] : List Expr).length + ([] : List Keyword).length + (if ([] : List Keyword).isEmpty then 0 else 1) < 30)) = true := by rfl)
    (hline : (apos.endLine == cpos.line) = true := by rfl) (hline2 : (apos2.endLine == cpos2.line) = true := by rfl) (hs : starEach [Expr.Call (.Attribute (.Name y p2) "pop" apos2) [e] [] cpos2] X.env = (false, eval (.Call (.Attribute (.Name y p2) "pop" apos2) [e] [] cpos2) X.env) :: starEach [] X.env := by rfl)
    (hs2 : starEach [e] X.env = (false, eval e X.env) :: starEach [] X.env := by rfl) (hsw : swapsWith (.Call (.Attribute (.Name x p) "append" apos) [.Call (.Attribute (.Name y p2) "pop" apos2) [e] [] cpos2] [] cpos) none pos.line X.env = pure false := by rfl) :
    PS X (.Expr (.Call (.Attribute (.Name x p) "append" apos) [.Call (.Attribute (.Name y p2) "pop" apos2) [e] [] cpos2] [] cpos) pos) (tS (cf X T W) (sAppPop i j fe)) := by
  have hpop := pe_bm PySem.F.plainAttrs_list PySem.F.slot_list_pop PySem.F.type_list_pop mt_popAt (pe_var hN2 hv2 hd2 hcd2) (pa_cons he pa_nil hs2) hbase2 hfew2 hline2 hs2 rfl
  refine ⟨fun pins s σ H Dn I q => (ps_expr (pe_bm PySem.F.plainAttrs_list PySem.F.slot_list_append PySem.F.type_list_append mt_append (pe_var hN hv hd hcd) (pa_cons hpop pa_nil hs) hbase hfew hline hs rfl) hsw).run pins s σ H Dn I ?_⟩
  obtain ⟨H0, A, m, M, ρ, P, F, q⟩ := q
  have q : PZ (cf X T W) H0 A m H (if ownB ρ i = true ∧ ownB ρ j = true then sE (fe ρ M) ρ fun x M1 => appPop ρ M1 i j x else .stuck) Dn := q
  by_cases hw : ownB ρ i = true ∧ ownB ρ j = true
  · rw [if_pos hw] at q
    obtain ⟨l, hi⟩ := ownB_get hw.1
    obtain ⟨r, hj⟩ := ownB_get hw.2
    obtain ⟨o, vs0, ho, hp0, _⟩ := F.ownL hi
    obtain ⟨o2, vs2, ho2, hp2, _⟩ := F.ownL hj
    refine ⟨_, ho, .inl ⟨rfl, vs0, SqL.of hp0⟩, ?_⟩
    refine ⟨_, ho2, .inl ⟨rfl, vs2, SqL.of hp2⟩, ?_⟩
    refine subS F q fun z M1 H1 w F1 s1 r1 q1 => ?_
    unfold appPop at q1
    rw [hi, hj] at q1
    split at q1
    · rename_i k l' r' e1 e2
      cases e1; cases e2
      split at q1
      · rename_i d hd
        split at q1
        · rename_i hc
          obtain ⟨hij, h0, hr, hl⟩ := hc
          obtain ⟨p3, vs, e1, hp, hA, hm, rr, wt⟩ := F1.ownL hj
          rw [ho2] at e1; cases e1
          obtain ⟨u, hu, ru⟩ := Rps.get rr hd
          have hk : k.toNat < vs.length := (List.getElem?_eq_some_iff.mp hu).1
          have hk2 : k < (vs.length : Int) := by omega
          have hlen := Rps.len rr
          have hmst : most = 1000000 := rfl
          have F2 := wt (r.eraseIdx k.toNat) (vs.eraseIdx k.toNat) (Rps.self hp trivial hA (Rps.eraseIdx k.toNat rr))
          have hi2 : (ρ.set j (some (.ls .own (r.eraseIdx k.toNat))))[i]? = some (some (.ls .own l)) := by rw [List.getElem?_set_ne (fun z => hij z.symm)]; exact hi
          obtain ⟨p4, vs4, e4, hp4, hA4, hm4, rr4, wt4⟩ := F2.ownL hi2
          rw [ho] at e4; cases e4
          have ru2 : Rp X.K A m (upd H1 o2 (.lst (vs.eraseIdx k.toNat))) d u := Rp.self hp trivial hA ru
          have F3 := wt4 (l ++ [d]) (vs4 ++ [u]) (Rps.app (Rps.self hp4 trivial hA4 rr4) (Rps.one (Rp.self hp4 trivial hA4 ru2)))
          refine ⟨o2, vs, k, k.toNat, u, rfl, by rw [show w = V.int k from r1], hp, by omega, by omega, PySem.StrLaws.seqIndex_nonneg h0 hk2, hu, ?_⟩
          exact ⟨o, vs4, u, rfl, rfl, hp4, by have := most_line (Nat.le_refl most); rw [Rps.len rr4]; omega, q1 A _ σ P ((Ext.write hA).trans (Ext.write hA4)) F3⟩
        · exact q1.elim
      · exact q1.elim
    · exact q1.elim
  · rw [if_neg hw] at q; exact q.elim
end
end DL

set_option Elab.async false
set_option linter.all false
set_option maxRecDepth 100000
set_option maxHeartbeats 4000000
/-! The data layer: a tuple times a number above 1000. -/
namespace DL
open PySem PySem.Spec PyProof.Rows L2
/-- t * k with a product of at most a million -/
def rRepTW (K : PySem.W.Frag) : R2 := fun x y H Q => ∃ l k xs, x = .ref l ∧ y = .int k ∧ SqT K H l xs ∧ xs ≠ [] ∧ 2 ≤ k ∧ xs.length * k.toNat ≤ 1000000 ∧
  ∀ p, H p = none → Q (.ref p) (upd H p (.tup (List.replicate k.toNat xs).flatten))
theorem op_repTW {X : Cx} : OpR X (binaryOp .Mult) (rRepTW X.K) := by
  intro pins s σ H x y v u Q I rx ry h
  obtain ⟨l, k, xs, ex, ey, hT, hne, k2, hz, q⟩ := h
  subst ex; subst ey
  cases rx
  obtain ⟨t, rfl⟩ := ry
  obtain ⟨its, r, ⟨⟨cls, dd, data, sl⟩, ho, hc, n, hd⟩, hs⟩ := I.tuple hT
  simp only at hc hd
  subst hc; subst hd
  have len : xs.length = its.length := r.length
  have sz : its.toArray.size = xs.length := by rw [List.size_toArray, len]
  have pos : 0 < xs.length := List.length_pos_iff.mpr hne
  have emp : its.toArray.isEmpty = false := by
    cases its with
    | nil => rw [len] at pos; cases pos
    | cons a b => rfl
  have kk : ((k.toNat : Nat) : Int) = k := Int.toNat_of_nonneg (by omega)
  have big : ((its.toArray.size : Nat) : Int) * k ≤ 1000000 := by
    rw [sz, ← kk, ← Int.natCast_mul]; omega
  have km : k ≤ 1000000 := by
    have : 1 * k.toNat ≤ xs.length * k.toNat := Nat.mul_le_mul_right _ pos
    omega
  have fl : k.toNat * its.length ≤ 1000000 := by rw [← len, Nat.mul_comm]; exact hz
  have d0 : (decide (k < -(2 ^ 63)) || decide (k ≥ 2 ^ 63)) = false := Bool.or_eq_false_iff.mpr ⟨decide_eq_false (by omega), decide_eq_false (by omega)⟩
  have d1 : (its.toArray.isEmpty || k == 1) = false := Bool.or_eq_false_iff.mpr ⟨emp, beq_eq_false_iff_ne.mpr (by omega)⟩
  have d2 : (decide (k ≤ 0) || its.toArray.isEmpty) = false := Bool.or_eq_false_iff.mpr ⟨decide_eq_false (by omega), emp⟩
  have d4 : Builtin.Tuple.tupleTooMany (((its.toArray.size : Nat) : Int) * k) = false := decide_eq_false (by rw [sizeLine_eq]; omega)
  have d5 : (List.foldl (fun x1 x2 => x1 ++ x2) #[] (List.replicate k.toNat its.toArray)).size ≤ sizeLine := by
    rw [size_rep, List.size_toArray, PyProof.Rows.lm_len_rep_flat, sizeLine_eq]; omega
  have step := tuple_mulW l its.toArray n dd sl k t d0 d1 d2 (by omega) d4 d5
  have back := int_rmul_tuple k t l its.toArray n dd sl
  refine wpAny_binaryOp_repeat_ref (T := "tuple") (U := "int") (by decide) ⟨_, ho, rfl⟩ (fun z => typeIs_int z k t) noFill_tuple_mul F.fills_int_mul F.slot_int_rmul repeat_tuple F.slot_int_index.lookup ?_
  refine call_meets F.slot_int_rmul (typeIs_int s k t) F.entry_int_rmul (F.args_int_rmul_2 _ _) back ⟨ho, rfl, ⟨_, ho, rfl⟩, ?_⟩
  refine call_meets F.slot_tuple_mul ⟨_, ho, rfl⟩ F.entry_tuple_mul (F.args_tuple_mul_2 _ _) step ⟨ho, ?_⟩
  rw [size_rep]
  have hl : (List.replicate k.toNat xs).flatten.length ≤ sizeLine := by rw [PyProof.Rows.lm_len_rep_flat, sizeLine_eq, len]; omega
  exact ⟨.ref s.heap.objs.size, _, I.laid (t' := s.toks) (o := .tup (List.replicate k.toNat xs).flatten) (fun b ob z => Heap.get?_push_of_some _ z) (Nat.le_refl _) ⟨hl, _, r.rep k.toNat, IsTup.new _ _⟩, rfl, q _ (I.hok.fresh (Nat.le_refl _))⟩
def opMulW (a b : Ev) (M : Mem) : R Ev := match a, b with
  | .d (.tup l), .d (.int k) => if l ≠ [] ∧ 2 ≤ k ∧ l.length * k.toNat ≤ 1000000 then .ok (.d (.tup (List.replicate k.toNat l).flatten)) M else .stuck
  | a, b => opMulA a b M
theorem de_mulW {X : Cx} {T : List (Addr × Str)} {W : WX} {a b : Expr} {pos : Pos} {f g : Sm Ev} (ha : PE X a (tE (cf X T W) f)) (hb : PE X b (tE (cf X T W) g)) : PE X (.BinOp a .Mult b pos) (tE (cf X T W) (eBin opMulW f g)) := by
  refine ⟨fun pins s σ H Q I q => (pe_op (op_repTW.or ((op_rep1.or op_repT).or op_mulA)) ha hb).run pins s σ H Q I (tE_bin ?_ q)⟩
  intro H0 A m M H ρ σ P x y v w Q F rx ry h
  unfold opMulW at h
  split at h
  · rename_i l k
    split at h
    · rename_i hc
      obtain ⟨a, vs, e, hs, r⟩ := rx
      have hl := Rps.len r
      refine .inl ⟨a, k, vs, e, ry, SqT.of hs, fun z => hc.1 ?_, hc.2.1, by rw [hl]; exact hc.2.2, fun p hp => h.made F hp (newT (C := cf X T W) hp (Rps.rep r _))⟩
      rw [z] at hl
      exact List.eq_nil_of_length_eq_zero hl.symm
    · exact h.elim
  · exact .inr (ok_mulA H0 A m M H ρ σ P _ _ v w Q F rx ry h)
end DL

set_option Elab.async false
set_option linter.all false
set_option maxRecDepth 100000
set_option maxHeartbeats 4000000
/-! The data layer: x.count(k) of ints; a law without lambdas. -/
namespace DL
open PySem PySem.Spec PyProof.Rows L2
def rCountI : V → List V → Hp → VK → Prop := fun x vs H Q => ∃ (l : Addr) (ns : List Int) (k : Int), x = .ref l ∧ vs = [.int k] ∧ H l = some (.lst (ns.map V.int)) ∧ Q (.int ((ns.count k : Nat) : Int)) H
section
variable {X : Cx} {T : List (Addr × Str)} {W : WX}
theorem mt_countI : MtR X "list.count" rCountI := by
  intro pins s σ H x vs v us Q I rx rv h
  obtain ⟨l, ns, k, ex, ev, hH, q⟩ := h
  subst ex; subst ev
  cases rx
  obtain ⟨u, rfl, ru⟩ := rv.one
  obtain ⟨t, rfl⟩ := ru
  obtain ⟨its, r, hl, hz⟩ := I.list (SqL.of hH)
  have hi := r.ints
  exact count_list_ints hl.isList hi ⟨.int ((ns.count k : Nat) : Int), H, I.tok _, ⟨_, rfl⟩, q⟩
def cntI (k : Int) (x : Ev) (M : Mem) : R Ev := match intsOf x with
  | some ns => .ok (.d (.int ((ns.count k : Nat) : Int))) M
  | none => .stuck
/-- x.count(k) -/
def eCntI (f : Sm Ev) (k : Int) : Sm Ev := fun ρ M => bnd (f ρ M) (cntI k)
theorem de_cntI {o : Expr} {k : Int} {j : Nat} {q apos cpos : Pos} {f : Sm Ev} (ho : PE X o (tE (cf X T W) f)) (hbase : attributeBase o "count" X.env (eval o X.env) = eval o X.env := by rfl)
    (hfew : ((backTo cpos (starEach [(.Constant (.int k) j q : Expr)] X.env)).all (fun x => !x.1) && (backToKw cpos (keywordEach [] X.env)).all (fun x => x.1.isSome)
      && decide (([(.Constant (.int k) j q : Expr)] : List Expr).length + ([] : List Keyword).length + (if ([] : List Keyword).isEmpty then 0 else 1) < 30)) = true := by rfl)
    (hline : (apos.endLine == cpos.line) = true := by rfl) :
    PE X (.Call (.Attribute o "count" apos) [.Constant (.int k) j q] [] cpos) (tE (cf X T W) (eCntI f k)) := by
  refine ⟨fun pins s σ H Q I h => (pe_bm PySem.F.plainAttrs_list PySem.F.slot_list_count PySem.F.type_list_count mt_countI ho (pa_cons pe_int pa_nil) hbase hfew hline rfl rfl).run pins s σ H Q I ?_⟩
  obtain ⟨H0, A, m, M, ρ, P, F, h⟩ := h
  refine sub F h fun x M1 H1 v F1 _ r1 q1 => ?_
  unfold cntI at q1
  split at q1
  · rename_i ns hx
    obtain ⟨a, ev, ha⟩ := intsOf_at hx r1
    exact ⟨by rw [ev]; exact .inl ⟨rfl, _, SqL.of ha⟩, a, ns, k, ev, rfl, ha, q1.fin F1 rfl⟩
  · exact q1.elim
end
/-- min(a, b, c) -/
theorem call_min3 {X : Cx} (hc : X.calm = true) : CallR X (.builtin "min") (fun xs H Q => ∃ i j k, xs = [.int i, .int j, .int k] ∧ Q (.int (if j < i then (if k < j then k else j) else (if k < i then k else i))) H) := by
  intro pins s σ H xs us Q I r h
  obtain ⟨i, j, k, e, q⟩ := h
  subst e
  have three : ∃ t1 t2 t3, us = [.int i t1, .int j t2, .int k t3] := by
    cases r with
    | cons r1 r' =>
      obtain ⟨t1, rfl⟩ := r1
      obtain ⟨u2, u3, rfl, ⟨t2, rfl⟩, ⟨t3, rfl⟩⟩ := vals2 r'
      exact ⟨t1, t2, t3, rfl⟩
  obtain ⟨t1, t2, t3, rfl⟩ := three
  refine min_three_ints (I.ok.hd hc) fun h' tk kp => ⟨_, H, I.kept kp, ?_, q⟩
  by_cases h1 : j < i
  · rw [if_pos h1, if_pos h1]
    by_cases h2 : k < j
    · rw [if_pos h2, if_pos h2]; exact ⟨_, rfl⟩
    · rw [if_neg h2, if_neg h2]; exact ⟨_, rfl⟩
  · rw [if_neg h1, if_neg h1]
    by_cases h2 : k < i
    · rw [if_pos h2, if_pos h2]; exact ⟨_, rfl⟩
    · rw [if_neg h2, if_neg h2]; exact ⟨_, rfl⟩
def bMin3 (xs : List Ev) (M : Mem) : R Ev := match xs with
  | [.d (.int i), .d (.int j), .d (.int k)] => .ok (iv (if j < i then (if k < j then k else j) else (if k < i then k else i))) M
  | _ => .stuck
theorem bi_min3 {X : Cx} {T : List (Addr × Str)} {W : WX} (hc : X.calm = true) : BIs X T W (.builtin "min") bMin3 := by
  refine ⟨_, call_min3 hc, ?_⟩
  intro H0 A m M H ρ σ P xs vs Q F ra h
  unfold bMin3 at h
  split at h
  · rename_i i j k
    obtain ⟨v, w, u, rfl, r1, r2, r3⟩ := Paired.three ra
    exact ⟨i, j, k, by rw [show v = V.int i from r1, show w = V.int j from r2, show u = V.int k from r3], h.fin F rfl⟩
  · exact h.elim
/-- what a law without lambdas is asked -/
def spLaw0 (K : PySem.W.Frag) : Sp := fun vs H Q _ => ∃ (a : Addr) (ns : List Int), vs = [.ref a] ∧ SqL K H a (ns.map V.int) ∧ ns.length ≤ 63 ∧ (∀ z ∈ ns, Builtin.Int.intBits z ≤ 1048576) ∧ ∀ H', Q (.bl true) H'
theorem tabs0 {H : Hp} : LamX.Tabs [] H := fun p hp => nomatch hp
end DL

set_option Elab.async false
set_option linter.all false
set_option maxRecDepth 100000
set_option maxHeartbeats 2000000
/-! law 23: its text's defs over the data layer. -/
namespace K23
open PySem PySem.Spec PyProof.Rows L2 DL
abbrev LW : PySem.W.OpenLaw := PySem.Challenge.rw_stuckloses_k23_whole_great_takings
def top (i : Nat) : Stmt := LW.prog.main.body.getD i (.Pass ⟨0, 0, 0, 0⟩)
/-- what the text tells of names -/
structure Fx (K : PySem.W.Frag) (mg : Str → Option Value) : Prop where
  z_abs : mg "abs" = none
  z_all : mg "all" = none
  z_bool : mg "bool" = none
  z_int : mg "int" = none
  z_isinstance : mg "isinstance" = none
  z_len : mg "len" = none
  z_list : mg "list" = none
  z_max : mg "max" = none
  z_min : mg "min" = none
  z_range : mg "range" = none
  z_set : mg "set" = none
  z_sorted : mg "sorted" = none
  z_str : mg "str" = none
  z_tuple : mg "tuple" = none
  z_zip : mg "zip" = none
  xc_BadLot : XC K mg "BadLot"
  xc_BadNumber : XC K mg "BadNumber"
  m_MOST_LOT : ∃ t, mg "MOST_LOT" = some (.int 12 t)
  m_MOST_ROUND : ∃ t, mg "MOST_ROUND" = some (.int 100000 t)
  m_MOST_TAKE : ∃ t, mg "MOST_TAKE" = some (.int 20 t)
theorem sc_is_integer : FnScope ["thing"] ["thing"] (defScope (top 1)) := ⟨rfl, rfl, rfl, by decide +kernel, rfl, by decide +kernel, by decide +kernel⟩
def T1_is_integer : Ss := (sRet (eAnd (eB bIsi (aCons (eVar 0) (aCons (eC (.ty "int")) aNil))) (eNot (eB bIsi (aCons (eVar 0) (aCons (eC (.ty "bool")) aNil))))))
def S_is_integer : Ss := T1_is_integer
def F_is_integer : Fn := fnOf 1 S_is_integer
theorem sc_is_within : FnScope ["thing", "low", "high"] ["thing", "low", "high"] (defScope (top 2)) := ⟨rfl, rfl, rfl, by decide +kernel, rfl, by decide +kernel, by decide +kernel⟩
def T1_is_within : Ss := (sRet (eAnd (eCall 1 F_is_integer (aCons (eVar 0) aNil)) (eChain opLe opLe (eVar 1) (eVar 0) (eVar 2))))
def S_is_within : Ss := T1_is_within
def F_is_within : Fn := fnOf 3 S_is_within
theorem sc_are_integers : FnScope ["thing", "item"] ["thing"] (defScope (top 3)) := ⟨rfl, rfl, rfl, by decide +kernel, rfl, by decide +kernel, by decide +kernel⟩
def T1_are_integers : Ss := (sRet (eAnd (eB bIsi (aCons (eVar 0) (aCons (eC (.ty "tuple")) aNil))) (eB bAll (aCons (eF (fLc (iSeq true (eVar 0)) (.one 1) [1] tYesE (eCall 1 F_is_integer (aCons (eVar 1) aNil)))) aNil))))
def S_are_integers : Ss := T1_are_integers
def F_are_integers : Fn := fnOf 2 S_are_integers
theorem sc_is_rising : FnScope ["thing", "one", "other"] ["thing"] (defScope (top 4)) := ⟨rfl, rfl, rfl, by decide +kernel, rfl, by decide +kernel, by decide +kernel⟩
def T1_is_rising : Ss := (sRet (eAnd (eCall 1 F_are_integers (aCons (eVar 0) aNil)) (eB bAll (aCons (eF (fLc (iO (zip2 true) (aCons (eVar 0) (aCons (eSl (eVar 0) (oSome (eC (.int 1))) oNone) aNil))) (.many [1, 2]) [1, 2] tYesE (eBin opLt (eVar 1) (eVar 2)))) aNil))))
def S_is_rising : Ss := T1_is_rising
def F_is_rising : Fn := fnOf 3 S_is_rising
theorem sc_least_missing : FnScope ["some", "held", "found", "one"] ["some"] (defScope (top 5)) := ⟨rfl, rfl, rfl, by decide +kernel, rfl, by decide +kernel, by decide +kernel⟩
def T1_least_missing : Ss := (sSetN 1 (nE (eDc (iSeq true (eVar 0)) (.one 3) [3] tYesE (eVar 3) (eC (.bl true)))))
def T2_least_missing : Ss := (sAsg 2 (eC (.int 0)))
def B3_least_missing : Ss := (sAsg 2 (eBin opAdd (eVar 2) (eC (.int 1))))
def T4_least_missing : Ss := (sWhile (fun ρ M => asB (eBin (opDin false) (eVar 2) (eVar 1) ρ M)) B3_least_missing 100)
def T5_least_missing : Ss := (sRet (eVar 2))
def S_least_missing : Ss := (sSeq T1_least_missing (sSeq T2_least_missing (sSeq T4_least_missing T5_least_missing)))
def F_least_missing : Fn := fnOf 4 S_least_missing
theorem sc_is_lot : FnScope ["thing"] ["thing"] (defScope (top 15)) := ⟨rfl, rfl, rfl, by decide +kernel, rfl, by decide +kernel, by decide +kernel⟩
def T1_is_lot : Ss := (sRet (eAnd (eCall 1 F_is_rising (aCons (eVar 0) aNil)) (eAnd (eChain opLe opLe (eC (.int 1)) (eB bLen (aCons (eVar 0) aNil)) (eC (.int 12))) (eAnd (eBin opGe (eBin opIx (eVar 0) (eC (.int 0))) (eC (.int 1))) (eBin opLe (eBin opIx (eVar 0) (eUn unNeg (eC (.int 1)))) (eC (.int 20)))))))
def S_is_lot : Ss := T1_is_lot
def F_is_lot : Fn := fnOf 1 S_is_lot
theorem sc_check_lot : FnScope ["lot"] ["lot"] (defScope (top 16)) := ⟨rfl, rfl, rfl, by decide +kernel, rfl, by decide +kernel, by decide +kernel⟩
def T1_check_lot : Ss := (sIf (bNot (tTru (eCall 1 F_is_lot (aCons (eVar 0) aNil)))) (sRaise "BadLot") sNext)
def S_check_lot : Ss := T1_check_lot
def F_check_lot : Fn := fnOf 1 S_check_lot
theorem sc_next_number : FnScope ["lot", "last", "many", "take"] ["lot", "last"] (defScope (top 17)) := ⟨rfl, rfl, rfl, by decide +kernel, rfl, by decide +kernel, by decide +kernel⟩
def T1_next_number : Ss := (sAsg 2 (eB bLen (aCons (eVar 1) aNil)))
def T2_next_number : Ss := (sRet (eCall 1 F_least_missing (aCons (eF (fLc (iSeq true (eVar 0)) (.one 3) [3] (tCmpE opLe (eVar 3) (eVar 2)) (eBin opIx (eVar 1) (eBin opSub (eVar 2) (eVar 3))))) aNil)))
def S_next_number : Ss := (sSeq T1_next_number T2_next_number)
def F_next_number : Fn := fnOf 4 S_next_number
theorem sc_row_of : FnScope ["lot", "most", "found", "heap"] ["lot", "most"] (defScope (top 18)) := ⟨rfl, rfl, rfl, by decide +kernel, rfl, by decide +kernel, by decide +kernel⟩
def T1_row_of : Ss := (sSetN 2 (nF (fLst aNil)))
def B2_row_of : Ss := (sApp 2 (eCall 2 F_next_number (aCons (eVar 0) (aCons (eSl (eVar 2) (oSome (eB bMax (aCons (eC (.int 0)) (aCons (eBin opSub (eVar 3) (eC (.int 20))) aNil)))) oNone) aNil))))
def T3_row_of : Ss := (sFor (iO rng1 (aCons (eBin opAdd (eVar 1) (eC (.int 1))) aNil)) (.one 3) B2_row_of)
def T4_row_of : Ss := (sRet (eVar 2))
def S_row_of : Ss := (sSeq T1_row_of (sSeq T3_row_of T4_row_of))
def F_row_of : Fn := fnOf 4 S_row_of
theorem sc_taking_numbers : FnScope ["lot", "most"] ["lot", "most"] (defScope (top 19)) := ⟨rfl, rfl, rfl, by decide +kernel, rfl, by decide +kernel, by decide +kernel⟩
def T1_taking_numbers : Ss := (sDrop (eCall 1 F_check_lot (aCons (eVar 0) aNil)))
def T2_taking_numbers : Ss := (sIf (bNot (tTru (eCall 3 F_is_within (aCons (eVar 1) (aCons (eC (.int 0)) (aCons (eC (.int 100000)) aNil)))))) (sRaise "BadNumber") sNext)
def T3_taking_numbers : Ss := (sRet (eB bTup (aCons (eCall 2 F_row_of (aCons (eVar 0) (aCons (eVar 1) aNil))) aNil)))
def S_taking_numbers : Ss := (sSeq T1_taking_numbers (sSeq T2_taking_numbers T3_taking_numbers))
def F_taking_numbers : Fn := fnOf 2 S_taking_numbers
theorem sc_shortest : FnScope ["found", "place", "period", "before"] ["found", "place", "period"] (defScope (top 21)) := ⟨rfl, rfl, rfl, by decide +kernel, rfl, by decide +kernel, by decide +kernel⟩
def T1_shortest : Ss := (sAsg 3 (eVar 1))
def B2_shortest : Ss := (sAsg 3 (eBin opSub (eVar 3) (eC (.int 1))))
def T3_shortest : Ss := (sWhile (bAnd (tCmpE opGt (eVar 3) (eC (.int 0))) (tCmpE (opEq false) (eBin opIx (eVar 0) (eBin opSub (eVar 3) (eC (.int 1)))) (eBin opIx (eVar 0) (eBin opAdd (eBin opSub (eVar 3) (eC (.int 1))) (eVar 2))))) B2_shortest 3000)
def T4_shortest : Ss := (sRet (eTup (aCons (eVar 3) (aCons (eVar 2) aNil))))
def S_shortest : Ss := (sSeq T1_shortest (sSeq T3_shortest T4_shortest))
def F_shortest : Fn := fnOf 4 S_shortest
theorem sc_taking_period : FnScope ["lot", "size", "seen", "found", "key"] ["lot"] (defScope (top 20)) := ⟨rfl, rfl, rfl, by decide +kernel, rfl, by decide +kernel, by decide +kernel⟩
def T1_taking_period : Ss := (sDrop (eCall 1 F_check_lot (aCons (eVar 0) aNil)))
def T2_taking_period : Ss := (sParN [1, 2, 3] (nCons (nE (eBin opIx (eVar 0) (eUn unNeg (eC (.int 1))))) (nCons nDt (nCons (nF (fLst aNil)) nNil))))
def B3_taking_period : Ss := (sSeq (sIf (tCmpE opGe (eB bLen (aCons (eVar 3) aNil)) (eVar 1)) (sSeq (sAsg 4 (eB bTup (aCons (eSl (eVar 3) (oSome (eBin opSub (eB bLen (aCons (eVar 3) aNil)) (eVar 1))) oNone) aNil))) (sSeq (sIf (fun ρ M => asB (eBin (opDin false) (eVar 4) (eVar 2) ρ M)) (sRet (eCall 3 F_shortest (aCons (eVar 3) (aCons (eBin opDget (eVar 2) (eVar 4)) (aCons (eBin opSub (eB bLen (aCons (eVar 3) aNil)) (eBin opDget (eVar 2) (eVar 4))) aNil))))) sNext) (sDputT 2 (eVar 4) (eB bLen (aCons (eVar 3) aNil))))) sNext) (sApp 3 (eCall 2 F_next_number (aCons (eVar 0) (aCons (eSl (eVar 3) (oSome (eB bMax (aCons (eC (.int 0)) (aCons (eBin opSub (eB bLen (aCons (eVar 3) aNil)) (eC (.int 20))) aNil)))) oNone) aNil)))))
def T4_taking_period : Ss := (sWhile (tCmpE opLe (eB bLen (aCons (eVar 3) aNil)) (eC (.int 100000))) B3_taking_period 3000)
def T5_taking_period : Ss := sNo
def S_taking_period : Ss := (sSeq T1_taking_period (sSeq T2_taking_period (sSeq T4_taking_period T5_taking_period)))
def F_taking_period : Fn := fnOf 5 S_taking_period
theorem sc_taking_number : FnScope ["lot", "heap", "before", "period", "found"] ["lot", "heap"] (defScope (top 22)) := ⟨rfl, rfl, rfl, by decide +kernel, rfl, by decide +kernel, by decide +kernel⟩
def T1_taking_number : Ss := (sDrop (eCall 1 F_check_lot (aCons (eVar 0) aNil)))
def T2_taking_number : Ss := (sIf (bOr (bNot (tTru (eCall 1 F_is_integer (aCons (eVar 1) aNil)))) (bNot (tChainE opLe opLe (eC (.int 0)) (eVar 1) (eBin opPow (eC (.int 10)) (eC (.int 60)))))) (sRaise "BadNumber") sNext)
def T3_taking_number : Ss := (sAsgT (.many [2, 3]) (eCall 1 F_taking_period (aCons (eVar 0) aNil)))
def T4_taking_number : Ss := (sAsg 4 (eCall 2 F_row_of (aCons (eVar 0) (aCons (eBin opAdd (eVar 2) (eVar 3)) aNil))))
def T5_taking_number : Ss := (sRet (eIf (tCmpE opLt (eVar 1) (eVar 2)) (eBin opIx (eVar 4) (eVar 1)) (eBin opIx (eVar 4) (eBin opAdd (eVar 2) (eBin opMod (eBin opSub (eVar 1) (eVar 2)) (eVar 3))))))
def S_taking_number : Ss := (sSeq T1_taking_number (sSeq T2_taking_number (sSeq T3_taking_number (sSeq T4_taking_number T5_taking_number))))
def F_taking_number : Fn := fnOf 5 S_taking_number
theorem sc_lost_below : FnScope ["lot", "heap", "before", "period", "found", "whole", "rest", "stretch"] ["lot", "heap"] (defScope (top 23)) := ⟨rfl, rfl, rfl, by decide +kernel, rfl, by decide +kernel, by decide +kernel⟩
def T1_lost_below : Ss := (sDrop (eCall 1 F_check_lot (aCons (eVar 0) aNil)))
def T2_lost_below : Ss := (sIf (bOr (bNot (tTru (eCall 1 F_is_integer (aCons (eVar 1) aNil)))) (bNot (tChainE opLe opLe (eC (.int 0)) (eVar 1) (eBin opPow (eC (.int 10)) (eC (.int 60)))))) (sRaise "BadNumber") sNext)
def T3_lost_below : Ss := (sAsgT (.many [2, 3]) (eCall 1 F_taking_period (aCons (eVar 0) aNil)))
def T4_lost_below : Ss := (sAsg 4 (eCall 2 F_row_of (aCons (eVar 0) (aCons (eBin opAdd (eVar 2) (eVar 3)) aNil))))
def T5_lost_below : Ss := (sIf (tCmpE opLe (eVar 1) (eVar 2)) (sRet (eCntI (eSl (eVar 4) oNone (oSome (eVar 1))) 0)) sNext)
def T6_lost_below : Ss := (sPar [5, 6] (aCons (eBin opDiv (eBin opSub (eVar 1) (eVar 2)) (eVar 3)) (aCons (eBin opMod (eBin opSub (eVar 1) (eVar 2)) (eVar 3)) aNil)))
def T7_lost_below : Ss := (sAsg 7 (eSl (eVar 4) (oSome (eVar 2)) (oSome (eBin opAdd (eVar 2) (eVar 3)))))
def T8_lost_below : Ss := (sRet (eBin opAdd (eBin opAdd (eCntI (eSl (eVar 4) oNone (oSome (eVar 2))) 0) (eBin opMulA (eVar 5) (eCntI (eVar 7) 0))) (eCntI (eSl (eVar 7) oNone (oSome (eVar 6))) 0)))
def S_lost_below : Ss := (sSeq T1_lost_below (sSeq T2_lost_below (sSeq T3_lost_below (sSeq T4_lost_below (sSeq T5_lost_below (sSeq T6_lost_below (sSeq T7_lost_below T8_lost_below)))))))
def F_lost_below : Fn := fnOf 8 S_lost_below
theorem sc_takes : FnScope ["lot", "heap", "take"] ["lot", "heap"] (defScope (top 24)) := ⟨rfl, rfl, rfl, by decide +kernel, rfl, by decide +kernel, by decide +kernel⟩
def T1_takes : Ss := (sDrop (eCall 1 F_check_lot (aCons (eVar 0) aNil)))
def T2_takes : Ss := (sIf (bOr (bNot (tTru (eCall 1 F_is_integer (aCons (eVar 1) aNil)))) (bNot (tChainE opLe opLe (eC (.int 0)) (eVar 1) (eBin opPow (eC (.int 10)) (eC (.int 60)))))) (sRaise "BadNumber") sNext)
def T3_takes : Ss := (sRet (eB bTup (aCons (eF (fLc (iSeq true (eVar 0)) (.one 2) [2] (bAnd (tCmpE opLe (eVar 2) (eVar 1)) (tCmpE (opEq false) (eCall 2 F_taking_number (aCons (eVar 0) (aCons (eBin opSub (eVar 1) (eVar 2)) aNil))) (eC (.int 0)))) (eVar 2))) aNil)))
def S_takes : Ss := (sSeq T1_takes (sSeq T2_takes T3_takes))
def F_takes : Fn := fnOf 3 S_takes
theorem sc_number_in : FnScope ["found", "before", "period", "heap"] ["found", "before", "period", "heap"] (defScope (top 26)) := ⟨rfl, rfl, rfl, by decide +kernel, rfl, by decide +kernel, by decide +kernel⟩
def T1_number_in : Ss := (sRet (eIf (tCmpE opLt (eVar 3) (eVar 1)) (eBin opIx (eVar 0) (eVar 3)) (eBin opIx (eVar 0) (eBin opAdd (eVar 1) (eBin opMod (eBin opSub (eVar 3) (eVar 1)) (eVar 2))))))
def S_number_in : Ss := T1_number_in
def F_number_in : Fn := fnOf 4 S_number_in
theorem sc_can_join : FnScope ["lot", "take", "before", "period", "found", "most", "told", "at", "one", "other"] ["lot", "take"] (defScope (top 25)) := ⟨rfl, rfl, rfl, by decide +kernel, rfl, by decide +kernel, by decide +kernel⟩
def T1_can_join : Ss := (sDrop (eCall 1 F_check_lot (aCons (eVar 0) aNil)))
def T2_can_join : Ss := (sIf (bNot (tTru (eCall 3 F_is_within (aCons (eVar 1) (aCons (eC (.int 1)) (aCons (eBin opPow (eC (.int 10)) (eC (.int 6))) aNil)))))) (sRaise "BadNumber") sNext)
def T3_can_join : Ss := (sAsgT (.many [2, 3]) (eCall 1 F_taking_period (aCons (eVar 0) aNil)))
def T4_can_join : Ss := (sAsg 4 (eCall 2 F_row_of (aCons (eVar 0) (aCons (eBin opAdd (eBin opAdd (eBin opAdd (eVar 2) (eVar 3)) (eBin opMod (eVar 1) (eVar 3))) (eVar 3)) aNil))))
def T5_can_join : Ss := (sAsg 5 (eBin opAdd (eVar 2) (eVar 3)))
def T6_can_join : Ss := (sSetN 6 (nE (eF (fLc (iO rng1 (aCons (eVar 5) aNil)) (.one 7) [7] tYesE (eTup (aCons (eCall 4 F_number_in (aCons (eVar 4) (aCons (eVar 2) (aCons (eVar 3) (aCons (eVar 7) aNil))))) (aCons (eCall 4 F_number_in (aCons (eVar 4) (aCons (eVar 2) (aCons (eVar 3) (aCons (eBin opAdd (eVar 7) (eVar 1)) aNil))))) aNil)))))))
def T7_can_join : Ss := (sRet (eB bAll (aCons (eF (fLc (iSeq true (eVar 6)) (.many [8, 9]) [8, 9] tYesE (eBin (opEq true) (eVar 8) (eVar 9)))) aNil)))
def S_can_join : Ss := (sSeq T1_can_join (sSeq T2_can_join (sSeq T3_can_join (sSeq T4_can_join (sSeq T5_can_join (sSeq T6_can_join T7_can_join))))))
def F_can_join : Fn := fnOf 10 S_can_join
theorem sc__law_hand : FnScope ["script", "cells", "cell"] ["script"] (defScope (top 28)) := ⟨rfl, rfl, rfl, by decide +kernel, rfl, by decide +kernel, by decide +kernel⟩
def T1__law_hand : Ss := (sSetN 1 (nE (eF (fLc (iSeq true (eSl (eVar 0) oNone (oSome (eC (.int 63))))) (.one 2) [2] tYesE (eBin opMod (eB bInt (aCons (eB bAbs (aCons (eB bInt (aCons (eVar 2) aNil)) aNil)) aNil)) (eBin opPow (eC (.int 10)) (eC (.int 40))))))))
def T2__law_hand : Ss := (sRet (eLst (aCons (eVar 1) (aCons (eC (.int 0)) (aCons (eC (.int 0)) (aCons (eBin opAdd (eC (.int 37)) (eBin opMulA (eC (.int 7)) (eB bLen (aCons (eVar 1) aNil)))) (aCons (eC (.int 0)) aNil)))))))
def S__law_hand : Ss := (sSeq T1__law_hand T2__law_hand)
def F__law_hand : Fn := fnOf 3 S__law_hand
theorem sc__law_draw : FnScope ["hand", "many", "cell", "digit", "number"] ["hand", "many"] (defScope (top 29)) := ⟨rfl, rfl, rfl, by decide +kernel, rfl, by decide +kernel, by decide +kernel⟩
def T1__law_draw : Ss := (sIf (bAnd (tCmpE (opEq false) (eBin opIx (eVar 0) (eC (.int 2))) (eC (.int 0))) (tCmpE opLt (eBin opIx (eVar 0) (eC (.int 1))) (eB bLen (aCons (eBin opIx (eVar 0) (eC (.int 0))) aNil)))) (sSeq (sAsg 2 (eBin opIx (eBin opIx (eVar 0) (eC (.int 0))) (eBin opIx (eVar 0) (eC (.int 1))))) (sSeq (sPut 0 (eC (.int 1)) (eBin opAdd (eBin opIx (eVar 0) (eC (.int 1))) (eC (.int 1)))) (sSeq (sPut 0 (eC (.int 3)) (eBin opMod (eB bInt (aCons (eBin opAdd (eBin opAdd (eBin opMulA (eBin opIx (eVar 0) (eC (.int 3))) (eC (.int 69621))) (eBin opMulA (eVar 2) (eC (.int 40692)))) (eC (.int 31))) aNil)) (eC (.int 2147483629)))) (sIf (tCmpE opGe (eVar 2) (eBin opPow (eC (.int 10)) (eC (.int 18)))) (sPut 0 (eC (.int 2)) (eVar 2)) sNext)))) sNext)
def T2__law_draw : Ss := (sIf (tCmpE opGt (eBin opIx (eVar 0) (eC (.int 2))) (eC (.int 0))) (sSeq (sAsg 3 (eBin opMod (eB bInt (aCons (eBin opIx (eVar 0) (eC (.int 2))) aNil)) (eVar 1))) (sSeq (sPut 0 (eC (.int 2)) (eBin opDiv (eBin opIx (eVar 0) (eC (.int 2))) (eVar 1))) (sRet (eVar 3)))) sNext)
def T3__law_draw : Ss := (sPut 0 (eC (.int 4)) (eBin opAdd (eBin opIx (eVar 0) (eC (.int 4))) (eC (.int 1))))
def T4__law_draw : Ss := (sAsg 4 (eBin opMod (eB bInt (aCons (eBin opMulA (eB bInt (aCons (eBin opAdd (eBin opIx (eVar 0) (eC (.int 3))) (eBin opMulA (eC (.int 7919)) (eBin opIx (eVar 0) (eC (.int 4))))) aNil)) (eC (.int 48271))) aNil)) (eC (.int 2147483647))))
def T5__law_draw : Ss := (sAsg 4 (eBin opMod (eB bInt (aCons (eBin opMulA (eVar 4) (eBin opAdd (eBin opDiv (eVar 4) (eC (.int 1009))) (eC (.int 69621)))) aNil)) (eC (.int 2147483647))))
def T6__law_draw : Ss := (sAsg 4 (eBin opMod (eB bInt (aCons (eBin opMulA (eVar 4) (eBin opAdd (eBin opDiv (eVar 4) (eC (.int 2003))) (eC (.int 40014)))) aNil)) (eC (.int 2147483563))))
def T7__law_draw : Ss := (sRet (eBin opMod (eB bInt (aCons (eBin opDiv (eVar 4) (eC (.int 16))) aNil)) (eVar 1)))
def S__law_draw : Ss := (sSeq T1__law_draw (sSeq T2__law_draw (sSeq T3__law_draw (sSeq T4__law_draw (sSeq T5__law_draw (sSeq T6__law_draw T7__law_draw))))))
def F__law_draw : Fn := fnOf 5 S__law_draw
theorem sc__law_any : FnScope ["hand", "some"] ["hand", "some"] (defScope (top 30)) := ⟨rfl, rfl, rfl, by decide +kernel, rfl, by decide +kernel, by decide +kernel⟩
def T1__law_any : Ss := (sRet (eBin opIx (eVar 1) (eCall 2 F__law_draw (aCons (eVar 0) (aCons (eB bLen (aCons (eVar 1) aNil)) aNil)))))
def S__law_any : Ss := T1__law_any
def F__law_any : Fn := fnOf 2 S__law_any
theorem sc__law_is : FnScope ["answer", "due", "one", "other"] ["answer", "due"] (defScope (top 31)) := ⟨rfl, rfl, rfl, by decide +kernel, rfl, by decide +kernel, by decide +kernel⟩
def S__law_is (Fr : Fn) : Ss := (sSeq (sIf (bOr (tCmpE (opIs false) (eVar 1) (eC .non)) (tCmpE (opIs false) (eVar 0) (eC .non))) (sRet (eAnd (eBin (opIs false) (eVar 1) (eC .non)) (eBin (opIs false) (eVar 0) (eC .non)))) sNext) (sSeq (sIf (tTru (eB bIsi (aCons (eVar 1) (aCons (eTup (aCons (eC (.ty "tuple")) (aCons (eC (.ty "list")) aNil))) aNil)))) (sSeq (sIf (bOr (tCmpE (opEq true) (eB bIsi (aCons (eVar 0) (aCons (eC (.ty "tuple")) aNil))) (eB bIsi (aCons (eVar 1) (aCons (eC (.ty "tuple")) aNil)))) (tCmpE (opEq true) (eB bIsi (aCons (eVar 0) (aCons (eC (.ty "list")) aNil))) (eB bIsi (aCons (eVar 1) (aCons (eC (.ty "list")) aNil))))) (sRet (eC (.bl false))) sNext) (sRet (eAnd (eBin (opEq false) (eB bLen (aCons (eVar 0) aNil)) (eB bLen (aCons (eVar 1) aNil))) (eB bAll (aCons (eF (fLc (iO (zip2 true) (aCons (eVar 0) (aCons (eVar 1) aNil))) (.many [2, 3]) [2, 3] tYesE (eCall 2 Fr (aCons (eVar 2) (aCons (eVar 3) aNil))))) aNil))))) sNext) (sSeq (sIf (bOr (tCmpE (opEq true) (eB bIsi (aCons (eVar 0) (aCons (eC (.ty "bool")) aNil))) (eB bIsi (aCons (eVar 1) (aCons (eC (.ty "bool")) aNil)))) (tCmpE (opEq true) (eB bIsi (aCons (eVar 0) (aCons (eC (.ty "int")) aNil))) (eB bIsi (aCons (eVar 1) (aCons (eC (.ty "int")) aNil))))) (sRet (eC (.bl false))) sNext) (sRet (eAnd (eBin (opEq false) (eB bIsi (aCons (eVar 0) (aCons (eC (.ty "str")) aNil))) (eB bIsi (aCons (eVar 1) (aCons (eC (.ty "str")) aNil)))) (eBin (opEq false) (eVar 0) (eVar 1)))))))
def R__law_is : Nat → Fn
  | 0 => fun _ _ => .stuck
  | n + 1 => fnOf 4 (S__law_is (R__law_is n))
def F__law_is : Fn := R__law_is 4
theorem sc__law_least_missing : FnScope ["some", "found"] ["some"] (defScope (top 32)) := ⟨rfl, rfl, rfl, by decide +kernel, rfl, by decide +kernel, by decide +kernel⟩
def T1__law_least_missing : Ss := (sAsg 1 (eC (.int 0)))
def B2__law_least_missing : Ss := (sAsg 1 (eBin opAdd (eVar 1) (eC (.int 1))))
def T3__law_least_missing : Ss := (sWhile (tCmpE (opIn false) (eVar 1) (eVar 0)) B2__law_least_missing 100)
def T4__law_least_missing : Ss := (sRet (eVar 1))
def S__law_least_missing : Ss := (sSeq T1__law_least_missing (sSeq T3__law_least_missing T4__law_least_missing))
def F__law_least_missing : Fn := fnOf 2 S__law_least_missing
theorem sc__law_heap : FnScope ["hand"] ["hand"] (defScope (top 33)) := ⟨rfl, rfl, rfl, by decide +kernel, rfl, by decide +kernel, by decide +kernel⟩
def T1__law_heap : Ss := (sRet (eCall 2 F__law_draw (aCons (eVar 0) (aCons (eCall 2 F__law_any (aCons (eVar 0) (aCons (eLst (aCons (eC (.int 60)) (aCons (eBin opPow (eC (.int 10)) (eC (.int 6))) (aCons (eBin opPow (eC (.int 10)) (eC (.int 59))) aNil)))) aNil))) aNil))))
def S__law_heap : Ss := T1__law_heap
def F__law_heap : Fn := fnOf 1 S__law_heap
theorem sc__law_all_to : FnScope ["hand", "most"] ["hand", "most"] (defScope (top 34)) := ⟨rfl, rfl, rfl, by decide +kernel, rfl, by decide +kernel, by decide +kernel⟩
def T1__law_all_to : Ss := (sRet (eTup (aCons (eRg2 true (eC (.int 1)) (eBin opAdd (eVar 1) (eC (.int 1)))) (aCons (eBin opAdd (eVar 1) (eC (.int 1))) (aCons (eRg1 false (eBin opAdd (eVar 1) (eC (.int 1)))) aNil)))))
def S__law_all_to : Ss := T1__law_all_to
def F__law_all_to : Fn := fnOf 2 S__law_all_to
theorem sc__law_known : FnScope ["hand", "kind", "one", "odd", "even", "far", "few", "many", "lot", "period", "numbers", "rows", "number", "turn", "at", "take"] ["hand"] (defScope (top 35)) := ⟨rfl, rfl, rfl, by decide +kernel, rfl, by decide +kernel, by decide +kernel⟩
def T1__law_known : Ss := (sAsgT (.many [1, 2]) (eTup (aCons (eCall 2 F__law_draw (aCons (eVar 0) (aCons (eC (.int 6)) aNil))) (aCons (eBin opAdd (eC (.int 1)) (eCall 2 F__law_draw (aCons (eVar 0) (aCons (eC (.int 10)) aNil)))) aNil))))
def T2__law_known : Ss := (sIf (tCmpE (opEq false) (eVar 1) (eC (.int 0))) (sRet (eCall 2 F__law_all_to (aCons (eVar 0) (aCons (eBin opAdd (eC (.int 1)) (eCall 2 F__law_draw (aCons (eVar 0) (aCons (eC (.int 12)) aNil)))) aNil)))) sNext)
def T3__law_known : Ss := (sIf (tCmpE (opEq false) (eVar 1) (eC (.int 1))) (sRet (eTup (aCons (eTup (aCons (eVar 2) aNil)) (aCons (eBin opMulA (eC (.int 2)) (eVar 2)) (aCons (eBin opAdd (eBin opMulA (eLst (aCons (eC (.int 0)) aNil)) (eVar 2)) (eBin opMulA (eLst (aCons (eC (.int 1)) aNil)) (eVar 2))) aNil))))) sNext)
def T4__law_known : Ss := (sIf (tCmpE (opEq false) (eVar 1) (eC (.int 2))) (sSeq (sAsg 3 (eB bSortS (aCons (eBin opAdd (eLst (aCons (eC (.int 1)) aNil)) (eF (fLc (iO rng1 (aCons (eC (.int 4)) aNil)) (.one 13) [13] tYesE (eBin opAdd (eC (.int 1)) (eBin opMulA (eC (.int 2)) (eCall 2 F__law_draw (aCons (eVar 0) (aCons (eC (.int 10)) aNil)))))))) aNil))) (sRet (eTup (aCons (eB bTup (aCons (eVar 3) aNil)) (aCons (eC (.int 2)) (aCons (eLst (aCons (eC (.int 0)) (aCons (eC (.int 1)) aNil))) aNil)))))) sNext)
def T5__law_known : Ss := (sIf (tCmpE (opEq false) (eVar 1) (eC (.int 3))) (sSeq (sAsg 4 (eBin opMulA (eC (.int 2)) (eBin opAdd (eC (.int 1)) (eCall 2 F__law_draw (aCons (eVar 0) (aCons (eC (.int 10)) aNil)))))) (sRet (eTup (aCons (eTup (aCons (eC (.int 1)) (aCons (eVar 4) aNil))) (aCons (eBin opAdd (eVar 4) (eC (.int 1))) (aCons (eBin opAdd (eBin opMulA (eLst (aCons (eC (.int 0)) (aCons (eC (.int 1)) aNil))) (eBin opDiv (eVar 4) (eC (.int 2)))) (eLst (aCons (eC (.int 2)) aNil))) aNil)))))) sNext)
def T6__law_known : Ss := (sIf (tCmpE (opEq false) (eVar 1) (eC (.int 4))) (sSeq (sAsg 5 (eBin opSub (eBin opMulA (eC (.int 2)) (eVar 2)) (eCall 2 F__law_draw (aCons (eVar 0) (aCons (eVar 2) aNil))))) (sSeq (sAsg 5 (eB bMin3 (aCons (eC (.int 20)) (aCons (eBin opAdd (eVar 2) (eC (.int 11))) (aCons (eB bMax (aCons (eVar 5) (aCons (eVar 2) aNil))) aNil))))) (sRet (eTup (aCons (eRg2 true (eVar 2) (eBin opAdd (eVar 5) (eC (.int 1)))) (aCons (eBin opAdd (eVar 2) (eVar 5)) (aCons (eF (fLc (iO rng1 (aCons (eBin opAdd (eVar 2) (eVar 5)) aNil)) (.one 14) [14] tYesE (eBin opDiv (eVar 14) (eVar 2)))) aNil))))))) sNext)
def T7__law_known : Ss := (sAsgT (.many [6, 7]) (eTup (aCons (eBin opAdd (eCall 2 F__law_draw (aCons (eVar 0) (aCons (eC (.int 4)) aNil))) (eC (.int 1))) (aCons (eBin opAdd (eC (.int 2)) (eCall 2 F__law_draw (aCons (eVar 0) (aCons (eC (.int 4)) aNil)))) aNil))))
def T8__law_known : Ss := (sAsgT (.many [8, 9, 10]) (eCall 2 F__law_all_to (aCons (eVar 0) (aCons (eVar 6) aNil))))
def T9__law_known : Ss := (sAsg 11 (eLst aNil))
def B10__law_known : Ss := (sAsg 11 (eBin opAdd (eVar 11) (eBin opMulA (eLst (aCons (eVar 12) aNil)) (eVar 7))))
def T11__law_known : Ss := (sFor (iSeq false (eVar 10)) (.one 12) B10__law_known)
def T12__law_known : Ss := (sRet (eTup (aCons (eB bTup (aCons (eF (fLc (iSeq true (eVar 8)) (.one 15) [15] tYesE (eBin opMulA (eVar 7) (eVar 15)))) aNil)) (aCons (eBin opMulA (eVar 7) (eVar 9)) (aCons (eVar 11) aNil)))))
def S__law_known : Ss := (sSeq T1__law_known (sSeq T2__law_known (sSeq T3__law_known (sSeq T4__law_known (sSeq T5__law_known (sSeq T6__law_known (sSeq T7__law_known (sSeq T8__law_known (sSeq T9__law_known (sSeq T11__law_known T12__law_known))))))))))
def F__law_known : Fn := fnOf 16 S__law_known
theorem sc__law_is_known_right : FnScope ["hand", "lot", "period", "numbers", "most", "turn", "heap", "rest", "below", "some", "told", "take", "other"] ["hand"] (defScope (top 36)) := ⟨rfl, rfl, rfl, by decide +kernel, rfl, by decide +kernel, by decide +kernel⟩
def T1__law_is_known_right : Ss := (sAsgT (.many [1, 2, 3]) (eCall 1 F__law_known (aCons (eVar 0) aNil)))
def T2__law_is_known_right : Ss := (sIf (bNot (tTru (eCall 2 F__law_is (aCons (eCall 1 F_taking_period (aCons (eVar 1) aNil)) (aCons (eTup (aCons (eC (.int 0)) (aCons (eVar 2) aNil))) aNil))))) (sRet (eC (.bl false))) sNext)
def T3__law_is_known_right : Ss := (sAsg 4 (eCall 2 F__law_draw (aCons (eVar 0) (aCons (eC (.int 120)) aNil))))
def T4__law_is_known_right : Ss := (sIf (bNot (tTru (eCall 2 F__law_is (aCons (eCall 2 F_taking_numbers (aCons (eVar 1) (aCons (eVar 4) aNil))) (aCons (eB bTup (aCons (eF (fLc (iO rng1 (aCons (eBin opAdd (eVar 4) (eC (.int 1))) aNil)) (.one 6) [6] tYesE (eBin opIx (eVar 3) (eBin opMod (eB bInt (aCons (eVar 6) aNil)) (eVar 2))))) aNil)) aNil))))) (sRet (eC (.bl false))) sNext)
def B5__law_is_known_right : Ss := (sSeq (sAsg 6 (eCall 1 F__law_heap (aCons (eVar 0) aNil))) (sSeq (sAsg 7 (eBin opMod (eB bInt (aCons (eVar 6) aNil)) (eVar 2))) (sSeq (sAsg 8 (eBin opAdd (eBin opMulA (eBin opDiv (eVar 6) (eVar 2)) (eCntI (eVar 3) 0)) (eCntI (eSl (eVar 3) oNone (oSome (eVar 7))) 0))) (sSeq (sAsg 9 (eB bTup (aCons (eF (fLc (iSeq true (eVar 1)) (.one 11) [11] (bAnd (tCmpE opLe (eVar 11) (eVar 6)) (tCmpE (opEq false) (eBin opIx (eVar 3) (eBin opMod (eB bInt (aCons (eBin opSub (eVar 6) (eVar 11)) aNil)) (eVar 2))) (eC (.int 0)))) (eVar 11))) aNil))) (sSeq (sAsg 10 (eLst (aCons (eCall 2 F_taking_number (aCons (eVar 1) (aCons (eVar 6) aNil))) (aCons (eCall 2 F_lost_below (aCons (eVar 1) (aCons (eVar 6) aNil))) (aCons (eCall 2 F_takes (aCons (eVar 1) (aCons (eVar 6) aNil))) aNil))))) (sSeq (sIf (bNot (tTru (eCall 2 F__law_is (aCons (eVar 10) (aCons (eLst (aCons (eBin opIx (eVar 3) (eVar 7)) (aCons (eVar 8) (aCons (eVar 9) aNil)))) aNil))))) (sRet (eC (.bl false))) sNext) (sSeq (sAsg 11 (eBin opAdd (eBin opIx (eVar 1) (eCall 2 F__law_draw (aCons (eVar 0) (aCons (eB bLen (aCons (eVar 1) aNil)) aNil)))) (eBin opMulA (eVar 2) (eBin opAdd (eC (.int 1)) (eCall 2 F__law_draw (aCons (eVar 0) (aCons (eBin opPow (eC (.int 10)) (eC (.int 4))) aNil))))))) (sSeq (sAsg 12 (eBin opMulA (eVar 2) (eBin opAdd (eC (.int 1)) (eCall 2 F__law_draw (aCons (eVar 0) (aCons (eBin opPow (eC (.int 10)) (eC (.int 4))) aNil)))))) (sIf (bNot (tTru (eCall 2 F__law_is (aCons (eLst (aCons (eCall 2 F_can_join (aCons (eVar 1) (aCons (eVar 11) aNil))) (aCons (eCall 2 F_can_join (aCons (eVar 1) (aCons (eVar 12) aNil))) aNil))) (aCons (eLst (aCons (eC (.bl true)) (aCons (eC (.bl false)) aNil))) aNil))))) (sRet (eC (.bl false))) sNext)))))))))
def T6__law_is_known_right : Ss := (sFor (iO rng1 (aCons (eC (.int 8)) aNil)) (.one 5) B5__law_is_known_right)
def T7__law_is_known_right : Ss := (sRet (eC (.bl true)))
def S__law_is_known_right : Ss := (sSeq T1__law_is_known_right (sSeq T2__law_is_known_right (sSeq T3__law_is_known_right (sSeq T4__law_is_known_right (sSeq T6__law_is_known_right T7__law_is_known_right)))))
def F__law_is_known_right : Fn := fnOf 13 S__law_is_known_right
theorem sc__law_are_great_right : FnScope ["hand", "lot", "before", "period", "turn", "heap", "some", "number", "far", "many", "wide", "take"] ["hand"] (defScope (top 37)) := ⟨rfl, rfl, rfl, by decide +kernel, rfl, by decide +kernel, by decide +kernel⟩
def T1__law_are_great_right : Ss := (sAsg 1 (eB bTup (aCons (eB bSortS (aCons (eF (fLc (iO rng1 (aCons (eBin opAdd (eC (.int 1)) (eCall 2 F__law_draw (aCons (eVar 0) (aCons (eC (.int 5)) aNil)))) aNil)) (.one 4) [4] tYesE (eBin opAdd (eC (.int 1)) (eCall 2 F__law_draw (aCons (eVar 0) (aCons (eC (.int 10)) aNil)))))) aNil)) aNil)))
def T2__law_are_great_right : Ss := (sAsgT (.many [2, 3]) (eCall 1 F_taking_period (aCons (eVar 1) aNil)))
def B3__law_are_great_right : Ss := (sSeq (sAsg 5 (eBin opAdd (eVar 2) (eCall 1 F__law_heap (aCons (eVar 0) aNil)))) (sSeq (sSetN 6 (nE (eF (fLc (iSeq true (eVar 1)) (.one 11) [11] (tCmpE opLe (eVar 11) (eVar 5)) (eCall 2 F_taking_number (aCons (eVar 1) (aCons (eBin opSub (eVar 5) (eVar 11)) aNil))))))) (sSeq (sAsg 7 (eCall 2 F_taking_number (aCons (eVar 1) (aCons (eVar 5) aNil)))) (sSeq (sIf (bOr (tCmpE (opEq true) (eVar 7) (eCall 1 F__law_least_missing (aCons (eVar 6) aNil))) (tCmpE (opEq true) (eCall 2 F_taking_number (aCons (eVar 1) (aCons (eBin opAdd (eVar 5) (eVar 3)) aNil))) (eVar 7))) (sRet (eC (.bl false))) sNext) (sSeq (sIf (tCmpE (opEq true) (eCall 2 F_takes (aCons (eVar 1) (aCons (eVar 5) aNil))) (eB bTup (aCons (eF (fLc (iSeq true (eVar 1)) (.one 11) [11] (bAnd (tCmpE opLe (eVar 11) (eVar 5)) (tCmpE (opEq false) (eCall 2 F_taking_number (aCons (eVar 1) (aCons (eBin opSub (eVar 5) (eVar 11)) aNil))) (eC (.int 0)))) (eVar 11))) aNil))) (sRet (eC (.bl false))) sNext) (sSeq (sAsg 8 (eBin opSub (eCall 2 F_lost_below (aCons (eVar 1) (aCons (eBin opAdd (eVar 5) (eC (.int 1))) aNil))) (eCall 2 F_lost_below (aCons (eVar 1) (aCons (eVar 5) aNil))))) (sIf (bOr (tCmpE (opEq true) (eVar 8) (eB bInt (aCons (eBin (opEq false) (eVar 7) (eC (.int 0))) aNil))) (tCmpE opLt (eBin opSub (eCall 2 F_lost_below (aCons (eVar 1) (aCons (eBin opAdd (eVar 5) (eVar 3)) aNil))) (eCall 2 F_lost_below (aCons (eVar 1) (aCons (eVar 5) aNil)))) (eC (.int 1)))) (sRet (eC (.bl false))) sNext)))))))
def T4__law_are_great_right : Ss := (sFor (iO rng1 (aCons (eC (.int 6)) aNil)) (.one 4) B3__law_are_great_right)
def T5__law_are_great_right : Ss := (sAsg 9 (eBin opAdd (eC (.int 2)) (eCall 2 F__law_draw (aCons (eVar 0) (aCons (eC (.int 2)) aNil)))))
def T6__law_are_great_right : Ss := (sAsg 10 (eB bTup (aCons (eF (fLc (iSeq true (eVar 1)) (.one 11) [11] (tCmpE opLe (eBin opMulA (eVar 9) (eVar 11)) (eC (.int 20))) (eBin opMulA (eVar 9) (eVar 11)))) aNil)))
def T7__law_are_great_right : Ss := (sAsg 5 (eCall 1 F__law_heap (aCons (eVar 0) aNil)))
def T8__law_are_great_right : Ss := (sRet (eOr (eBin opLt (eB bLen (aCons (eVar 10) aNil)) (eB bLen (aCons (eVar 1) aNil))) (eBin (opEq false) (eCall 2 F_taking_number (aCons (eVar 10) (aCons (eVar 5) aNil))) (eCall 2 F_taking_number (aCons (eVar 1) (aCons (eBin opDiv (eVar 5) (eVar 9)) aNil))))))
def S__law_are_great_right : Ss := (sSeq T1__law_are_great_right (sSeq T2__law_are_great_right (sSeq T4__law_are_great_right (sSeq T5__law_are_great_right (sSeq T6__law_are_great_right (sSeq T7__law_are_great_right T8__law_are_great_right))))))
def F__law_are_great_right : Fn := fnOf 12 S__law_are_great_right
def B1_law : Ss := (sIf (bOr (bNot (tTru (eCall 1 F__law_is_known_right (aCons (eVar 1) aNil)))) (bNot (tTru (eCall 1 F__law_are_great_right (aCons (eVar 1) aNil))))) (sRet (eC (.bl false))) sNext)
def T2_law : Ss := (sFor (iO rng1 (aCons (eC (.int 4)) aNil)) (.one 2) B1_law)
def T3_law : Ss := (sRet (eCall 2 F__law_is (aCons (eLst (aCons (eCall 1 F_taking_period (aCons (eTup (aCons (eC (.int 1)) (aCons (eC (.int 2)) (aCons (eC (.int 3)) aNil)))) aNil)) (aCons (eCall 2 F_takes (aCons (eTup (aCons (eC (.int 1)) (aCons (eC (.int 2)) (aCons (eC (.int 3)) aNil)))) (aCons (eBin opSub (eBin opPow (eC (.int 10)) (eC (.int 60))) (eC (.int 1))) aNil))) aNil))) (aCons (eLst (aCons (eTup (aCons (eC (.int 0)) (aCons (eC (.int 4)) aNil))) (aCons (eTup (aCons (eC (.int 3)) aNil)) aNil))) aNil))))
def S_law1 : Sm Ev := (eCall 1 F__law_hand (aCons (eVar 0) aNil))
def S_law : Ss := (sSeq T2_law T3_law)
theorem sc_law : FnScope ["script", "hand", "turn"] ["script"] (defScope (top 38)) := ⟨rfl, rfl, rfl, by decide +kernel, rfl, by decide +kernel, by decide +kernel⟩
end K23

set_option Elab.async false
set_option linter.all false
set_option maxRecDepth 100000
set_option maxHeartbeats 4000000
/-! The data layer's readings, plainly: steps over natural numbers. -/
namespace DL
open PySem PySem.Spec PyProof.Rows L2
section
variable {ρ : Env} {M M' M'' : Mem} {f g h : Sm Ev} {a b c : Nat}
theorem n_c (n : Nat) : eC (.int (OfNat.ofNat n)) ρ M = .ok (.d (.int ((OfNat.ofNat n : Nat) : Int))) M := rfl
theorem n_xor (h1 : f ρ M = .ok (.d (.int (a : Int))) M') (h2 : g ρ M' = .ok (.d (.int (b : Int))) M'') : eBin opXor f g ρ M = .ok (.d (.int ((a ^^^ b : Nat) : Int))) M'' := by
  rw [q_bin h1 h2]
  show R.ok (Ev.d (.int (Builtin.bitXor (a : Int) (b : Int)))) M'' = _
  rw [Bits.bitXor_pp (by omega) (by omega)]
  rfl
theorem n_and (h1 : f ρ M = .ok (.d (.int (a : Int))) M') (h2 : g ρ M' = .ok (.d (.int (b : Int))) M'') : eBin opAnd f g ρ M = .ok (.d (.int ((a &&& b : Nat) : Int))) M'' := by
  rw [q_bin h1 h2]
  show R.ok (Ev.d (.int (Builtin.bitAnd (a : Int) (b : Int)))) M'' = _
  rw [show Builtin.bitAnd (a : Int) (b : Int) = ((a &&& b : Nat) : Int) by unfold Builtin.bitAnd; simp]
theorem n_shl (ha : a < 2 ^ 64) (hb : b ≤ 1000) (h1 : f ρ M = .ok (.d (.int (a : Int))) M') (h2 : g ρ M' = .ok (.d (.int (b : Int))) M'') : eBin opShl f g ρ M = .ok (.d (.int ((a <<< b : Nat) : Int))) M'' := by
  have hb64 := intBits_le_64 (k := (a : Int)) (by omega) (by omega)
  have c : CShl (a : Int) (b : Int) := ⟨by omega, by omega⟩
  rw [q_bin h1 h2]
  simp only [opI2, if_pos c, Int.toNat_natCast, Nat.shiftLeft_eq]
  rw [Int.natCast_mul]
  norm_cast
theorem n_shr (h1 : f ρ M = .ok (.d (.int (a : Int))) M') (h2 : g ρ M' = .ok (.d (.int (b : Int))) M'') : eBin opShr f g ρ M = .ok (.d (.int ((a >>> b : Nat) : Int))) M'' := by
  have c : 0 ≤ (b : Int) := by omega
  rw [q_bin h1 h2]
  simp only [opI2, if_pos c, Int.toNat_natCast, Nat.shiftRight_eq_div_pow]
  norm_cast
theorem n_add (h1 : f ρ M = .ok (.d (.int (a : Int))) M') (h2 : g ρ M' = .ok (.d (.int (b : Int))) M'') : eBin opAdd f g ρ M = .ok (.d (.int ((a + b : Nat) : Int))) M'' := by rw [q_add h1 h2, Int.natCast_add]
theorem n_sub (hb : b ≤ a) (h1 : f ρ M = .ok (.d (.int (a : Int))) M') (h2 : g ρ M' = .ok (.d (.int (b : Int))) M'') : eBin opSub f g ρ M = .ok (.d (.int ((a - b : Nat) : Int))) M'' := by
  rw [q_sub h1 h2, show (a : Int) - (b : Int) = ((a - b : Nat) : Int) by omega]
theorem n_mul (ha : a < 2 ^ 64) (hb : b < 2 ^ 64) (h1 : f ρ M = .ok (.d (.int (a : Int))) M') (h2 : g ρ M' = .ok (.d (.int (b : Int))) M'') : eBin opMulA f g ρ M = .ok (.d (.int ((a * b : Nat) : Int))) M'' := by
  rw [q_mul (cm64 (by omega) (by omega) (by omega) (by omega)) h1 h2, Int.natCast_mul]
theorem n_cdiv (h0 : 0 < b) (hb : b < 2 ^ 64) : cDiv (a : Int) (b : Int) := by
  refine ⟨by omega, ?_⟩
  rw [Int.natAbs_natCast]
  have := (Nat.log2_lt (show b ≠ 0 by omega)).mpr hb
  omega
theorem n_div (h0 : 0 < b) (hb : b < 2 ^ 64) (h1 : f ρ M = .ok (.d (.int (a : Int))) M') (h2 : g ρ M' = .ok (.d (.int (b : Int))) M'') : eBin opDiv f g ρ M = .ok (.d (.int ((a / b : Nat) : Int))) M'' := by
  rw [q_div (n_cdiv h0 hb) h1 h2]; rfl
theorem n_mod (h0 : 0 < b) (h1 : f ρ M = .ok (.d (.int (a : Int))) M') (h2 : g ρ M' = .ok (.d (.int (b : Int))) M'') : eBin opMod f g ρ M = .ok (.d (.int ((a % b : Nat) : Int))) M'' := by
  rw [q_mod (show (0 : Int) < (b : Int) by omega) h1 h2]; rfl
theorem n_max (h1 : f ρ M = .ok (.d (.int (a : Int))) M') (h2 : g ρ M' = .ok (.d (.int (b : Int))) M'') : eB bMax (aCons f (aCons g aNil)) ρ M = .ok (.d (.int ((max a b : Nat) : Int))) M'' := by
  rw [q_max2 h1 h2, show max (a : Int) (b : Int) = ((max a b : Nat) : Int) by omega]
theorem n_gt (h1 : f ρ M = .ok (.d (.int (a : Int))) M') (h2 : g ρ M' = .ok (.d (.int (b : Int))) M'') : tCmpE opGt f g ρ M = .ok (decide (b < a)) M'' := by
  rw [q_gtI h1 h2]; congr 1; rw [decide_eq_decide]; omega
theorem n_ge (h1 : f ρ M = .ok (.d (.int (a : Int))) M') (h2 : g ρ M' = .ok (.d (.int (b : Int))) M'') : tCmpE opGe f g ρ M = .ok (decide (b ≤ a)) M'' := by
  rw [q_geI h1 h2]; congr 1; rw [decide_eq_decide]; omega
theorem n_lt (h1 : f ρ M = .ok (.d (.int (a : Int))) M') (h2 : g ρ M' = .ok (.d (.int (b : Int))) M'') : tCmpE opLt f g ρ M = .ok (decide (a < b)) M'' := by
  rw [q_ltI h1 h2]; congr 1; rw [decide_eq_decide]; omega
theorem n_le (h1 : f ρ M = .ok (.d (.int (a : Int))) M') (h2 : g ρ M' = .ok (.d (.int (b : Int))) M'') : tCmpE opLe f g ρ M = .ok (decide (a ≤ b)) M'' := by
  rw [q_leI h1 h2]; congr 1; rw [decide_eq_decide]; omega
theorem n_eq (h1 : f ρ M = .ok (.d (.int (a : Int))) M') (h2 : g ρ M' = .ok (.d (.int (b : Int))) M'') : tCmpE (opEq false) f g ρ M = .ok (decide (a = b)) M'' := by
  rw [q_eqI h1 h2]; congr 1; rw [decide_eq_decide]; omega
theorem n_ne (h1 : f ρ M = .ok (.d (.int (a : Int))) M') (h2 : g ρ M' = .ok (.d (.int (b : Int))) M'') : tCmpE (opEq true) f g ρ M = .ok (!decide (a = b)) M'' := by
  rw [q_neI h1 h2]; congr 2; rw [decide_eq_decide]; omega
/-- a ≤ b < c -/
theorem n_leLt {i j k : Int} (h1 : f ρ M = .ok (.d (.int i)) M') (h2 : g ρ M' = .ok (.d (.int j)) M'') (h3 : ∀ M, h ρ M = .ok (.d (.int k)) M) : tChainE opLe opLt f g h ρ M = .ok (decide (i ≤ j ∧ j < k)) M'' := by
  by_cases q : i ≤ j
  · simp [tChainE, asB, eChain, h1, h2, h3, bnd, opI2, opLt, q]
  · simp [tChainE, asB, eChain, h1, h2, h3, bnd, opI2, opLt, q]
theorem q_par2 {i j : Nat} {x y : Ev} {x' y' : Ev} (h1 : f ρ M = .ok x M') (h2 : g ρ M' = .ok y M'') (hx : stor x = some x') (hy : stor y = some y') (hi : i < ρ.length) (hj : j < ρ.length) : sPar [i, j] (aCons f (aCons g aNil)) ρ M = .nx (setEvs ρ [i, j] [x', y']) M'' := by
  simp [sPar, q_cons2 h1 h2, sE, stors, hx, hy, hi, hj]
end
end DL

set_option Elab.async false
set_option linter.all false
/-! Rounds of digits: heaps by digits, the theorem that a round goes on for ever. No program in sight. -/
namespace OC
def mex (l : List Nat) : Nat := ((List.range (l.length + 1)).find? fun x => decide (x ∉ l)).getD 0
theorem mex_ex (l : List Nat) : ∃ x, x < l.length + 1 ∧ x ∉ l := by
  refine Classical.byContradiction fun h => ?_
  have hs : List.range (l.length + 1) ⊆ l := fun x hx => Classical.byContradiction fun z => h ⟨x, List.mem_range.mp hx, z⟩
  have := List.Nodup.length_le_of_subset List.nodup_range hs
  rw [List.length_range] at this
  omega
theorem mex_is (l : List Nat) : mex l ∉ l ∧ ∀ y, y < mex l → y ∈ l := by
  unfold mex
  cases e : (List.range (l.length + 1)).find? fun x => decide (x ∉ l) with
  | none =>
    obtain ⟨x, h1, h2⟩ := mex_ex l
    have := List.find?_range_eq_none.mp e x h1
    simp at this
    exact absurd this h2
  | some m =>
    obtain ⟨h1, _, h3⟩ := List.find?_range_eq_some.mp e
    exact ⟨by simpa using h1, fun y hy => by simpa using h3 y hy⟩
theorem mex_uniq {l : List Nat} {m : Nat} (h1 : m ∉ l) (h2 : ∀ y, y < m → y ∈ l) : m = mex l := by
  obtain ⟨k1, k2⟩ := mex_is l
  rcases Nat.lt_trichotomy m (mex l) with h | h | h
  · exact absurd (k2 m h) h1
  · exact h
  · exact absurd (h2 _ h) k1
theorem mex_congr {l l' : List Nat} (h : ∀ x, x ∈ l ↔ x ∈ l') : mex l = mex l' := by
  obtain ⟨k1, k2⟩ := mex_is l
  exact mex_uniq (fun z => k1 ((h _).mpr z)) fun y hy => (h y).mp (k2 y hy)
theorem mex_len (l : List Nat) : mex l ≤ l.length := by
  obtain ⟨x, h1, h2⟩ := mex_ex l
  obtain ⟨k1, k2⟩ := mex_is l
  refine Classical.byContradiction fun z => h2 (k2 x (by omega))
/-- what is reached from a heap of n by the digit g at its place -/
def one (G : Nat → Nat) (n at' g : Nat) : List Nat :=
  (if n = at' + 1 ∧ g % 2 = 1 then [0] else []) ++ (if at' + 1 < n ∧ g / 2 % 2 = 1 then [G (n - at' - 1)] else []) ++ (if at' + 2 < n ∧ g / 4 % 2 = 1 then (List.range ((n - at' - 1) / 2)).map fun i => G (i + 1) ^^^ G (n - at' - 1 - (i + 1)) else [])
def reach (d : List Nat) (n : Nat) (G : Nat → Nat) : List Nat := d.zipIdx.flatMap fun q => one G n q.2 q.1
theorem mem_one {G : Nat → Nat} {n a g x : Nat} : x ∈ one G n a g ↔ (n = a + 1 ∧ g % 2 = 1 ∧ x = 0) ∨ (a + 1 < n ∧ g / 2 % 2 = 1 ∧ x = G (n - a - 1)) ∨ (a + 2 < n ∧ g / 4 % 2 = 1 ∧ ∃ i, 1 ≤ i ∧ i ≤ (n - a - 1) / 2 ∧ x = G i ^^^ G (n - a - 1 - i)) := by
  unfold one
  rw [List.mem_append, List.mem_append]
  constructor
  · rintro ((h | h) | h)
    · split at h
      · rename_i c; exact .inl ⟨c.1, c.2, by simpa using h⟩
      · cases h
    · split at h
      · rename_i c; exact .inr (.inl ⟨c.1, c.2, by simpa using h⟩)
      · cases h
    · split at h
      · rename_i c
        obtain ⟨i, hi, e⟩ := List.mem_map.mp h
        have := List.mem_range.mp hi
        exact .inr (.inr ⟨c.1, c.2, i + 1, by omega, by omega, e.symm⟩)
      · cases h
  · rintro (⟨h1, h2, rfl⟩ | ⟨h1, h2, rfl⟩ | ⟨h1, h2, i, i1, i2, rfl⟩)
    · exact .inl (.inl (by rw [if_pos ⟨h1, h2⟩]; exact List.mem_cons_self))
    · exact .inl (.inr (by rw [if_pos ⟨h1, h2⟩]; exact List.mem_cons_self))
    · refine .inr ?_
      rw [if_pos ⟨h1, h2⟩]
      exact List.mem_map.mpr ⟨i - 1, List.mem_range.mpr (by omega), by rw [show i - 1 + 1 = i by omega]⟩
theorem mem_reach {d : List Nat} {n : Nat} {G : Nat → Nat} {x : Nat} : x ∈ reach d n G ↔ ∃ a g, d[a]? = some g ∧ x ∈ one G n a g := by
  unfold reach
  rw [List.mem_flatMap]
  constructor
  · rintro ⟨⟨g, a⟩, h, hx⟩
    exact ⟨a, g, List.mem_zipIdx_iff_getElem?.mp h, hx⟩
  · rintro ⟨a, g, h, hx⟩
    exact ⟨(g, a), List.mem_zipIdx_iff_getElem?.mpr h, hx⟩
def rows (d : List Nat) : Nat → List Nat
  | 0 => []
  | n + 1 => rows d n ++ [mex (reach d n fun i => (rows d n).getD i 0)]
def gr (d : List Nat) (n : Nat) : Nat := (rows d (n + 1)).getD n 0
theorem rows_len (d : List Nat) : ∀ n, (rows d n).length = n
  | 0 => rfl
  | n + 1 => by rw [rows, List.length_append, rows_len d n]; rfl
theorem rows_get (d : List Nat) : ∀ {n i : Nat}, i < n → (rows d n).getD i 0 = gr d i
  | n + 1, i, h => by
    rcases Nat.lt_succ_iff_lt_or_eq.mp h with h | rfl
    · rw [rows, List.getD_eq_getElem?_getD, List.getElem?_append_left (by rw [rows_len]; exact h), ← List.getD_eq_getElem?_getD]
      exact rows_get d h
    · rfl
theorem one_congr {G G' : Nat → Nat} {n a g : Nat} (h : ∀ i, i < n → G i = G' i) (x : Nat) : x ∈ one G n a g ↔ x ∈ one G' n a g := by
  rw [mem_one, mem_one]
  constructor
  · rintro (h1 | ⟨h1, h2, e⟩ | ⟨h1, h2, i, i1, i2, e⟩)
    · exact .inl h1
    · exact .inr (.inl ⟨h1, h2, by rw [e, h _ (by omega)]⟩)
    · exact .inr (.inr ⟨h1, h2, i, i1, i2, by rw [e, h _ (by omega), h _ (by omega)]⟩)
  · rintro (h1 | ⟨h1, h2, e⟩ | ⟨h1, h2, i, i1, i2, e⟩)
    · exact .inl h1
    · exact .inr (.inl ⟨h1, h2, by rw [e, h _ (by omega)]⟩)
    · exact .inr (.inr ⟨h1, h2, i, i1, i2, by rw [e, h _ (by omega), h _ (by omega)]⟩)
theorem gr_eq (d : List Nat) (n : Nat) : gr d n = mex (reach d n (gr d)) := by
  have e : gr d n = mex (reach d n fun i => (rows d n).getD i 0) := by
    unfold gr
    rw [rows, List.getD_eq_getElem?_getD, List.getElem?_append_right (by rw [rows_len]; exact Nat.le_refl _), rows_len, Nat.sub_self]; rfl
  rw [e]
  refine mex_congr fun x => ?_
  rw [mem_reach, mem_reach]
  constructor
  · rintro ⟨a, g, h1, h2⟩; exact ⟨a, g, h1, (one_congr (fun i hi => rows_get d hi) x).mp h2⟩
  · rintro ⟨a, g, h1, h2⟩; exact ⟨a, g, h1, (one_congr (fun i hi => rows_get d hi) x).mpr h2⟩
/-- a round told for so long goes on for ever -/
theorem round_ever {d : List Nat} {b p : Nat} (hp : 1 ≤ p) (h : ∀ i, b ≤ i → i + p < 2 * max b 1 + 2 * p + d.length → gr d (i + p) = gr d i) : ∀ i, b ≤ i → gr d (i + p) = gr d i := by
  intro i
  induction i using Nat.strongRecOn with
  | _ i ih =>
    intro hb
    by_cases hN : i + p < 2 * max b 1 + 2 * p + d.length
    · exact h i hb hN
    · have hB1 : b ≤ max b 1 := Nat.le_max_left _ _
      have hB2 : 1 ≤ max b 1 := Nat.le_max_right _ _
      generalize max b 1 = B at *
      rw [gr_eq d (i + p), gr_eq d i]
      refine mex_congr fun x => ?_
      rw [mem_reach, mem_reach]
      constructor
      · rintro ⟨a, g, h1, h2⟩
        have ha : a < d.length := (List.getElem?_eq_some_iff.mp h1).1
        refine ⟨a, g, h1, ?_⟩
        rw [mem_one] at h2 ⊢
        rcases h2 with ⟨h3, _⟩ | ⟨h3, h4, e⟩ | ⟨h3, h4, j, j1, j2, e⟩
        · omega
        · refine .inr (.inl ⟨by omega, h4, ?_⟩)
          rw [e, show i + p - a - 1 = (i - a - 1) + p by omega]
          exact ih (i - a - 1) (by omega) (by omega)
        · have e2 : gr d (i + p - a - 1 - j) = gr d (i - a - 1 - j) := by
            rw [show i + p - a - 1 - j = (i - a - 1 - j) + p by omega]
            exact ih (i - a - 1 - j) (by omega) (by omega)
          rw [e2] at e
          refine .inr (.inr ⟨by omega, h4, ?_⟩)
          by_cases hj : j ≤ (i - a - 1) / 2
          · exact ⟨j, j1, hj, e⟩
          · refine ⟨i - a - 1 - j, by omega, by omega, ?_⟩
            rw [e, show i - a - 1 - (i - a - 1 - j) = j by omega, Nat.xor_comm]
      · rintro ⟨a, g, h1, h2⟩
        have ha : a < d.length := (List.getElem?_eq_some_iff.mp h1).1
        refine ⟨a, g, h1, ?_⟩
        rw [mem_one] at h2 ⊢
        rcases h2 with ⟨h3, _⟩ | ⟨h3, h4, e⟩ | ⟨h3, h4, j, j1, j2, e⟩
        · omega
        · refine .inr (.inl ⟨by omega, h4, ?_⟩)
          rw [e, show i + p - a - 1 = (i - a - 1) + p by omega]
          exact (ih (i - a - 1) (by omega) (by omega)).symm
        · refine .inr (.inr ⟨by omega, h4, j, j1, by omega, ?_⟩)
          rw [e, show i + p - a - 1 - j = (i - a - 1 - j) + p by omega, ih (i - a - 1 - j) (by omega) (by omega)]
theorem round_far {d : List Nat} {b p : Nat} (h : ∀ i, b ≤ i → gr d (i + p) = gr d i) : ∀ (k i : Nat), b ≤ i → gr d (i + k * p) = gr d i
  | 0, i, _ => by rw [Nat.zero_mul]; rfl
  | k + 1, i, hi => by
    rw [Nat.succ_mul, ← Nat.add_assoc, h _ (by omega)]
    exact round_far h k i hi
end OC

set_option Elab.async false
set_option linter.all false
set_option maxRecDepth 100000
set_option maxHeartbeats 4000000
/-! law k23, plainly: the least number that is missing. -/
namespace K23
open PySem PySem.Spec PyProof.Rows L2 DL
/-- numbers as the text's -/
def nI (n : Nat) : D := .int (n : Int)
theorem vAt_some {κ : Type} [DecidableEq κ] (k : κ) : ∀ (ks : List κ) (l : List D), ks.length = l.length → ((vAt ks l k).isSome = true ↔ k ∈ ks)
  | [], [], _ => by simp [vAt]
  | [], _ :: _, h => by cases h
  | _ :: _, [], h => by cases h
  | q :: ks, x :: l, h => by
    unfold vAt
    by_cases e : q = k
    · subst e; simp
    · have e' : k ≠ q := fun z => e z.symm
      rw [if_neg e, vAt_some k ks l (by simpa using h)]
      simp [e']
theorem mem_putKs {κ : Type} [DecidableEq κ] (ks : List κ) (k x : κ) : x ∈ putKs ks k ↔ x ∈ ks ∨ x = k := by
  unfold putKs
  split
  · rename_i h
    exact ⟨.inl, fun z => z.elim id fun e => e ▸ h⟩
  · simp
/-- a dict of numbers: which ones are its keys -/
def Dn' (ks : List Key) (vs : List D) (l : List Nat) : Prop := ks.length = vs.length ∧ ∀ x : Nat, (Sum.inl (x : Int) : Key) ∈ ks ↔ x ∈ l
theorem Dn'.put {ks : List Key} {vs : List D} {l : List Nat} (h : Dn' ks vs l) (n : Nat) (d : D) : Dn' (putKs ks (.inl (n : Int))) (putVs ks vs (.inl (n : Int)) d) (l ++ [n]) := by
  refine ⟨(putVs_len h.1).1, fun x => ?_⟩
  rw [mem_putKs, h.2 x]
  simp only [List.mem_append, List.mem_singleton]
  constructor
  · rintro (z | z)
    · exact .inl z
    · exact .inr (by have : (x : Int) = (n : Int) := Sum.inl.inj z; omega)
  · rintro (z | rfl)
    · exact .inl z
    · exact .inr rfl
theorem dc_ok {ρ : DL.Env} {M : Mem} {i : Nat} (hi : i < ρ.length) : ∀ (r l : List Nat) (ks : List Key) (vs : List D), Dn' ks vs l → ∃ ks' vs', dcL (.one i) [i] tYesE (eVar i) (eC (.bl true)) ρ ks vs (r.map nI) M = .ok (ks', vs') M ∧ Dn' ks' vs' (l ++ r)
  | [], l, ks, vs, h => ⟨ks, vs, rfl, by rw [List.append_nil]; exact h⟩
  | n :: r, l, ks, vs, h => by
    obtain ⟨ks', vs', e, h'⟩ := dc_ok hi r (l ++ [n]) _ _ (h.put n (.bl true))
    rw [List.append_assoc] at h'
    refine ⟨ks', vs', ?_, h'⟩
    have hw : (wipeE ρ [i]).length = ρ.length := by simp [wipeE]
    have t : tgE (.one i) (wipeE ρ [i]) (nI n) = some ((wipeE ρ [i]).set i (some (.d (nI n)))) := tg1 (by rw [hw]; exact hi)
    have v : eVar i ((wipeE ρ [i]).set i (some (.d (nI n)))) M = .ok (.d (nI n)) M := (At.eq (by rw [hw]; exact hi)).v
    have kk : keyOf (nI n) = some (.inl (n : Int)) := rfl
    rw [List.map_cons]
    simp only [dcL, t, tYesE, noX, bnd, if_true, v, eC, kk]
    exact e
/-- while found in held: found = found + 1 -/
theorem while_ok {B : Ss} {j i : Nat} (hB : B = sAsg j (eBin opAdd (eVar j) (eC (.int 1)))) (hji : i ≠ j) {l : List Nat} {M : Mem} {x : Ev} {ks : List Key} {vs : List D} (hx : (look x = .d (.dK ks vs)) ∨ look x = .dk .pv ks vs ∨ look x = .dk .vw ks vs) (hk : Dn' ks vs l) (hl : l.length < 99) :
    ∀ (m n : Nat) (fu : Nat) (ρ : DL.Env), At ρ i x → OC.mex l = n + m → m < fu → At ρ j (.d (nI n)) → sWhile (fun ρ M => asB (eBin (opDin false) (eVar j) (eVar i) ρ M)) B fu ρ M = .nx (ρ.set j (some (.d (nI (OC.mex l))))) M := by
  subst hB
  have test : ∀ (n : Nat) (ρ : DL.Env), At ρ i x → At ρ j (.d (nI n)) → asB (eBin (opDin false) (eVar j) (eVar i) ρ M) = .ok (decide (n ∈ l)) M := fun n ρ hi hj => by
    have vj : eVar j ρ M = .ok (.d (nI n)) M := hj.v
    have vi : eVar i ρ M = .ok (look x) M := hi.v
    rw [q_bin vj vi]
    have ed : dictIx (look x) (.d (nI n)) = some (vAt ks vs (.inl (n : Int))) := by
      rcases hx with e | e | e <;> (rw [e]; rfl)
    simp only [opDin, ed, Bool.false_eq_true, if_false, asB, bnd]
    have es : (vAt ks vs (Sum.inl (n : Int) : Key)).isSome = decide (n ∈ l) := by
      rw [Bool.eq_iff_iff, vAt_some _ _ _ hk.1, hk.2 n, decide_eq_true_iff]
    rw [es]
    try rfl
  intro m
  induction m with
  | zero =>
    intro n fu ρ hi hm hf hj
    obtain ⟨fu, rfl⟩ : ∃ k, fu = k + 1 := ⟨fu - 1, by omega⟩
    have e : OC.mex l = n := by omega
    have hn : ¬ n ∈ l := by rw [← e]; exact (OC.mex_is l).1
    have t := test n ρ hi hj
    rw [decide_eq_false hn] at t
    have es : ρ.set j (some (.d (nI (OC.mex l)))) = ρ := by
      rw [e]
      refine List.ext_getElem? fun k => ?_
      by_cases hkj : k = j
      · subst hkj
        rw [List.getElem?_set_self hj.lt]; exact hj.symm
      · rw [List.getElem?_set_ne (fun z => hkj z.symm)]
    rw [es]
    simp only [sWhile, sE, t, Bool.false_eq_true, if_false]
  | succ m ih =>
    intro n fu ρ hi hm hf hj
    obtain ⟨fu, rfl⟩ : ∃ k, fu = k + 1 := ⟨fu - 1, by omega⟩
    have hn : n ∈ l := (OC.mex_is l).2 n (by omega)
    have t := test n ρ hi hj
    rw [decide_eq_true hn] at t
    have st : sAsg j (eBin opAdd (eVar j) (eC (.int 1))) ρ M = .nx (ρ.set j (some (.d (nI (n + 1))))) M := by
      refine q_set (x := .d (nI (n + 1))) ?_ rfl hj.lt
      rw [q_bin hj.v rfl]; rfl
    simp only [sWhile, sE, t, if_true, st]
    rw [ih (n + 1) fu (ρ.set j (some (.d (nI (n + 1))))) (hi.ne (Ne.symm hji)) (by omega) (by omega) (At.eq hj.lt)]
    rw [List.set_set]
theorem least_ok {l : List Nat} {M : Mem} {y : Ev} (hy : y = .d (.lst (l.map nI)) ∨ y = .ls .pv (l.map nI) ∨ y = .d (.tup (l.map nI))) (hl : l.length < 99) : F_least_missing [y] M = .ok (nI (OC.mex l)) M := by
  unfold F_least_missing; rw [fnOf_eq]
  obtain ⟨ks, vs, e, hk⟩ := dc_ok (ρ := [some y, none, none, none]) (M := M) (i := 3) (by show 3 < 4; omega) l [] [] [] ⟨rfl, fun x => by simp⟩
  rw [List.nil_append] at hk
  have it : iSeq true (eVar 0) [some y, none, none, none] M = .ok (l.map nI) M := by
    rcases hy with rfl | rfl | rfl <;> rfl
  have s1 : T1_least_missing [some y, none, none, none] M = .nx [some y, some (.d (.dK ks vs)), none, none] M := by
    have ed : eDc (iSeq true (eVar 0)) (.one 3) [3] tYesE (eVar 3) (eC (.bl true)) [some y, none, none, none] M = .ok (.d (.dK ks vs)) M := by
      have hm : (l.map nI).length ≤ DL.most := by rw [List.length_map]; unfold DL.most; omega
      simp only [eDc, it, bnd, if_pos hm, e]
    simp only [T1_least_missing, sSetN, nE, ed, bnd, stor, optR, sE]; rfl
  have s2 : T2_least_missing [some y, some (.d (.dK ks vs)), none, none] M = .nx [some y, some (.d (.dK ks vs)), some (.d (nI 0)), none] M := rfl
  have s3 : T4_least_missing [some y, some (.d (.dK ks vs)), some (.d (nI 0)), none] M = .nx [some y, some (.d (.dK ks vs)), some (.d (nI (OC.mex l))), none] M :=
    while_ok (B := B3_least_missing) (j := 2) (i := 1) rfl (by decide) (x := .d (.dK ks vs)) (.inl rfl) hk hl (OC.mex l) 0 100 _ rfl (by omega) (by have := OC.mex_len l; omega) rfl
  show fnEnd (S_least_missing [some y, none, none, none] M) = _
  rw [S_least_missing, q_nx s1, q_nx s2, q_nx s3]
  rfl
end K23

set_option Elab.async false
set_option linter.all false
set_option maxRecDepth 100000
set_option maxHeartbeats 4000000
/-! law k23, plainly: the law's draws. -/
namespace K23
open PySem PySem.Spec PyProof.Rows L2 DL
def S_drA : Ss := (sIf (bAnd (tCmpE (opEq false) (eBin opIx (eVar 0) (eC (.int 2))) (eC (.int 0))) (tCmpE opLt (eBin opIx (eVar 0) (eC (.int 1))) (eB bLen (aCons (eBin opIx (eVar 0) (eC (.int 0))) aNil)))) (sSeq (sAsg 2 (eBin opIx (eBin opIx (eVar 0) (eC (.int 0))) (eBin opIx (eVar 0) (eC (.int 1))))) (sSeq (sPut 0 (eC (.int 1)) (eBin opAdd (eBin opIx (eVar 0) (eC (.int 1))) (eC (.int 1)))) (sSeq (sPut 0 (eC (.int 3)) (eBin opMod (eB bInt (aCons (eBin opAdd (eBin opAdd (eBin opMulA (eBin opIx (eVar 0) (eC (.int 3))) (eC (.int 69621))) (eBin opMulA (eVar 2) (eC (.int 40692)))) (eC (.int 31))) aNil)) (eC (.int 2147483629)))) (sIf (tCmpE opGe (eVar 2) (eBin opPow (eC (.int 10)) (eC (.int 18)))) (sPut 0 (eC (.int 2)) (eVar 2)) sNext)))) sNext)
def S_drB : Ss := (sIf (tCmpE opGt (eBin opIx (eVar 0) (eC (.int 2))) (eC (.int 0))) (sSeq (sAsg 3 (eBin opMod (eB bInt (aCons (eBin opIx (eVar 0) (eC (.int 2))) aNil)) (eVar 1))) (sSeq (sPut 0 (eC (.int 2)) (eBin opDiv (eBin opIx (eVar 0) (eC (.int 2))) (eVar 1))) (sRet (eVar 3)))) sNext)
def S_drC : Ss := (sSeq (sPut 0 (eC (.int 4)) (eBin opAdd (eBin opIx (eVar 0) (eC (.int 4))) (eC (.int 1)))) (sSeq (sAsg 4 (eBin opMod (eB bInt (aCons (eBin opMulA (eB bInt (aCons (eBin opAdd (eBin opIx (eVar 0) (eC (.int 3))) (eBin opMulA (eC (.int 7919)) (eBin opIx (eVar 0) (eC (.int 4))))) aNil)) (eC (.int 48271))) aNil)) (eC (.int 2147483647)))) (sSeq (sAsg 4 (eBin opMod (eB bInt (aCons (eBin opMulA (eVar 4) (eBin opAdd (eBin opDiv (eVar 4) (eC (.int 1009))) (eC (.int 69621)))) aNil)) (eC (.int 2147483647)))) (sSeq (sAsg 4 (eBin opMod (eB bInt (aCons (eBin opMulA (eVar 4) (eBin opAdd (eBin opDiv (eVar 4) (eC (.int 2003))) (eC (.int 40014)))) aNil)) (eC (.int 2147483563)))) (sRet (eBin opMod (eB bInt (aCons (eBin opDiv (eVar 4) (eC (.int 16))) aNil)) (eVar 1)))))))
def S_draw : Ss := sSeq S_drA (sSeq S_drB S_drC)
def F_draw : Fn := fnOf 5 S_draw
theorem drC {cells : List Int} {B : Nat} {many : Int} (hB : B ≤ 1000000) (hm : 0 < many) (hm2 : many.natAbs.log2 < 9000) (x2 : Option Ev) (p v s c : Int) (hp : 0 ≤ p) (hv : 0 ≤ v) (hs1 : 0 ≤ s) (hs2 : s < 2147483648) (hc1 : 0 ≤ c) (hc2 : c ≤ B) :
    ∃ r M', fnEnd (S_drC [some (.d (.ob 0)), some (.d (.int many)), x2, none, none] [.lst [.ob 1, .int p, .int v, .int s, .int c], .lst (cells.map D.int)]) = .ok (.int r) M' ∧ 0 ≤ r ∧ r < many ∧ Hd cells (B + 1) M' := by
  have e1 : cMul 7919 (c + 1) := cm64 (by omega) (by omega) (by omega) (by omega)
  have e2 : cMul (s + 7919 * (c + 1)) 48271 := cm64 (by omega) (by omega) (by omega) (by omega)
  generalize hn : (s + 7919 * (c + 1)) * 48271 % 2147483647 = n1
  have b1 : 0 ≤ n1 ∧ n1 < 2147483647 := by rw [← hn]; exact ⟨Int.emod_nonneg _ (by omega), Int.emod_lt_of_pos _ (by omega)⟩
  have q1 : 0 ≤ n1 / 1009 ∧ n1 / 1009 ≤ n1 := ⟨Int.ediv_nonneg b1.1 (by omega), Int.ediv_le_self _ b1.1⟩
  have e3 : cMul n1 (n1 / 1009 + 69621) := cm64 (by omega) (by omega) (by omega) (by omega)
  generalize hn2 : n1 * (n1 / 1009 + 69621) % 2147483647 = n2
  have b2 : 0 ≤ n2 ∧ n2 < 2147483647 := by rw [← hn2]; exact ⟨Int.emod_nonneg _ (by omega), Int.emod_lt_of_pos _ (by omega)⟩
  have q2 : 0 ≤ n2 / 2003 ∧ n2 / 2003 ≤ n2 := ⟨Int.ediv_nonneg b2.1 (by omega), Int.ediv_le_self _ b2.1⟩
  have e4 : cMul n2 (n2 / 2003 + 40014) := cm64 (by omega) (by omega) (by omega) (by omega)
  have d1 : cDiv n1 1009 := ⟨by omega, by decide⟩
  have d2 : cDiv n2 2003 := ⟨by omega, by decide⟩
  have d3 : cDiv (n2 * (n2 / 2003 + 40014) % 2147483563) 16 := ⟨by omega, by decide⟩
  refine ⟨n2 * (n2 / 2003 + 40014) % 2147483563 / 16 % many, [.lst [.ob 1, .int p, .int v, .int s, .int (c + 1)], .lst (cells.map D.int)], ?_, Int.emod_nonneg _ (by omega), Int.emod_lt_of_pos _ hm, ⟨p, v, s, c + 1, rfl, hp, hv, hs1, hs2, by omega, by omega⟩⟩
  simp [fnEnd, S_drC, sSeq, sIf, sAsg, sPut, sRet, sE, sNext, tCmpE, asB, eBin, eVar, look, eC, eB, aCons, aNil, bnd, opIx, atI, ixN, opMod, opDiv, opMulA, opMul, bInt, stor, put2, putO, retD, D.bareL, D.bare, opAdd, e1, e2, hn, d1, e3, hn2, d2, e4, d3, hm]
theorem drB {cells : List Int} {B : Nat} {many : Int} (hB : B ≤ 1000000) (hm : 0 < many) (hm2 : many.natAbs.log2 < 9000) (x2 : Option Ev) (p v s c : Int) (hp : 0 ≤ p) (hv : 0 ≤ v) (hs1 : 0 ≤ s) (hs2 : s < 2147483648) (hc1 : 0 ≤ c) (hc2 : c ≤ B) :
    ∃ r M', fnEnd (sSeq S_drB S_drC [some (.d (.ob 0)), some (.d (.int many)), x2, none, none] [.lst [.ob 1, .int p, .int v, .int s, .int c], .lst (cells.map D.int)]) = .ok (.int r) M' ∧ 0 ≤ r ∧ r < many ∧ Hd cells (B + 1) M' := by
  by_cases hv0 : 0 < v
  · have e1 : cDiv v many := ⟨hm, hm2⟩
    refine ⟨v % many, [.lst [.ob 1, .int p, .int (v / many), .int s, .int c], .lst (cells.map D.int)], ?_, Int.emod_nonneg _ (by omega), Int.emod_lt_of_pos _ hm, ⟨p, v / many, s, c, rfl, hp, Int.ediv_nonneg hv (by omega), hs1, hs2, hc1, by omega⟩⟩
    simp [fnEnd, S_drB, sSeq, sIf, sAsg, sPut, sRet, sE, sNext, tCmpE, asB, eBin, eVar, look, eC, eB, aCons, aNil, bnd, opIx, atI, ixN, opMod, opDiv, bInt, stor, put2, putO, retD, D.bareL, D.bare, opI2, hv0, hm, e1]
  · have e0 : S_drB [some (.d (.ob 0)), some (.d (.int many)), x2, none, none] [.lst [.ob 1, .int p, .int v, .int s, .int c], .lst (cells.map D.int)] = .nx [some (.d (.ob 0)), some (.d (.int many)), x2, none, none] [.lst [.ob 1, .int p, .int v, .int s, .int c], .lst (cells.map D.int)] := by
      simp [S_drB, sIf, sE, sNext, tCmpE, asB, eBin, eVar, look, eC, bnd, opIx, atI, ixN, opI2, hv0]
    simp only [sSeq, e0]
    exact drC hB hm hm2 x2 p v s c hp hv hs1 hs2 hc1 hc2
theorem drA {cells : List Int} (hc : ∀ z ∈ cells, 0 ≤ z ∧ Builtin.Int.intBits z ≤ 1048576) {many : Int} (p v s c : Int) (hp : 0 ≤ p) (hv : 0 ≤ v) (hs1 : 0 ≤ s) (hs2 : s < 2147483648) :
    ∃ (x2 : Option Ev) (p' v' s' : Int), S_drA [some (.d (.ob 0)), some (.d (.int many)), none, none, none] [.lst [.ob 1, .int p, .int v, .int s, .int c], .lst (cells.map D.int)] = .nx [some (.d (.ob 0)), some (.d (.int many)), x2, none, none] [.lst [.ob 1, .int p', .int v', .int s', .int c], .lst (cells.map D.int)] ∧ 0 ≤ p' ∧ 0 ≤ v' ∧ 0 ≤ s' ∧ s' < 2147483648 := by
  by_cases h0 : v = 0
  · subst h0
    by_cases h1 : p < (cells.length : Int)
    · obtain ⟨z, hz⟩ : ∃ z, cells[p.toNat]? = some z := ⟨_, List.getElem?_eq_getElem (by omega)⟩
      obtain ⟨z1, z2⟩ := hc z (List.mem_of_getElem? hz)
      have at1 : atI (cells.map D.int) p = some (.int z) := by
        have e : p = (p.toNat : Int) := by omega
        rw [e, atI_get', List.getElem?_map, hz]; rfl
      have e1 : cMul s 69621 := cm64 (by omega) (by omega) (by omega) (by omega)
      have e2 : cMul z 40692 := cmW z2 (by omega) (by omega)
      have b1 : 0 ≤ (s * 69621 + z * 40692 + 31) % 2147483629 ∧ (s * 69621 + z * 40692 + 31) % 2147483629 < 2147483629 := ⟨Int.emod_nonneg _ (by omega), Int.emod_lt_of_pos _ (by omega)⟩
      have e3 : CPow 10 18 := ⟨by omega, by omega, by decide⟩
      have test : (bAnd (tCmpE (opEq false) (eBin opIx (eVar 0) (eC (.int 2))) (eC (.int 0))) (tCmpE opLt (eBin opIx (eVar 0) (eC (.int 1))) (eB bLen (aCons (eBin opIx (eVar 0) (eC (.int 0))) aNil)))) [some (.d (.ob 0)), some (.d (.int many)), none, none, none] [.lst [.ob 1, .int p, .int 0, .int s, .int c], .lst (cells.map D.int)] = .ok true [.lst [.ob 1, .int p, .int 0, .int s, .int c], .lst (cells.map D.int)] := by
        simp [bAnd, tCmpE, asB, eBin, eVar, look, eC, eB, aCons, aNil, bnd, opIx, at_0, at_1, at_2, opEq, eqR, opLt, opI2, bLen, h1]
      by_cases h2 : z < 1000000000000000000
      · have h2' : ¬ (1000000000000000000 ≤ z) := by omega
        refine ⟨some (.d (.int z)), p + 1, 0, (s * 69621 + z * 40692 + 31) % 2147483629, ?_, by omega, by omega, b1.1, by omega⟩
        simp only [S_drA, sIf, sE, test, if_true]
        simp [sIf, tCmpE, sSeq, sAsg, sPut, sE, sNext, asB, eBin, eVar, look, eC, eB, aCons, aNil, bnd, opIx, at_0, at_1, at_2, at_3, at_4, ixN, opMod, opMulA, opMul, bInt, stor, put2, putO, D.bareL, D.bare, opI2, opAdd, at1, e1, e2, e3, h2']
      · have h2' : 1000000000000000000 ≤ z := by omega
        refine ⟨some (.d (.int z)), p + 1, z, (s * 69621 + z * 40692 + 31) % 2147483629, ?_, by omega, by omega, b1.1, by omega⟩
        simp only [S_drA, sIf, sE, test, if_true]
        simp [sIf, tCmpE, sSeq, sAsg, sPut, sE, sNext, asB, eBin, eVar, look, eC, eB, aCons, aNil, bnd, opIx, at_0, at_1, at_2, at_3, at_4, ixN, opMod, opMulA, opMul, bInt, stor, put2, putO, D.bareL, D.bare, opI2, opAdd, at1, e1, e2, e3, h2']
    · refine ⟨none, p, 0, s, ?_, hp, hv, hs1, hs2⟩
      simp [S_drA, sIf, sE, sNext, tCmpE, asB, eBin, eVar, look, eC, eB, aCons, aNil, bnd, bAnd, opIx, at_0, at_1, at_2, at_3, at_4, ixN, opEq, eqR, opLt, bLen, h1]
  · refine ⟨none, p, v, s, ?_, hp, hv, hs1, hs2⟩
    simp [S_drA, sIf, sE, sNext, tCmpE, asB, eBin, eVar, look, eC, bnd, bAnd, opIx, at_0, at_1, at_2, at_3, at_4, ixN, opEq, eqR, h0]
theorem draw_ok {cells : List Int} {B : Nat} {M : Mem} {many : Int} (hc : ∀ z ∈ cells, 0 ≤ z ∧ Builtin.Int.intBits z ≤ 1048576) (h : Hd cells B M) (hB : B ≤ 1000000) (hm : 0 < many) (hm2 : many.natAbs.log2 < 9000) :
    ∃ r M', F_draw [.d (.ob 0), .d (.int many)] M = .ok (.int r) M' ∧ 0 ≤ r ∧ r < many ∧ Hd cells (B + 1) M' := by
  obtain ⟨p, v, s, c, rfl, hp, hv, hs1, hs2, hc1, hc2⟩ := h.ex
  obtain ⟨x2, p', v', s', e, g1, g2, g3, g4⟩ := drA hc (many := many) p v s c hp hv hs1 hs2
  obtain ⟨r, M', e2, r1, r2, r3⟩ := drB hB hm hm2 x2 p' v' s' c g1 g2 g3 g4 hc1 hc2
  refine ⟨r, M', ?_, r1, r2, r3⟩
  unfold F_draw
  rw [fnOf_eq]
  show fnEnd (sSeq S_drA (sSeq S_drB S_drC) [some (.d (.ob 0)), some (.d (.int many)), none, none, none] _) = _
  have e3 : sSeq S_drA (sSeq S_drB S_drC) [some (.d (.ob 0)), some (.d (.int many)), none, none, none] [.lst [.ob 1, .int p, .int v, .int s, .int c], .lst (cells.map D.int)] = sSeq S_drB S_drC [some (.d (.ob 0)), some (.d (.int many)), x2, none, none] [.lst [.ob 1, .int p', .int v', .int s', .int c], .lst (cells.map D.int)] := by
    simp only [sSeq, e]
  rw [e3]
  exact e2
theorem kdraw {cells : List Int} {B : Nat} {M : Mem} {many : Int} (hc : Cl cells) (h : Hd cells B M) (hB : B ≤ 1000000) (hm : 0 < many) (hm2 : many.natAbs.log2 < 9000) :
    ∃ r M', F__law_draw [.d (.ob 0), .d (.int many)] M = .ok (.int r) M' ∧ 0 ≤ r ∧ r < many ∧ Hd cells (B + 1) M' := draw_ok hc h hB hm hm2
theorem ksome {cells : List Int} {B : Nat} {M : Mem} {l : List D} (hc : Cl cells) (h : Hd cells B M) (hB : B ≤ 1000000) (hl : 0 < l.length) (hl2 : l.length < 1000000) :
    ∃ d M', F__law_any [.d (.ob 0), .d (.lst l)] M = .ok d M' ∧ d ∈ l ∧ Hd cells (B + 1) M' := by
  obtain ⟨r, M', e, r0, r1, h'⟩ := kdraw hc h hB (many := (l.length : Int)) (by omega) (log2_small (by simp; omega))
  obtain ⟨j, rfl⟩ : ∃ j : Nat, r = (j : Int) := ⟨r.toNat, by omega⟩
  have hj : j < l.length := by omega
  have e2 : atI l (j : Int) = some l[j] := by rw [atI_get', List.getElem?_eq_getElem hj]
  refine ⟨l[j], M', ?_, List.getElem_mem _, h'⟩
  unfold F__law_any
  rw [fnOf_eq]
  have c := q_call (n := 2) (ρ := [some (.d (.ob 0)), some (.d (.lst l))]) (q_cons2 (show eVar 0 [some (.d (.ob 0)), some (.d (.lst l))] M = .ok (.d (.ob 0)) M from rfl) (q_lenL (show eVar 1 [some (.d (.ob 0)), some (.d (.lst l))] M = .ok (.d (.lst l)) M from rfl))) rfl rfl e
  show fnEnd (S__law_any [some (.d (.ob 0)), some (.d (.lst l))] M) = _
  rw [S__law_any, T1__law_any, q_ret (x := .d l[j]) (M' := M') (d := l[j]) (by
    rw [q_bin (show eVar 1 [some (.d (.ob 0)), some (.d (.lst l))] M = .ok (.d (.lst l)) M from rfl) c]
    simp only [opIx, seqOf, e2]) rfl]
  rfl
theorem iseq : ∀ n, R__law_is n = LN.R_is n
  | 0 => rfl
  | n + 1 => by
    show fnOf 4 (S__law_is (R__law_is n)) = fnOf 4 (LN.S_is (LN.R_is n))
    rw [iseq n]
    rfl
theorem sf_is {d : D} (h : LN.Sf 4 d) (M : Mem) : F__law_is [.d d, .d d] M = .ok (.bl true) M := by
  show R__law_is 4 _ _ = _
  rw [iseq]; exact h M
theorem q_pow10 {ρ : DL.Env} {M : Mem} {k : Nat} (hk : k ≤ 1000) : eBin opPow (eC (.int 10)) (eC (.int (k : Int))) ρ M = .ok (.d (.int ((10 ^ k : Nat) : Int))) M := by
  have c : CPow 10 (k : Int) := ⟨by omega, by omega, by decide⟩
  have e : (10 : Int) ^ (k : Int).toNat = ((10 ^ k : Nat) : Int) := by
    rw [Int.toNat_natCast]
    norm_cast
  simp only [eBin, eC, bnd, opI2, if_pos c, e]
theorem bits_mod (n : Nat) : Builtin.Int.intBits ((n % 10 ^ 40 : Nat) : Int) ≤ 1048576 := by
  have h : n % 10 ^ 40 < 2 ^ 133 := Nat.lt_of_lt_of_le (Nat.mod_lt n (by decide +kernel)) (by decide +kernel)
  generalize n % 10 ^ 40 = m at h
  unfold Builtin.Int.intBits
  by_cases e : m = 0
  · subst e; decide
  · have := (Nat.log2_lt e).mpr h
    have e3 : (((m : Int)) == 0) = false := by simp [e]
    rw [e3, if_neg (by decide), Int.natAbs_natCast]
    omega
theorem hand_ok23 (ns : List Int) (h : ns.length ≤ 63) (d : D) (hd : d = .sc ns ∨ d = .lst (ns.map D.int)) : F__law_hand [.d d] [] = .ok (.lst [.lst ((ns.map fun z => ((z.natAbs % 10 ^ 40 : Nat) : Int)).map D.int), .int 0, .int 0, .int (37 + 7 * (ns.length : Int)), .int 0]) [] := by
  have sl : eSl (eVar 0) oNone (oSome (eC (.int 63))) [some (.d d), none, none] [] = .ok (.d (.lst (ns.map D.int))) [] := by
    have cut : DL.cutD (ns.map D.int) none (some 63) = ns.map D.int := by
      unfold DL.cutD
      rw [HT.sIx_none, List.length_map, sIx63 h]
      exact List.take_of_length_le (by simp)
    rcases hd with rfl | rfl
    · simp [eSl, eVar, look, oNone, oSome, eC, bnd, opSl, cut]
    · simp [eSl, eVar, look, oNone, oSome, eC, bnd, opSl, lstOf, cut]
  have e1 : iSeq true (eSl (eVar 0) oNone (oSome (eC (.int 63)))) [some (.d d), none, none] [] = .ok (ns.map D.int) [] := by
    simp only [iSeq, sl, bnd, itemsOf]
  have lc := lc_one (j := 2) (f := eBin opMod (eB bInt (aCons (eB bAbs (aCons (eB bInt (aCons (eVar 2) aNil)) aNil)) aNil)) (eBin opPow (eC (.int 10)) (eC (.int 40)))) (M := []) D.int (fun z => D.int ((z.natAbs % 10 ^ 40 : Nat) : Int)) e1 (by unfold most; omega) (show 2 < 3 by decide) fun z hz => by
    have v : eVar 2 ([some (.d d), none, none].set 2 (some (.d (.int z)))) [] = .ok (.d (.int z)) [] := rfl
    have a : eB bAbs (aCons (eB bInt (aCons (eVar 2) aNil)) aNil) ([some (.d d), none, none].set 2 (some (.d (.int z)))) [] = .ok (.d (.int (z.natAbs : Int))) [] := by
      rw [q_B (q_cons1 (q_int v))]
      have : (if z < 0 then -z else z) = (z.natAbs : Int) := by split <;> omega
      simp only [bAbs, this]
    have p := q_pow10 (ρ := [some (.d d), none, none].set 2 (some (.d (.int z)))) (M := []) (k := 40) (by omega)
    have hp : (0 : Int) < ((10 ^ 40 : Nat) : Int) := Int.ofNat_lt.mpr (by decide +kernel)
    exact q_mod hp (q_int a) p
  have e3 : (ns.map fun z => D.int ((z.natAbs % 10 ^ 40 : Nat) : Int)) = (ns.map fun z => ((z.natAbs % 10 ^ 40 : Nat) : Int)).map D.int := by
    rw [List.map_map]; rfl
  rw [e3] at lc
  have s1 : T1__law_hand [some (.d d), none, none] [] = .nx [some (.d d), some (.d (.lst ((ns.map fun z => ((z.natAbs % 10 ^ 40 : Nat) : Int)).map D.int))), none] [] := by
    simp only [T1__law_hand, sSetN, nE, eF, lc, bnd, stor, optR, sE]
    rfl
  unfold F__law_hand
  rw [fnOf_eq]
  show fnEnd (S__law_hand [some (.d d), none, none] []) = _
  rw [S__law_hand, q_nx s1]
  generalize hc : (ns.map fun z => ((z.natAbs % 10 ^ 40 : Nat) : Int)) = cells
  have hl : cells.length = ns.length := by rw [← hc, List.length_map]
  have v1 : eVar 1 [some (.d d), some (.d (.lst (cells.map D.int))), none] [] = .ok (.d (.lst (cells.map D.int))) [] := rfl
  have ln := q_lenL v1
  rw [List.length_map, hl] at ln
  have k := q_add (show eC (.int 37) _ [] = .ok (.d (.int 37)) [] from rfl) (q_mul (show cMul 7 (ns.length : Int) from cm64 (by omega) (by omega) (by omega) (by omega)) (show eC (.int 7) [some (.d d), some (.d (.lst (cells.map D.int))), none] [] = .ok (.d (.int 7)) [] from rfl) ln)
  have c5 := q_cons v1 (q_cons (show eC (.int 0) _ [] = .ok (.d (.int 0)) [] from rfl) (q_cons (show eC (.int 0) _ [] = .ok (.d (.int 0)) [] from rfl) (q_cons2 k (show eC (.int 0) _ [] = .ok (.d (.int 0)) [] from rfl))))
  have l5 : eLst (aCons (eVar 1) (aCons (eC (.int 0)) (aCons (eC (.int 0)) (aCons (eBin opAdd (eC (.int 37)) (eBin opMulA (eC (.int 7)) (eB bLen (aCons (eVar 1) aNil)))) (aCons (eC (.int 0)) aNil))))) [some (.d d), some (.d (.lst (cells.map D.int))), none] [] = .ok (.d (.lst [.lst (cells.map D.int), .int 0, .int 0, .int (37 + 7 * (ns.length : Int)), .int 0])) [] := by
    simp only [eLst, c5, bnd]; rfl
  rw [T2__law_hand, q_ret l5 rfl]
  rfl
section
variable {cells : List Int} {B : Nat} {M : Mem}
theorem q_draw {ρ : DL.Env} {i : Nat} {many : Int} {f : Sm Ev} (hc : Cl cells) (h : Hd cells B M) (hB : B ≤ 1000000) (hm : 0 < many) (hm2 : many.natAbs.log2 < 9000) (v0 : eVar i ρ M = .ok (.d (.ob 0)) M) (v1 : f ρ M = .ok (.d (.int many)) M) :
    ∃ (r : Nat) (M' : Mem), eCall 2 F__law_draw (aCons (eVar i) (aCons f aNil)) ρ M = .ok (.d (.int (r : Int))) M' ∧ (r : Int) < many ∧ Hd cells (B + 1) M' := by
  obtain ⟨r, M', e, r0, r1, h'⟩ := kdraw hc h hB hm hm2
  obtain ⟨j, rfl⟩ : ∃ j : Nat, r = (j : Int) := ⟨r.toNat, by omega⟩
  exact ⟨j, M', q_call (n := 2) (q_cons2 v0 v1) rfl rfl e, r1, h'⟩
theorem q_some {ρ : DL.Env} {i : Nat} {l : List D} {f : Sm Ev} (hc : Cl cells) (h : Hd cells B M) (hB : B ≤ 1000000) (hl : 0 < l.length) (hl2 : l.length < 1000000) (v0 : eVar i ρ M = .ok (.d (.ob 0)) M) (v1 : f ρ M = .ok (.d (.lst l)) M) :
    ∃ (d : D) (M' : Mem), eCall 2 F__law_any (aCons (eVar i) (aCons f aNil)) ρ M = .ok (.d d) M' ∧ d ∈ l ∧ Hd cells (B + 1) M' := by
  obtain ⟨d, M', e, hd, h'⟩ := ksome hc h hB hl hl2
  exact ⟨d, M', q_call (n := 2) (q_cons2 v0 v1) rfl rfl e, hd, h'⟩
end
end K23

set_option Elab.async false
set_option linter.all false
set_option maxRecDepth 100000
set_option maxHeartbeats 4000000
/-! Takings from one heap, plainly: numbers, rounds, lost heaps. No program in sight. -/
namespace TK
open OC (mex)
def opts (f : Nat → Nat) (lot : List Nat) (n : Nat) : List Nat := (lot.filter fun t => decide (t ≤ n)).map fun t => f (n - t)
def rows (lot : List Nat) : Nat → List Nat
  | 0 => []
  | n + 1 => rows lot n ++ [mex (opts (fun i => (rows lot n).getD i 0) lot n)]
def G (lot : List Nat) (n : Nat) : Nat := (rows lot (n + 1)).getD n 0
theorem rows_len (d : List Nat) : ∀ n, (rows d n).length = n
  | 0 => rfl
  | n + 1 => by rw [rows, List.length_append, rows_len d n]; rfl
theorem rows_get (d : List Nat) : ∀ {n i : Nat}, i < n → (rows d n).getD i 0 = G d i
  | n + 1, i, h => by
    rcases Nat.lt_succ_iff_lt_or_eq.mp h with h | rfl
    · rw [rows, List.getD_eq_getElem?_getD, List.getElem?_append_left (by rw [rows_len]; exact h), ← List.getD_eq_getElem?_getD]
      exact rows_get d h
    · rfl
theorem rows_eq (d : List Nat) (n : Nat) : rows d n = (List.range n).map (G d) := by
  refine List.ext_getElem? fun i => ?_
  by_cases h : i < n
  · rw [List.getElem?_map, List.getElem?_range h]
    have := rows_get d h
    rw [List.getD_eq_getElem?_getD] at this
    obtain ⟨x, hx⟩ : ∃ x, (rows d n)[i]? = some x := ⟨_, List.getElem?_eq_getElem (by rw [rows_len]; exact h)⟩
    rw [hx] at this ⊢
    exact congrArg some this
  · rw [List.getElem?_eq_none (by rw [rows_len]; omega), List.getElem?_eq_none (by simp; omega)]
theorem opts_congr {f f' : Nat → Nat} {lot : List Nat} {n : Nat} (hp : ∀ t ∈ lot, 1 ≤ t) (h : ∀ i, i < n → f i = f' i) : opts f lot n = opts f' lot n := by
  unfold opts
  refine List.map_congr_left fun t ht => ?_
  have h1 := List.mem_filter.mp ht
  have h2 := hp t h1.1
  have h3 : t ≤ n := by simpa using h1.2
  exact h _ (by omega)
theorem G_eq {lot : List Nat} (hp : ∀ t ∈ lot, 1 ≤ t) (n : Nat) : G lot n = mex (opts (G lot) lot n) := by
  have e : G lot n = mex (opts (fun i => (rows lot n).getD i 0) lot n) := by
    unfold G
    rw [rows, List.getD_eq_getElem?_getD, List.getElem?_append_right (by rw [rows_len]; exact Nat.le_refl _), rows_len, Nat.sub_self]
    rfl
  rw [e, opts_congr hp fun i hi => rows_get lot hi]
theorem G_uniq {lot : List Nat} (hp : ∀ t ∈ lot, 1 ≤ t) {f : Nat → Nat} : ∀ (N : Nat), (∀ n, n < N → f n = mex (opts f lot n)) → ∀ n, n < N → f n = G lot n := by
  intro N h n
  induction n using Nat.strongRecOn with
  | _ n ih =>
    intro hn
    rw [h n hn, G_eq hp n, opts_congr hp fun i hi => ih i hi (by omega)]
theorem G_lt {lot : List Nat} (hp : ∀ t ∈ lot, 1 ≤ t) (n : Nat) : G lot n ≤ lot.length := by
  rw [G_eq hp]
  refine Nat.le_trans (OC.mex_len _) ?_
  unfold opts
  rw [List.length_map]
  exact List.length_filter_le _ _
/-- a lot that may be played: rising, between 1 and 20, `s` its greatest -/
structure Lot (lot : List Nat) (s : Nat) : Prop where
  one : ∀ t ∈ lot, 1 ≤ t ∧ t ≤ s
  ne : lot ≠ []
  s20 : 1 ≤ s ∧ s ≤ 20
  len : lot.length ≤ 12
  last : lot.getLast? = some s
  asc : lot.Pairwise (· < ·)
theorem Lot.pos {lot s} (L : Lot lot s) : ∀ t ∈ lot, 1 ≤ t := fun t ht => (L.one t ht).1
/-- the windows of size s that end at m and n -/
def Win (lot : List Nat) (s m n : Nat) : Prop := ∀ i, i < s → G lot (m - s + i) = G lot (n - s + i)
theorem per_of_win {lot : List Nat} {s m d : Nat} (L : Lot lot s) (hm : s ≤ m) (h : Win lot s m (m + d)) : ∀ j, m - s ≤ j → G lot (j + d) = G lot j := by
  intro j
  induction j using Nat.strongRecOn with
  | _ j ih =>
    intro hj
    by_cases c : j < m
    · have := h (j - (m - s)) (by omega)
      rw [show m - s + (j - (m - s)) = j by omega, show m + d - s + (j - (m - s)) = j + d by omega] at this
      exact this.symm
    · rw [G_eq L.pos (j + d), G_eq L.pos j]
      congr 1
      unfold opts
      have f1 : (lot.filter fun t => decide (t ≤ j + d)) = lot := List.filter_eq_self.mpr fun t ht => by have := L.one t ht; simp; omega
      have f2 : (lot.filter fun t => decide (t ≤ j)) = lot := List.filter_eq_self.mpr fun t ht => by have := L.one t ht; simp; omega
      rw [f1, f2]
      refine List.map_congr_left fun t ht => ?_
      have := L.one t ht
      rw [show j + d - t = (j - t) + d by omega]
      exact ih (j - t) (by omega) (by omega)
/-- from b on the numbers return after p -/
def Per (lot : List Nat) (b p : Nat) : Prop := 1 ≤ p ∧ ∀ j, b ≤ j → G lot (j + p) = G lot j
theorem per_mul {lot : List Nat} {b p : Nat} (h : Per lot b p) : ∀ (k j : Nat), b ≤ j → G lot (j + k * p) = G lot j
  | 0, j, _ => by rw [Nat.zero_mul]; rfl
  | k + 1, j, hj => by
    rw [Nat.succ_mul, ← Nat.add_assoc, h.2 _ (by omega)]
    exact per_mul h k j hj
/-- the place in the row that tells a heap's number -/
def at' (b p h : Nat) : Nat := if h < b then h else b + (h - b) % p
theorem at_lt {b p h : Nat} (hp : 1 ≤ p) : at' b p h < b + p := by
  unfold at'
  split
  · omega
  · have := Nat.mod_lt (h - b) (show p > 0 by omega); omega
theorem at_ok {lot : List Nat} {b p : Nat} (h : Per lot b p) (n : Nat) : G lot (at' b p n) = G lot n := by
  unfold at'
  split
  · rfl
  · have e := per_mul h ((n - b) / p) (b + (n - b) % p) (by omega)
    have k := Nat.mod_add_div (n - b) p
    rw [Nat.mul_comm] at k
    rw [show b + (n - b) % p + (n - b) / p * p = n by omega] at e
    exact e.symm
/-- how many of the numbers are 0 -/
def zr (f : Nat → Nat) (b l : Nat) : Nat := ((List.range l).map fun i => f (b + i)).count 0
theorem zr_add (f : Nat → Nat) (b l k : Nat) : zr f b (l + k) = zr f b l + zr f (b + l) k := by
  unfold zr
  rw [List.range_add, List.map_append, List.count_append, List.map_map]
  congr 2
  refine List.map_congr_left fun i _ => ?_
  show f (b + (l + i)) = f (b + l + i)
  rw [Nat.add_assoc]
theorem zr_congr {f : Nat → Nat} {b b' l : Nat} (h : ∀ i, i < l → f (b + i) = f (b' + i)) : zr f b l = zr f b' l := by
  unfold zr
  congr 1
  exact List.map_congr_left fun i hi => h i (List.mem_range.mp hi)
theorem zr_mul {lot : List Nat} {b p : Nat} (h : Per lot b p) (r : Nat) : ∀ q, zr (G lot) b (q * p + r) = q * zr (G lot) b p + zr (G lot) b r
  | 0 => by simp
  | q + 1 => by
    rw [show (q + 1) * p + r = p + (q * p + r) by rw [Nat.succ_mul]; omega, zr_add, Nat.succ_mul]
    have e : zr (G lot) (b + p) (q * p + r) = zr (G lot) b (q * p + r) := zr_congr fun i _ => by
      rw [show b + p + i = b + i + p by omega]; exact h.2 _ (by omega)
    rw [e, zr_mul h r q]; omega
theorem zr_below {lot : List Nat} {b p n : Nat} (h : Per lot b p) (hn : b ≤ n) : zr (G lot) 0 n = zr (G lot) 0 b + (n - b) / p * zr (G lot) b p + zr (G lot) b ((n - b) % p) := by
  have k := Nat.mod_add_div (n - b) p
  rw [Nat.mul_comm] at k
  have e := zr_add (G lot) 0 b (n - b)
  rw [Nat.zero_add, show b + (n - b) = n by omega] at e
  have e2 := zr_mul h ((n - b) % p) ((n - b) / p)
  rw [show (n - b) / p * p + (n - b) % p = n - b by omega] at e2
  rw [e, e2]; omega
theorem zr_succ (f : Nat → Nat) (n : Nat) : zr f 0 (n + 1) = zr f 0 n + if f n = 0 then 1 else 0 := by
  rw [zr_add, Nat.zero_add]
  congr 1
  unfold zr
  rw [show List.range 1 = [0] from rfl, List.map_singleton, Nat.add_zero]
  by_cases e : f n = 0
  · rw [if_pos e, e]; rfl
  · rw [if_neg e, List.count_eq_zero]
    intro z
    exact e (List.mem_singleton.mp z).symm
/-- every stretch of a round holds a lost heap -/
theorem zr_pos {lot : List Nat} {s b p n : Nat} (L : Lot lot s) (h : Per lot b p) (hn : b ≤ n) : zr (G lot) 0 n + 1 ≤ zr (G lot) 0 (n + p) := by
  rw [zr_add, Nat.zero_add]
  have : 0 < zr (G lot) n p := by
    refine Nat.pos_of_ne_zero fun e => ?_
    unfold zr at e
    rw [List.count_eq_zero] at e
    have k : ∀ j, n ≤ j → G lot j ≠ 0 := fun j hj z => by
      have h' : Per lot n p := ⟨h.1, fun j hj => h.2 j (by omega)⟩
      have a := at_ok h' j
      have l := at_lt (b := n) (h := j) h.1
      have g : n ≤ at' n p j := by unfold at'; rw [if_neg (by omega)]; omega
      refine e (List.mem_map.mpr ⟨at' n p j - n, List.mem_range.mpr (by omega), ?_⟩)
      show G lot (n + (at' n p j - n)) = 0
      rw [show n + (at' n p j - n) = at' n p j by omega, a, z]
    refine k (n + s) (by omega) ?_
    rw [G_eq L.pos]
    refine (OC.mex_uniq (m := 0) (fun z => ?_) fun y hy => by omega).symm
    unfold opts at z
    obtain ⟨t, ht, et⟩ := List.mem_map.mp z
    have h1 := List.mem_filter.mp ht
    have := L.one t h1.1
    exact k (n + s - t) (by omega) et
  omega
/-- a lot made wider -/
theorem wide_G {lot : List Nat} {s k : Nat} (L : Lot lot s) (hk : 1 ≤ k) (n : Nat) : G (lot.map (k * ·)) n = G lot (n / k) := by
  have hp : ∀ t ∈ lot.map (k * ·), 1 ≤ t := fun t ht => by
    obtain ⟨u, hu, rfl⟩ := List.mem_map.mp ht
    exact Nat.mul_pos hk (L.pos u hu)
  refine (G_uniq hp (f := fun n => G lot (n / k)) (n + 1) (fun n _ => ?_) n (by omega)).symm
  show G lot (n / k) = _
  rw [G_eq L.pos]
  congr 1
  unfold opts
  rw [List.filter_map, List.map_map]
  have e : (lot.filter fun t => decide (t ≤ n / k)) = lot.filter ((fun t => decide (t ≤ n)) ∘ (k * ·)) := by
    refine List.filter_congr fun t _ => ?_
    show decide (t ≤ n / k) = decide (k * t ≤ n)
    rw [decide_eq_decide, Nat.le_div_iff_mul_le (by omega), Nat.mul_comm]
  rw [e]
  refine List.map_congr_left fun t _ => ?_
  show G lot (n / k - t) = G lot ((n - k * t) / k)
  rw [Nat.sub_mul_div]
theorem wide_win {lot : List Nat} {s k m n : Nat} (L : Lot lot s) (hk : 1 ≤ k) (hm : s ≤ m) (hn : s ≤ n) (h : Win lot s m n) : Win (lot.map (k * ·)) (k * s) (k * m) (k * n) := by
  intro i hi
  rw [wide_G L hk, wide_G L hk, ← Nat.mul_sub, ← Nat.mul_sub, Nat.mul_add_div (by omega), Nat.mul_add_div (by omega)]
  exact h _ ((Nat.div_lt_iff_lt_mul (by omega)).mpr (by rw [Nat.mul_comm]; exact hi))
end TK

set_option Elab.async false
set_option linter.all false
set_option maxRecDepth 100000
set_option maxHeartbeats 4000000
/-! Takings from one heap, plainly: lots whose rounds are looked up. No program in sight. -/
namespace TK
open OC (mex)
def bitsOf (l : List Nat) : Nat := l.foldl (fun m x => m ||| 1 <<< x) 0
theorem bits_test (l : List Nat) (i : Nat) : (bitsOf l).testBit i = decide (i ∈ l) := by
  have : ∀ (l : List Nat) (m : Nat), (l.foldl (fun m x => m ||| 1 <<< x) m).testBit i = (m.testBit i || decide (i ∈ l)) := by
    intro l
    induction l with
    | nil => intro m; simp
    | cons x l ih =>
      intro m
      rw [List.foldl_cons, ih, Nat.testBit_or, Nat.one_shiftLeft, Nat.testBit_two_pow]
      by_cases e : x = i
      · subst e; simp
      · have e' : ¬ i = x := fun z => e z.symm
        simp [e, e']
  unfold bitsOf
  rw [this, Nat.zero_testBit, Bool.false_or]
theorem bits_mex {l : List Nat} {v : Nat} (h : bitsOf l % 2 ^ (v + 1) = 2 ^ v - 1) : v = mex l := by
  have t : ∀ i, i < v + 1 → decide (i ∈ l) = decide (i < v) := fun i hi => by
    have e := congrArg (fun n => Nat.testBit n i) h
    simp only [Nat.testBit_mod_two_pow, Nat.testBit_two_pow_sub_one, bits_test] at e
    simpa [hi] using e
  refine OC.mex_uniq (fun z => ?_) fun y hy => ?_
  · have := t v (by omega)
    rw [decide_eq_true z] at this
    simp at this
  · have := t y (by omega)
    rw [decide_eq_true hy] at this
    exact of_decide_eq_true this
def isMex (f : Nat → Nat) (lot : List Nat) (n : Nat) : Bool := Nat.beq (bitsOf (opts f lot n) % 2 ^ (f n + 1)) (2 ^ f n - 1)
theorem isMex_ok {f : Nat → Nat} {lot : List Nat} {n : Nat} (h : isMex f lot n = true) : f n = mex (opts f lot n) := bits_mex (Nat.eq_of_beq_eq_true h)
def lotB (lot : List Nat) (s : Nat) : Bool := (lot.all fun t => Nat.ble 1 t && Nat.ble t s) && !lot.isEmpty && Nat.ble 1 s && Nat.ble s 20 && Nat.ble lot.length 12 && (lot.getLast? == some s) && decide (lot.Pairwise (· < ·))
theorem lotB_ok {lot : List Nat} {s : Nat} (h : lotB lot s = true) : Lot lot s := by
  unfold lotB at h
  simp only [Bool.and_eq_true, List.all_eq_true, Nat.ble_eq, Bool.not_eq_true', beq_iff_eq, decide_eq_true_eq] at h
  obtain ⟨⟨⟨⟨⟨⟨h1, h2⟩, h3⟩, h4⟩, h5⟩, h6⟩, h7⟩ := h
  exact ⟨h1, fun z => by rw [z] at h2; simp at h2, ⟨h3, h4⟩, h5, h6, h7⟩
/-! rounds from the first heap on -/
structure Known (lot : List Nat) (s p : Nat) (A : List Nat) : Prop where
  L : Lot lot s
  len : A.length = p
  p1 : 1 ≤ p
  p30 : p ≤ 30
  num : ∀ n, G lot n = A.getD (n % p) 0
  min : ∀ d, 1 ≤ d → d < p → ∃ j, A.getD ((j + d) % p) 0 ≠ A.getD (j % p) 0
def dg (C i : Nat) : Nat := C >>> (4 * i) % 16
def code : List Nat → Nat
  | [] => 0
  | x :: l => code l * 16 + x
theorem dg_code : ∀ (l : List Nat), (∀ x ∈ l, x < 16) → ∀ i, dg (code l) i = l.getD i 0
  | [], _, i => by show 0 >>> (4 * i) % 16 = _; simp
  | x :: l, h, i => by
    have hx := h x List.mem_cons_self
    have ih := dg_code l fun y hy => h y (List.mem_cons_of_mem _ hy)
    show (code l * 16 + x) >>> (4 * i) % 16 = _
    cases i with
    | zero => rw [Nat.mul_zero, Nat.shiftRight_zero, List.getD_cons_zero]; omega
    | succ i =>
      rw [List.getD_cons_succ, ← ih i, show 4 * (i + 1) = 4 + 4 * i by omega, Nat.shiftRight_add]
      show _ = code l >>> (4 * i) % 16
      congr 2
      rw [Nat.shiftRight_eq_div_pow]; omega
def chkC (lot : List Nat) (s p C : Nat) : Bool := lotB lot s && Nat.ble 1 p && Nat.ble p 30 && ((List.range (s + p)).all fun n => isMex (fun i => dg C (i % p)) lot n) && ((List.range p).all fun d => Nat.beq d 0 || (List.range p).any fun j => !Nat.beq (dg C ((j + d) % p)) (dg C (j % p)))
def chkK (lot : List Nat) (s p : Nat) (A : List Nat) : Bool := Nat.beq A.length p && (A.all fun x => Nat.blt x 16) && chkC lot s p (code A)
theorem chk_known {lot : List Nat} {s p : Nat} {A : List Nat} (h : chkK lot s p A = true) : Known lot s p A := by
  unfold chkK chkC at h
  simp only [Bool.and_eq_true, List.all_eq_true, Nat.ble_eq, Nat.blt_eq, Nat.beq_eq, List.mem_range, Bool.or_eq_true, List.any_eq_true, Bool.not_eq_true'] at h
  obtain ⟨⟨h1, h2⟩, ⟨⟨⟨h3, h4⟩, h5⟩, h6⟩, h7⟩ := h
  have L := lotB_ok h3
  have D : ∀ i, dg (code A) i = A.getD i 0 := dg_code A h2
  have F : ∀ n, dg (code A) (n % p) = mex (opts (fun i => dg (code A) (i % p)) lot n) := by
    intro n
    induction n using Nat.strongRecOn with
    | _ n ih =>
      by_cases c : n < s + p
      · exact isMex_ok (h6 n c)
      · have e := ih (n - p) (by omega)
        rw [show n % p = (n - p) % p by rw [← Nat.mod_eq_sub_mod (by omega)], e]
        congr 1
        unfold opts
        have f1 : (lot.filter fun t => decide (t ≤ n)) = lot := List.filter_eq_self.mpr fun t ht => by have := L.one t ht; simp; omega
        have f2 : (lot.filter fun t => decide (t ≤ n - p)) = lot := List.filter_eq_self.mpr fun t ht => by have := L.one t ht; simp; omega
        rw [f1, f2]
        refine List.map_congr_left fun t ht => ?_
        have := L.one t ht
        show dg _ ((n - p - t) % p) = dg _ ((n - t) % p)
        rw [show n - p - t = n - t - p by omega, ← Nat.mod_eq_sub_mod (by omega)]
  refine ⟨L, h1, h4, h5, fun n => ?_, fun d h8 h9 => ?_⟩
  · rw [← D, ← G_uniq L.pos (f := fun i => dg (code A) (i % p)) (n + 1) (fun n _ => F n) n (by omega)]
  · rcases h7 d h9 with e | ⟨j, hj, e⟩
    · omega
    · refine ⟨j, fun z => ?_⟩
      rw [D, D] at e
      rw [z] at e
      simp at e
theorem known_all : ∀ k, k < 12 → chkK (List.range' 1 (k + 1)) (k + 1) (k + 2) (List.range (k + 2)) = true := by decide +kernel
theorem known_one : ∀ k, k < 10 → chkK [k + 1] (k + 1) (2 * (k + 1)) (List.replicate (k + 1) 0 ++ List.replicate (k + 1) 1) = true := by decide +kernel
theorem known_even : ∀ k, k < 10 → chkK [1, 2 * (k + 1)] (2 * (k + 1)) (2 * (k + 1) + 1) ((List.replicate (k + 1) [0, 1]).flatten ++ [2]) = true := by decide +kernel
theorem known_from : ∀ k, k < 10 → ∀ r, r < k + 1 → chkK (List.range' (k + 1) (min 20 (min (k + 12) (2 * (k + 1) - r)) - k)) (min 20 (min (k + 12) (2 * (k + 1) - r))) (k + 1 + min 20 (min (k + 12) (2 * (k + 1) - r))) ((List.range (k + 1 + min 20 (min (k + 12) (2 * (k + 1) - r)))).map (· / (k + 1))) = true := by decide +kernel
theorem known_wide : ∀ k, k < 4 → ∀ m, m < 4 → chkK ((List.range' 1 (k + 1)).map ((m + 2) * ·)) ((m + 2) * (k + 1)) ((m + 2) * (k + 2)) ((List.range (k + 2)).flatMap fun x => List.replicate (m + 2) x) = true := by decide +kernel
/-- odd takings, 1 among them -/
theorem known_odd {lot : List Nat} {s : Nat} (L : Lot lot s) (h1 : 1 ∈ lot) (ho : ∀ t ∈ lot, t % 2 = 1) : Known lot s 2 [0, 1] := by
  have e : ∀ n, [0, 1].getD (n % 2) 0 = n % 2 := fun n => by
    have : n % 2 = 0 ∨ n % 2 = 1 := by omega
    rcases this with e | e <;> rw [e] <;> rfl
  refine ⟨L, rfl, by omega, by omega, fun n => ?_, fun d h8 h9 => ⟨0, ?_⟩⟩
  · rw [e]
    refine (G_uniq L.pos (f := fun n => n % 2) (n + 1) (fun n _ => ?_) n (by omega)).symm
    show n % 2 = _
    refine OC.mex_uniq (fun z => ?_) fun y hy => ?_
    · unfold opts at z
      obtain ⟨t, ht, et⟩ := List.mem_map.mp z
      have a := List.mem_filter.mp ht
      have b := ho t a.1
      have c : t ≤ n := by simpa using a.2
      simp only at et
      omega
    · unfold opts
      refine List.mem_map.mpr ⟨1, List.mem_filter.mpr ⟨h1, by simp; omega⟩, ?_⟩
      simp only
      omega
  · have : d = 1 := by omega
    subst this
    decide
/-! the lots of at most five takings of at most 10 -/
def lotOf (m : Nat) : List Nat := ((List.range 10).filter fun i => m.testBit i).map (· + 1)
def masks : List Nat := (List.range 1024).filter fun m => Nat.ble 1 (lotOf m).length && Nat.ble (lotOf m).length 5
def T : List Nat := [
  0x200c2, 0x2200184, 0x2402143,
  0x222000246, 0x2020142, 0x224002205,
  0x2460241c4, 0x22220000308, 0x20240202245,
  0x22440022286, 0x2402401c3, 0x222400022c7,
  0x20246402022c7, 0x22440022286, 0x24680246245,
  0x22222000003ca, 0x2020201c2, 0x2204200220307,
  0x2402402203, 0x2224400022348, 0x2020201c2,
  0x2244600224307, 0x24602460244, 0x2222400002389,
  0x202464602024348, 0x2244600224307, 0x2402402203,
  0x2224400022348, 0x202464602024348, 0x2244600224307,
  0x2468a024682c6, 0x22222200000048c, 0x202024020202347,
  0x22002200284, 0x240246024024347, 0x2224440002223c9,
  0x202024640202023c9, 0x22406240022403c9, 0x246024602284,
  0x22224400002240a, 0x20240202402c5, 0x224466002244388,
  0x2402468024024388, 0x2224440002223c9, 0x202464020246347,
  0x224466002244388, 0x24680246802c5, 0x22222400000244b,
  0x202024646402020244b, 0x22042604200220444b, 0x240246024024347,
  0x2224440002223c9, 0x202024646402020244b, 0x224466002244388,
  0x246024602284, 0x22224400002240a, 0x202464680202463c9,
  0x224466002244388, 0x2402468a602402440a, 0x2224440002223c9,
  0x202464680202463c9, 0x224466002244388, 0x2222222000000054e,
  0x20202020242, 0x22002240022002409, 0x240240240283,
  0x2220442000222044a, 0x20202020242, 0x2240022400305,
  0x24602460242c4, 0x2222444000022248b, 0x202402402024023c8,
  0x2244062042042042483, 0x240240240283, 0x2224446000222444a,
  0x202464602024643c8, 0x224406284002244048b, 0x24680246802305,
  0x222224400000224cc, 0x20202020242, 0x220426440620022446640022042756,
  0x240240240283, 0x2224446000222444a, 0x20202020242,
  0x22446680022446409, 0x24602460242c4, 0x2222444000022248b,
  0x202464602024643c8, 0x22446680022446409, 0x240240240283,
  0x2224446000222444a, 0x202464602024643c8, 0x22446680022446409,
  0x2222224000000250d, 0x2020246464602020244cc, 0x22002240624002200250d,
  0x240246802402463c8, 0x2224446000222444a, 0x2020246464602020244cc,
  0x22406240022406409, 0x24602460242c4, 0x2222444000022248b,
  0x202402464024020240250d, 0x22446680022446409, 0x240246802402463c8,
  0x2224446000222444a, 0x20246468a020246444a, 0x22446680022446409,
  0x222224400000224cc, 0x2020246464602020244cc, 0x220426446600220424cc,
  0x2402468a68024024648b, 0x2224446000222444a, 0x2020246464602020244cc,
  0x22446680022446409, 0x2222444000022248b, 0x20246468a020246444a,
  0x22446680022446409, 0x2224446000222444a, 0x2222222200000000610,
  0x2020202402020202449, 0x220022440022002248a, 0x24024024022c3,
  0x22200422000222004cb, 0x2020202464020202024cb, 0x22400224002345,
  0x2460246802460246449, 0x222244440000222250c, 0x202402024640202402050c,
  0x224400224400386, 0x24024024022c3, 0x2224046260002224050c,
  0x202464020246403c7, 0x224400224400386, 0x246802468024345,
  0x222224440000022254d, 0x2020202464640202020254d, 0x220420420022042048a,
  0x24024024022c3, 0x22244466000222444cb, 0x2020202464640202020254d,
  0x224460826082446002246604280624460022991, 0x24602468a0246024648a, 0x222244440000222250c,
  0x2024646802024646449, 0x224460820420420420503, 0x24024024022c3,
  0x22244466000222444cb, 0x2024646802024646449, 0x22446082a460022446054d,
  0x222222440000002258e, 0x202024020202403c7, 0x2200224466440022002258e,
  0x240246024024603c7, 0x22244466000222444cb, 0x2020246402020246449,
  0x2240624406240022406258e, 0x2460246802460246449, 0x222244440000222250c,
  0x202402024640202402050c, 0x224466880022446648a, 0x2402468a60240246848a,
  0x22244466000222444cb, 0x202464020246403c7, 0x224466880022446648a,
  0x222224440000022254d, 0x2020246464020202464cb, 0x2204264460420022042658e,
  0x240246024024603c7, 0x22244466000222444cb, 0x2020246464020202464cb,
  0x224466880022446648a, 0x222244440000222250c, 0x2024646802024646449,
  0x224466880022446648a, 0x22244466000222444cb, 0x22222224000000025cf,
  0x20202024646464020202025cf, 0x22002244062400224002240645, 0x24024024022c3,
  0x222044260042200422004605, 0x20202024646464020202025cf, 0x22400224002345,
  0x2460246802460246449, 0x222244440000222250c, 0x20240246460260202464864602024024859,
  0x224406284002244064cb, 0x24024024022c3, 0x22244466000222444cb,
  0x20246468a8020246464cb, 0x224406284002244064cb, 0x222224440000022254d,
  0x20202024646464020202025cf, 0x220426440620022644664002204267d7, 0x24024024022c3,
  0x22244466000222444cb, 0x20202024646464020202025cf, 0x224466880022446648a,
  0x222244440000222250c, 0x20246468a8020246464cb, 0x224466880022446648a,
  0x22244466000222444cb, 0x222222440000002258e, 0x2020246464680202024654d,
  0x2200224466440022002258e, 0x2402468a68a0240246850c, 0x22244466000222444cb,
  0x2020246464680202024654d, 0x2240624406240022406258e, 0x222244440000222250c,
  0x20240246468a60202402458e, 0x224466880022446648a, 0x22244466000222444cb,
  0x222224440000022254d, 0x2020246464680202024654d, 0x220426446680022042654d,
  0x22244466000222444cb, 0x222244440000222250c, 0x2222222220000000006d2,
  0x20202020202c2, 0x22002204200220022050b, 0x2402402460240240244ca,
  0x2220002220003c6, 0x20202020202c2, 0x22400224400224002250b,
  0x246024602460344, 0x22220444200002222058d, 0x2024020240202385,
  0x22440022440023c6, 0x240240246802402402450b, 0x222400622400022240058d,
  0x2024640286402024640254c, 0x22440022440023c6, 0x2468024680246385,
  0x2222244440000022225ce, 0x20202020202c2, 0x22042002204200407,
  0x2402402460240240244ca, 0x2224406620402020202020642, 0x20202020202c2,
  0x22446002244600407, 0x246024602460344, 0x22224444600002222458d,
  0x2024646020246460448, 0x22446002244600407, 0x2402402468a602402402458d,
  0x222440662840002224405ce, 0x2024646020246460448, 0x22446002244600407,
  0x22222244400000022260f, 0x202024024640202402024020645, 0x220022042604200220022060f,
  0x240246024024602407, 0x22244466600022244454c, 0x2020246464602020246454c,
  0x224062446600224062454c, 0x246024602460344, 0x22224444600002222458d,
  0x2024020240202385, 0x22446608204264062042640626c8, 0x2402468024024680448,
  0x22244466600022244454c, 0x2024640286402024640254c, 0x224466082a40628406284062685,
  0x2222244440000022225ce, 0x2020246464602020246454c, 0x22042604200220426050b,
  0x240246024024602407, 0x22244466600022244454c, 0x2020246464602020246454c,
  0x224466082a0824062406240626c4, 0x22224444600002222458d, 0x20246468a0202464684ca,
  0x22446608204264860022446606d2, 0x22244466600022244454c, 0x222222244000000022650,
  0x20202020202c2, 0x220022446644600220022460f, 0x240240246802402402450b,
  0x2220442660402020202020642, 0x20202020202c2, 0x22400224406244002240022650,
  0x246024602460344, 0x22224444600002222458d, 0x2024024020240240448,
  0x22440628400224406250b, 0x240240246802402402450b, 0x22244466600022244454c,
  0x2024646020246460448, 0x22440628400224406250b, 0x2222244440000022225ce,
  0x20202020202c2, 0x2204264466082002244664860022042648da, 0x2402402468a680240240245ce,
  0x22244466600022244454c, 0x20202020202c2, 0x22446688a00224466850b,
  0x22224444600002222458d, 0x2024646020246460448, 0x22446688a00224466850b,
  0x22244466600022244454c, 0x22222244400000022260f, 0x2020246464602020246454c,
  0x220022446644600220022460f, 0x2402468024024680448, 0x22244466600022244454c,
  0x2020246464602020246454c, 0x224062446680a2800224466a4800228042664480a280022c5c, 0x22224444600002222458d,
  0x20240246402402024024658d, 0x22446688a00224466850b, 0x22244466600022244454c,
  0x2222244440000022225ce, 0x2020246464602020246454c, 0x2204264466082002244664860022042648da,
  0x22244466600022244454c, 0x22224444600002222458d, 0x222222224000000002691,
  0x202020246464646020202024650, 0x220022446042600224600224002244002240022a4b, 0x2402402460240240244ca,
  0x22200422600422000222004691, 0x202020246464646020202024650, 0x22400224400224002250b,
  0x24602468a0246024684ca, 0x22224444600002222458d, 0x2024020246402464020240202691,
  0x22440022440023c6, 0x2402402468a602402402458d, 0x22240462600022240454c,
  0x2024640286402024640254c, 0x22440022440023c6, 0x2222244440000022225ce,
  0x202020246464646020202024650, 0x220420426042042002204204691, 0x2402402460240240244ca,
  0x22244466600022244454c, 0x202020246464646020202024650, 0x224460826082a44002264806280426640022644062804266c91,
  0x22224444600002222458d, 0x20246468a8a02024646854c, 0x22446082a4600224460858d,
  0x22244466600022244454c, 0x22222244400000022260f, 0x2020240246464024020202402691,
  0x220022446644600220022460f, 0x240246024024602407, 0x22244466600022244454c,
  0x202024646468a0202024645ce, 0x2240624466082a0022446684a00228062446604280022466a446002280624fdb, 0x22224444600002222458d,
  0x2024020246402464020240202691, 0x22446688a00224466850b, 0x22244466600022244454c,
  0x2222244440000022225ce, 0x202024646468a0202024645ce, 0x2204264460420022042645ce,
  0x22244466600022244454c, 0x22224444600002222458d, 0x222222244000000022650,
  0x202020246464646020202024650, 0x220022446644600220022460f, 0x2402402468a68a6024024024650,
  0x2220442660482000222044650, 0x202020246464646020202024650, 0x22400224406244002240022650,
  0x22224444600002222458d, 0x20240246468a6802024024660f, 0x22440628400224406250b,
  0x22244466600022244454c, 0x2222244440000022225ce, 0x202020246464646020202024650,
  0x2204264466880022042645ce, 0x22244466600022244454c, 0x22224444600002222458d,
  0x22222244400000022260f, 0x202024646468a0202024645ce, 0x220022446644600220022460f,
  0x22244466600022244454c, 0x22224444600002222458d, 0x2222244440000022225ce,
  0x22222222220000000000794, 0x2020202024020202020254b, 0x220022002200384,
  0x240240240240343, 0x222000222400022200025cd, 0x20202020246402020202025cd,
  0x2240022446002240022458c, 0x2460246024602384, 0x2222004422000022220060e,
  0x20240202464602602024024024020240240294b, 0x22440022440022406, 0x240240240240343,
  0x22240002224000447, 0x2024640202464020447, 0x22440022440022406,
  0x246802468a024680246854b, 0x2222244444000002222264f, 0x20202020246464020202020264f,
  0x2204200224466002204200264f, 0x240240240240343, 0x222440062244000222440064f,
  0x20202020246464020202020264f, 0x224460022446002447, 0x2460246024602384,
  0x22224044626000022224064f, 0x20246460280240260240240240240783, 0x224460022446002447,
  0x240240240240343, 0x222440062244000222440064f, 0x2024646028a46020246460260e,
  0x224460022446002447, 0x22222244440000002222690, 0x2020240202024640202024020690,
  0x220022002200384, 0x2402460246024024602454b, 0x222444066200422044206420042204428cd,
  0x2020246402020246404c9, 0x2240624062400224062405cd, 0x2460246024602384,
  0x2222444466000022224460e, 0x2024020246468020240202460e, 0x2244660022446600488,
  0x24024680240246802488, 0x22244406628040262404026240407c7, 0x2024640202464020447,
  0x2244660022446600488, 0x2222244444000002222264f, 0x2020246464020202464654b,
  0x2204260426042002204260464f, 0x2402460246024024602454b, 0x22244406620842064206420642744,
  0x2020246464020202464654b, 0x2244660022446600488, 0x2222444466000022224460e,
  0x2024646802024646804c9, 0x2244660022446600488, 0x22244406628840002224440690,
  0x222222244400000002226d1, 0x202020202464646402020202026d1, 0x22002240624062400220022406d1,
  0x240240240240343, 0x2220442664400622004226444066200022244466640002220442ded, 0x202020202464646402020202026d1,
  0x22400224466804260022804260426002260426042600b8d, 0x2460246024602384, 0x2222444466000022224460e,
  0x2024024024020240240254b, 0x2244062042042042042543, 0x240240240240343,
  0x222444666800022244465cd, 0x2024646028a402864602024648026a402864602a13, 0x224406284a0628400224406286d1,
  0x2222244444000002222264f, 0x202020202464646402020202026d1, 0x2204264466002204264458c,
  0x240240240240343, 0x222444666800022244465cd, 0x202020202464646402020202026d1,
  0x22446680a280a24062406240624744, 0x2222444466000022224460e, 0x20246460280260260240240240240783,
  0x22446680a2042042042042603, 0x222444666800022244465cd, 0x22222244440000002222690,
  0x20202464646802020246465cd, 0x22002240624062400220022406d1, 0x24024680240246802488,
  0x222444666800022244465cd, 0x20202464646802020246465cd, 0x2240624062400224062405cd,
  0x2222444466000022224460e, 0x20240246468402a0202402464690, 0x22446680a204264062042640620748,
  0x222444666800022244465cd, 0x2222244444000002222264f, 0x20202464646802020246465cd,
  0x2204264466002204264458c, 0x222444666800022244465cd, 0x2222444466000022224460e,
  0x22222222440000000022712, 0x2020202402020202404c9, 0x220022446644660022002244690,
  0x240240240240343, 0x2220042264046260002220042712, 0x2020202464020202024654b,
  0x2240022446082440022440022440786, 0x2460246802460246804c9, 0x2222444466000022224460e,
  0x2024020246468020240202460e, 0x22440022440022406, 0x240240240240343,
  0x22240462680042260042260042746, 0x2024640202464020447, 0x22440022440022406,
  0x2222244444000002222264f, 0x20202024646402020202465cd, 0x220420426440620620022448648640022042042a5f,
  0x240240240240343, 0x222444666800022244465cd, 0x20202024646402020202465cd,
  0x2244608264800224460825cd, 0x2222444466000022224460e, 0x2024646802024646804c9,
  0x22446082a4600224460825cd, 0x222444666800022244465cd, 0x22222244440000002222690,
  0x2020240202024640202024020690, 0x220022446644660022002244690, 0x2402460246802460240246024690,
  0x222444666800022244465cd, 0x2020246402020246404c9, 0x224062446604260022406244690,
  0x2222444466000022224460e, 0x2024020246468020240202460e, 0x22446688aa002244668858c,
  0x222444666800022244465cd, 0x2222244444000002222264f, 0x2020246464020202464654b,
  0x220426446640620022042644690, 0x222444666800022244465cd, 0x2222444466000022224460e,
  0x222222244400000002226d1, 0x20202024646464020202024664f, 0x220022446644660022002244690,
  0x240240240240343, 0x2220442664480602020282444660402020282464640402020282dcf, 0x20202024646464020202024664f,
  0x22400224466884600224002246d1, 0x2222444466000022224460e, 0x20240246460260202464864602024024648d9,
  0x224406284a0620420420420426c3, 0x222444666800022244465cd, 0x2222244444000002222264f,
  0x20202024646464020202024664f, 0x220426446680a200224466486a002204264499c, 0x222444666800022244465cd,
  0x2222444466000022224460e, 0x22222244440000002222690, 0x20202464646802020246465cd,
  0x220022446644660022002244690, 0x222444666800022244465cd, 0x2222444466000022224460e,
  0x2222244444000002222264f, 0x22222222240000000002753, 0x2020202024646464640202020202753,
  0x220022042604260420022002204753, 0x2402402468024024024654b, 0x22200022240062240002220002753,
  0x2020202024646464640202020202753, 0x2240022446002240022458c, 0x2460246024602384,
  0x22220444260004222004422000422200494d, 0x2024020246460264602024640246460202402024a5f, 0x22440022440022406,
  0x2402402468024024024654b, 0x222400622400022240065cd, 0x20246402864602024640285cd,
  0x22440022440022406, 0x2222244444000002222264f, 0x2020202024646464640202020202753,
  0x2204200224466082406200220624062406200220a8f, 0x2402402468a68024024024660e, 0x22244066284000222440660e,
  0x2020202024646464640202020202753, 0x224460022446002447, 0x2222444466000022224460e,
  0x2024646028a46020246460260e, 0x224460022446002447, 0x22244066284000222440660e,
  0x22222244440000002222690, 0x202024024646460260202024648468460202024024ae1, 0x220022042604260420022002204753,
  0x2402460246024024602454b, 0x222444666800022244465cd, 0x202024646468a8020202464664f,
  0x2240624466002240624458c, 0x2222444466000022224460e, 0x2024020246468a6460202a02024646846460202a02ad2,
  0x224466082a406204264062042640788, 0x222444666800022244465cd, 0x2222244444000002222264f,
  0x202024646468a8020202464664f, 0x2204260426042002204260464f, 0x222444666800022244465cd,
  0x2222444466000022224460e, 0x222222244400000002226d1, 0x2020202024646464640202020202753,
  0x220022446644660022002244690, 0x2402402468024024024654b, 0x22204426644066200022244466640002220482644406620002d5f,
  0x2020202024646464640202020202753, 0x22400224466884600224002246d1, 0x2222444466000022224460e,
  0x2024024024640240240202402402753, 0x224406284a0628400224406286d1, 0x222444666800022244465cd,
  0x2222244444000002222264f, 0x2020202024646464640202020202753, 0x2204264466082002284466486002204264495b,
  0x222444666800022244465cd, 0x2222444466000022224460e, 0x22222244440000002222690,
  0x202024646468a8020202464664f, 0x220022446644660022002244690, 0x222444666800022244465cd,
  0x2222444466000022224460e, 0x2222244444000002222264f, 0x22222222440000000022712,
  0x202020246464646802020202466d1, 0x220022446644660022002244690, 0x2402402468a68a6802402402466d1,
  0x2220042264046260002220042712, 0x202020246464646802020202466d1, 0x2240022446082440022440022440786,
  0x2222444466000022224460e, 0x2024020246468a6460202402024712, 0x22440022440022406,
  0x222404626800a22800422600422600428c6, 0x2222244444000002222264f, 0x202020246464646802020202466d1,
  0x22042042644668860022042042712, 0x222444666800022244465cd, 0x2222444466000022224460e,
  0x22222244440000002222690, 0x202024024646468a60202024024712, 0x220022446644660022002244690,
  0x222444666800022244465cd, 0x2222444466000022224460e, 0x2222244444000002222264f,
  0x222222244400000002226d1, 0x202020246464646802020202466d1, 0x220022446644660022002244690,
  0x2220442664486600022204426d1, 0x2222444466000022224460e, 0x2222244444000002222264f,
  0x22222244440000002222690]
def chkE (lot : List Nat) (s n d S : Nat) : Bool := lotB lot s && Nat.ble 1 d && Nat.ble (s + d) n && Nat.ble n 63 && ((List.range n).all fun k => isMex (fun k => S >>> (4 * (n - 1 - k)) % 16) lot k) && ((List.range s).all fun i => Nat.beq (S >>> (4 * (n - 1 - (n - d - s + i))) % 16) (S >>> (4 * (n - 1 - (n - s + i))) % 16))
def chkG (m E : Nat) : Bool := chkE (lotOf m) ((lotOf m).getLastD 0) (E / 64 % 128) (E % 64) (E / 8192)
theorem T_len : masks.length = T.length := by decide +kernel
theorem T_ok : (masks.zip T).all (fun q => chkG q.1 q.2) = true := by decide +kernel
theorem chkE_ok {lot : List Nat} {s n d S : Nat} (h : chkE lot s n d S = true) : Lot lot s ∧ 1 ≤ d ∧ s + d ≤ n ∧ n ≤ 63 ∧ Win lot s (n - d) n := by
  unfold chkE at h
  simp only [Bool.and_eq_true, List.all_eq_true, Nat.ble_eq, Nat.beq_eq, List.mem_range] at h
  obtain ⟨⟨⟨⟨⟨h1, h2⟩, h3⟩, h4⟩, h5⟩, h6⟩ := h
  have L := lotB_ok h1
  have u := G_uniq L.pos (f := fun k => S >>> (4 * (n - 1 - k)) % 16) n fun k hk => isMex_ok (h5 k hk)
  refine ⟨L, h2, h3, h4, fun i hi => ?_⟩
  rw [← u _ (by omega), ← u _ (by omega)]
  exact h6 i hi
theorem asc_eq : ∀ {l l' : List Nat}, l.Pairwise (· < ·) → l'.Pairwise (· < ·) → (∀ x, x ∈ l ↔ x ∈ l') → l = l'
  | [], [], _, _, _ => rfl
  | [], b :: l', _, _, h => by have := (h b).mpr List.mem_cons_self; cases this
  | a :: l, [], _, _, h => by have := (h a).mp List.mem_cons_self; cases this
  | a :: l, b :: l', h1, h2, h => by
    have p1 := List.pairwise_cons.mp h1
    have p2 := List.pairwise_cons.mp h2
    have e : a = b := by
      have a1 := (h a).mp List.mem_cons_self
      have b1 := (h b).mpr List.mem_cons_self
      rcases List.mem_cons.mp a1 with e | e
      · exact e
      · rcases List.mem_cons.mp b1 with e' | e'
        · exact e'.symm
        · have := p1.1 b e'; have := p2.1 a e; omega
    subst e
    congr 1
    refine asc_eq p1.2 p2.2 fun x => ⟨fun hx => ?_, fun hx => ?_⟩
    · have := (h x).mp (List.mem_cons_of_mem _ hx)
      rcases List.mem_cons.mp this with e | e
      · have := p1.1 x hx; omega
      · exact e
    · have := (h x).mpr (List.mem_cons_of_mem _ hx)
      rcases List.mem_cons.mp this with e | e
      · have := p2.1 x hx; omega
      · exact e
theorem lotOf_asc (m : Nat) : (lotOf m).Pairwise (· < ·) := by
  unfold lotOf
  rw [List.pairwise_map]
  exact ((List.pairwise_lt_range (n := 10)).filter _).imp fun h => by omega
theorem great_lot {l : List Nat} (ha : l.Pairwise (· < ·)) (hm : ∀ t ∈ l, 1 ≤ t ∧ t ≤ 10) (h1 : 1 ≤ l.length) (h5 : l.length ≤ 5) : ∃ s n d, Lot l s ∧ 1 ≤ d ∧ s + d ≤ n ∧ n ≤ 63 ∧ Win l s (n - d) n := by
  have tb : ∀ i, (bitsOf (l.map (· - 1))).testBit i = decide (i + 1 ∈ l) := fun i => by
    rw [bits_test, decide_eq_decide]
    constructor
    · intro z
      obtain ⟨t, ht, e⟩ := List.mem_map.mp z
      have := hm t ht
      rw [show i + 1 = t by omega]; exact ht
    · intro z
      exact List.mem_map.mpr ⟨i + 1, z, by omega⟩
  generalize bitsOf (l.map (· - 1)) = m at tb
  have hlt : m < 1024 := Nat.lt_pow_two_of_testBit (n := 10) m fun i hi => by
    rw [tb, decide_eq_false_iff_not]
    intro z
    have := hm _ z; omega
  have el : lotOf m = l := asc_eq (lotOf_asc m) ha fun x => by
    unfold lotOf
    simp only [List.mem_map, List.mem_filter, List.mem_range, tb, decide_eq_true_eq]
    constructor
    · rintro ⟨i, ⟨_, h⟩, rfl⟩; exact h
    · intro h
      have := hm x h
      exact ⟨x - 1, ⟨by omega, by rw [show x - 1 + 1 = x by omega]; exact h⟩, by omega⟩
  have mm : m ∈ masks := by
    unfold masks
    refine List.mem_filter.mpr ⟨List.mem_range.mpr hlt, ?_⟩
    rw [el]
    simp only [Bool.and_eq_true, Nat.ble_eq]
    exact ⟨h1, h5⟩
  obtain ⟨i, hi, e⟩ := List.getElem_of_mem mm
  have hz : (m, T[i]'(by rw [← T_len]; exact hi)) ∈ masks.zip T := by
    refine List.mem_iff_getElem.mpr ⟨i, by rw [List.length_zip, T_len, Nat.min_self, ← T_len]; exact hi, ?_⟩
    rw [List.getElem_zip, e]
  have k := List.all_eq_true.mp T_ok _ hz
  have := chkE_ok (show chkE (lotOf m) _ _ _ _ = true from k)
  rw [el] at this
  exact ⟨_, _, _, this⟩
end TK

set_option Elab.async false
set_option linter.all false
set_option maxRecDepth 100000
set_option maxHeartbeats 1000000
/-! law k23, plainly: a lot is looked at. -/
namespace K23
open PySem PySem.Spec PyProof.Rows L2 DL
def HL (l : List Nat) : D := .tup (l.map nI)
theorem k1 (i : Int) (ρ : DL.Env) (M : Mem) : eC (.int i) ρ M = .ok (.d (.int i)) M := rfl
theorem kn (n : Nat) (ρ : DL.Env) (M : Mem) : eC (.int (n : Int)) ρ M = .ok (.d (nI n)) M := rfl
theorem isw : F_is_within = DL.W_within := rfl
theorem q_chainI {ρ : DL.Env} {M M' M'' : Mem} {f g h : Sm Ev} {a b c : Int} (h1 : f ρ M = .ok (.d (.int a)) M') (h2 : g ρ M' = .ok (.d (.int b)) M'') (h3 : h ρ M'' = .ok (.d (.int c)) M'') : tChainE opLe opLe f g h ρ M = .ok (decide (a ≤ b ∧ b ≤ c)) M'' := by
  by_cases k : a ≤ b
  · by_cases k' : b ≤ c
    · simp [tChainE, eChain, h1, h2, h3, bnd, opI2, asB, k, k']
    · simp [tChainE, eChain, h1, h2, h3, bnd, opI2, asB, k, k']
  · simp [tChainE, eChain, h1, h2, h3, bnd, opI2, asB, k]
theorem e_chainI {ρ : DL.Env} {M M' M'' : Mem} {f g h : Sm Ev} {a b c : Int} (h1 : f ρ M = .ok (.d (.int a)) M') (h2 : g ρ M' = .ok (.d (.int b)) M'') (h3 : h ρ M'' = .ok (.d (.int c)) M'') : eChain opLe opLe f g h ρ M = .ok (bv (decide (a ≤ b ∧ b ≤ c))) M'' := by
  by_cases k : a ≤ b
  · by_cases k' : b ≤ c
    · simp [eChain, h1, h2, h3, bnd, opI2, k, k']
    · simp [eChain, h1, h2, h3, bnd, opI2, k, k']
  · simp [eChain, h1, h2, h3, bnd, opI2, k]
section
variable {M : Mem}
theorem e_geI {ρ : DL.Env} {M1 M2 : Mem} {f g : Sm Ev} {a b : Int} (h1 : f ρ M = .ok (.d (.int a)) M1) (h2 : g ρ M1 = .ok (.d (.int b)) M2) : eBin opGe f g ρ M = .ok (bv (decide (b ≤ a))) M2 := by
  rw [q_bin h1 h2]; rfl
theorem e_ltI {ρ : DL.Env} {M1 M2 : Mem} {f g : Sm Ev} {a b : Int} (h1 : f ρ M = .ok (.d (.int a)) M1) (h2 : g ρ M1 = .ok (.d (.int b)) M2) : eBin opLt f g ρ M = .ok (bv (decide (a < b))) M2 := by
  rw [q_bin h1 h2]; rfl
theorem e_leI {ρ : DL.Env} {M1 M2 : Mem} {f g : Sm Ev} {a b : Int} (h1 : f ρ M = .ok (.d (.int a)) M1) (h2 : g ρ M1 = .ok (.d (.int b)) M2) : eBin opLe f g ρ M = .ok (bv (decide (a ≤ b))) M2 := by
  rw [q_bin h1 h2]; rfl
theorem integers_ok {l : List Nat} (hl : l.length ≤ most) : F_are_integers [.d (HL l)] M = .ok (.bl true) M := by
  unfold F_are_integers; rw [fnOf_eq]
  have v0 : eVar 0 [some (.d (HL l)), none] M = .ok (.d (HL l)) M := rfl
  have t1 := isi1 (b := "tuple") v0 (a := "tuple") rfl (by decide)
  rw [show isOf "tuple" "tuple" = true by decide] at t1
  have lc := lc_one (i := iSeq true (eVar 0)) (j := 1) (f := eCall 1 F_is_integer (aCons (eVar 1) aNil)) (ρ := [some (.d (HL l)), none]) (M := M) (l := l) nI (fun d => D.bl true) rfl hl (show 1 < 2 by decide) fun d hd =>
    q_call (n := 1) (q_cons1 (show eVar 1 ([some (.d (HL l)), none].set 1 (some (.d (nI d)))) M = .ok (.d (nI d)) M from rfl)) rfl rfl (show F_is_integer [.d (nI d)] M = .ok (.bl true) M from rfl)
  have al := q_all (fun _ => true) (q_F lc)
  rw [show (l.all fun _ => true) = true by simp] at al
  show fnEnd (S_are_integers [some (.d (HL l)), none] M) = _
  rw [S_are_integers, T1_are_integers, q_ret (x := bv true) (M' := M) (d := .bl true) (by rw [q_eand1 t1 rfl]; exact al) rfl]
  rfl
theorem q_slF {ρ : DL.Env} {f g : Sm Ev} {l : List Nat} {k : Nat} {M1 M2 : Mem} (h1 : f ρ M = .ok (.d (HL l)) M1) (h2 : g ρ M1 = .ok (.d (.int (k : Int))) M2) : eSl f (oSome g) oNone ρ M = .ok (.d (HL (l.drop k))) M2 := by
  simp only [eSl, h1, bnd, oNone, oSome, h2]
  show R.ok (Ev.d (.tup (DL.cutD (l.map nI) (some (k : Int)) none))) M2 = _
  have cut_drop : ∀ {α : Type} (l : List α) (k : Nat), DL.cutD l (some (k : Int)) none = l.drop k := fun l k => by
    unfold DL.cutD
    rw [HT.sIx_nat, HT.sIx_none]
    rw [List.take_of_length_le (by rw [List.length_drop]; omega)]
    by_cases h : k ≤ l.length
    · rw [Nat.min_eq_left h]
    · rw [List.drop_eq_nil_of_le (by omega), List.drop_eq_nil_of_le (by omega)]
  rw [cut_drop, ← List.map_drop]; rfl
theorem zip_pairs (l l' : List Nat) : zipL (l.map nI) (l'.map nI) = (l.zip l').map fun q => D.tup [nI q.1, nI q.2] := by
  unfold zipL
  rw [List.zip_map]
  rw [List.map_map]
  rfl
theorem asc_zip : ∀ {l : List Nat}, l.Pairwise (· < ·) → ((l.zip (l.drop 1)).all fun q => decide ((q.1 : Int) < (q.2 : Int))) = true
  | [], _ => rfl
  | [_], _ => rfl
  | a :: b :: l, h => by
    have p := List.pairwise_cons.mp h
    have ih := asc_zip p.2
    show (((a, b) :: (b :: l).zip l).all _) = true
    rw [List.all_cons, Bool.and_eq_true]
    exact ⟨by have := p.1 b List.mem_cons_self; simp; omega, ih⟩
theorem rising_ok {l : List Nat} (hl : l.length ≤ 1000) (ha : l.Pairwise (· < ·)) : F_is_rising [.d (HL l)] M = .ok (.bl true) M := by
  unfold F_is_rising; rw [fnOf_eq]
  have v0 : ∀ x1 x2, eVar 0 [some (.d (HL l)), x1, x2] M = .ok (.d (HL l)) M := fun _ _ => rfl
  have c := q_call (n := 1) (q_cons1 (v0 none none)) rfl rfl (integers_ok (M := M) (l := l) (by unfold most; omega))
  have it : iO (zip2 true) (aCons (eVar 0) (aCons (eSl (eVar 0) (oSome (eC (.int 1))) oNone) aNil)) [some (.d (HL l)), none, none] M = .ok ((l.zip (l.drop 1)).map fun q => D.tup [nI q.1, nI q.2]) M := by
    have e := q_cons2 (v0 none none) (q_slF (k := 1) (v0 none none) (k1 1 _ M))
    simp only [iO, e, bnd]
    show optR (some (zipL (l.map nI) ((l.drop 1).map nI))) M = _
    rw [zip_pairs]; rfl
  have lc := lc_map (g := .many [1, 2]) (vs := [1, 2]) (f := eBin opLt (eVar 1) (eVar 2)) (fun q : Nat × Nat => D.tup [nI q.1, nI q.2]) (fun q => D.bl (decide ((q.1 : Int) < (q.2 : Int)))) it (by rw [List.length_zip]; unfold most; omega) fun q hq => ⟨[some (.d (HL l)), some (.d (nI q.1)), some (.d (nI q.2))], rfl, e_ltI rfl rfl⟩
  have al := q_all (fun q : Nat × Nat => decide ((q.1 : Int) < (q.2 : Int))) (q_F lc)
  rw [asc_zip ha] at al
  show fnEnd (S_is_rising [some (.d (HL l)), none, none] M) = _
  rw [S_is_rising, T1_is_rising, q_ret (x := bv true) (M' := M) (d := .bl true) (by rw [q_eand1 c rfl]; exact al) rfl]
  rfl
theorem is_lot_ok {l : List Nat} {s : Nat} (L : TK.Lot l s) : F_is_lot [.d (HL l)] M = .ok (.bl true) M := by
  unfold F_is_lot; rw [fnOf_eq]
  have v0 : eVar 0 [some (.d (HL l))] M = .ok (.d (HL l)) M := rfl
  have c := q_call (n := 1) (q_cons1 v0) rfl rfl (rising_ok (M := M) (l := l) (by have := L.len; omega) L.asc)
  have ln := q_lenT (show eVar 0 [some (.d (HL l))] M = .ok (.d (.tup (l.map nI))) M from rfl)
  rw [List.length_map] at ln
  have hpos : 0 < l.length := List.length_pos_iff.mpr L.ne
  have c2 := e_chainI (k1 1 [some (.d (HL l))] M) ln (k1 12 _ M)
  rw [show decide ((1 : Int) ≤ (l.length : Int) ∧ (l.length : Int) ≤ 12) = true by have := L.len; rw [decide_eq_true_eq]; omega] at c2
  have i0 : eBin opIx (eVar 0) (eC (.int 0)) [some (.d (HL l))] M = .ok (.d (nI l[0])) M := by
    rw [q_bin v0 (k1 0 _ M)]
    have e : atI (l.map nI) (0 : Int) = some (nI l[0]) := by
      have := atI_get' (l.map nI) 0
      rw [List.getElem?_map, List.getElem?_eq_getElem hpos] at this
      exact this
    show (match seqOf (.d (.tup (l.map nI))) with | _ => _) = _
    simp only [opIx, HL, seqOf, e]
  have c3 := e_geI i0 (k1 1 _ M)
  rw [show decide ((1 : Int) ≤ (l[0] : Nat)) = true by have := (L.one _ (List.getElem_mem hpos)).1; rw [decide_eq_true_eq]; omega] at c3
  have i1 : eBin opIx (eVar 0) (eUn unNeg (eC (.int 1))) [some (.d (HL l))] M = .ok (.d (nI s)) M := by
    rw [q_bin v0 (show eUn unNeg (eC (.int 1)) [some (.d (HL l))] M = .ok (.d (.int (-1))) M from rfl)]
    have e : atI (l.map nI) (-1 : Int) = some (nI s) := by
      have hs := L.last
      rw [List.getLast?_eq_getElem?] at hs
      have k : ixN (l.map nI).length (-1) = some (l.length - 1) := by
        unfold ixN; rw [List.length_map]
        simp; omega
      unfold atI
      rw [k]
      show (l.map nI)[l.length - 1]? = _
      rw [List.getElem?_map, hs]; rfl
    simp only [opIx, HL, seqOf, e]
  have c4 := e_leI i1 (k1 20 _ M)
  rw [show decide ((s : Int) ≤ 20) = true by have := L.s20; rw [decide_eq_true_eq]; omega] at c4
  show fnEnd (S_is_lot [some (.d (HL l))] M) = _
  rw [S_is_lot, T1_is_lot, q_ret (x := bv true) (M' := M) (d := .bl true) (by rw [q_eand1 c rfl, q_eand1 c2 rfl, q_eand1 c3 rfl]; exact c4) rfl]
  rfl
theorem check_ok {l : List Nat} {s : Nat} (L : TK.Lot l s) : F_check_lot [.d (HL l)] M = .ok .non M := by
  unfold F_check_lot; rw [fnOf_eq]
  have c := q_call (n := 1) (q_cons1 (show eVar 0 [some (.d (HL l))] M = .ok (.d (HL l)) M from rfl)) rfl rfl (is_lot_ok (M := M) L)
  show fnEnd (S_check_lot [some (.d (HL l))] M) = _
  rw [S_check_lot, T1_check_lot, q_skip (q_not (b := true) (truV c))]
  rfl
/-- a def's first row: the lot is looked at -/
theorem d_check {l : List Nat} {s : Nat} (L : TK.Lot l s) {ρ : DL.Env} (h : eVar 0 ρ M = .ok (.d (HL l)) M) : sDrop (eCall 1 F_check_lot (aCons (eVar 0) aNil)) ρ M = .nx ρ M :=
  q_drop (q_call (n := 1) (q_cons1 h) rfl rfl (check_ok L))
end
end K23

set_option Elab.async false
set_option linter.all false
set_option maxRecDepth 100000
set_option maxHeartbeats 1000000
/-! law k23, plainly: the row of numbers and its round. -/
namespace K23
open PySem PySem.Spec PyProof.Rows L2 DL
open TK (Lot G rows opts)
theorem cut_drop {α : Type} (l : List α) (k : Nat) : DL.cutD l (some (k : Int)) none = l.drop k := by
  unfold DL.cutD
  rw [HT.sIx_nat, HT.sIx_none]
  rw [List.take_of_length_le (by rw [List.length_drop]; omega)]
  by_cases h : k ≤ l.length
  · rw [Nat.min_eq_left h]
  · rw [List.drop_eq_nil_of_le (by omega), List.drop_eq_nil_of_le (by omega)]
/-- a list however it is held -/
def Hs (x : Ev) (l : List Nat) : Prop := x = .d (.lst (l.map nI)) ∨ x = .ls .vw (l.map nI) ∨ x = .ls .pv (l.map nI)
section
variable {M M' M'' : Mem} {ρ : DL.Env} {f g : Sm Ev} {l : List Nat} {x : Ev} {k : Nat}
theorem Hs.lst (h : Hs x l) : lstOf x = some (l.map nI) := by rcases h with rfl | rfl | rfl <;> rfl
theorem q_ixL (hx : Hs x l) (hk : k < l.length) (h1 : f ρ M = .ok x M') (h2 : g ρ M' = .ok (.d (.int (k : Int))) M'') : eBin opIx f g ρ M = .ok (.d (nI (l.getD k 0))) M'' := by
  have e : atI (l.map nI) (k : Int) = some (nI (l.getD k 0)) := by
    rw [atI_get', List.getElem?_map, List.getD_eq_getElem?_getD, List.getElem?_eq_getElem hk]; rfl
  rw [q_bin h1 h2]
  rcases hx with rfl | rfl | rfl <;> simp only [opIx, seqOf, e]
theorem q_slL (hx : Hs x l) (h1 : f ρ M = .ok x M') (h2 : g ρ M' = .ok (.d (.int (k : Int))) M'') : eSl f (oSome g) oNone ρ M = .ok (.d (.lst ((l.drop k).map nI))) M'' := by
  have e : opSl x (some (k : Int)) none M'' = .ok (.d (.lst (DL.cutD (l.map nI) (some (k : Int)) none))) M'' := by
    rcases hx with rfl | rfl | rfl <;> rfl
  simp only [eSl, h1, bnd, oNone, oSome, h2, e]
  rw [cut_drop, ← List.map_drop]
theorem q_lnL (hx : Hs x l) (h1 : f ρ M = .ok x M') : eB bLen (aCons f aNil) ρ M = .ok (.d (.int (l.length : Int))) M' := by
  rw [q_B (q_cons1 h1)]
  have : (l.length : Int) = ((l.map nI).length : Int) := by rw [List.length_map]
  rw [this]
  rcases hx with rfl | rfl | rfl <;> rfl
theorem q_tupL {l : List D} (h : f ρ M = .ok (.d (.lst l)) M') : eB bTup (aCons f aNil) ρ M = .ok (.d (.tup l)) M' := by
  rw [q_B (q_cons1 h)]; rfl
end
section
variable {M : Mem}
theorem next_ok {lot last : List Nat} (hl : lot.length ≤ 12) (hp : ∀ t ∈ lot, 1 ≤ t) : F_next_number [.d (HL lot), .d (.lst (last.map nI))] M = .ok (nI (OC.mex ((lot.filter fun t => decide (t ≤ last.length)).map fun t => last.getD (last.length - t) 0))) M := by
  unfold F_next_number; rw [fnOf_eq]
  have s1 : T1_next_number [some (.d (HL lot)), some (.d (.lst (last.map nI))), none, none] M = .nx [some (.d (HL lot)), some (.d (.lst (last.map nI))), some (.d (nI last.length)), none] M :=
    q_set (q_lnL (l := last) (.inl rfl) (show eVar 1 [some (.d (HL lot)), some (.d (.lst (last.map nI))), none, none] M = .ok (.d (.lst (last.map nI))) M from rfl)) rfl (show 2 < 4 by decide)
  have lc := lc_flt (i := iSeq true (eVar 0)) (g := .one 3) (vs := [3]) (t := tCmpE opLe (eVar 3) (eVar 2)) (f := eBin opIx (eVar 1) (eBin opSub (eVar 2) (eVar 3))) (ρ := [some (.d (HL lot)), some (.d (.lst (last.map nI))), some (.d (nI last.length)), none]) (M := M) (l := lot) nI (fun t => decide (t ≤ last.length)) (fun t => nI (last.getD (last.length - t) 0)) rfl (by unfold most; omega) fun t ht => ⟨[some (.d (HL lot)), some (.d (.lst (last.map nI))), some (.d (nI last.length)), some (.d (nI t))], rfl, n_le rfl rfl, fun h => by
    have h' : t ≤ last.length := of_decide_eq_true h
    have := hp t ht
    exact q_ixL (l := last) (.inl rfl) (by omega) (show eVar 1 [some (.d (HL lot)), some (.d (.lst (last.map nI))), some (.d (nI last.length)), some (.d (nI t))] M = .ok (.d (.lst (last.map nI))) M from rfl) (n_sub h' rfl rfl)⟩
  have em : ((lot.filter fun t => decide (t ≤ last.length)).map fun t => nI (last.getD (last.length - t) 0)) = ((lot.filter fun t => decide (t ≤ last.length)).map fun t => last.getD (last.length - t) 0).map nI := by rw [List.map_map]; rfl
  rw [em] at lc
  have c := q_call (n := 1) (q_cons1 (q_F lc)) rfl rfl (least_ok (M := M) (.inl rfl) (by rw [List.length_map]; have := List.length_filter_le (fun t => decide (t ≤ last.length)) lot; omega))
  show fnEnd (S_next_number [some (.d (HL lot)), some (.d (.lst (last.map nI))), none, none] M) = _
  rw [S_next_number, q_nx s1, T2_next_number, q_ret c rfl]
  rfl
theorem next_rows {lot : List Nat} {s : Nat} (L : Lot lot s) (n : Nat) : F_next_number [.d (HL lot), .d (.lst (((rows lot n).drop (n - 20)).map nI))] M = .ok (nI (G lot n)) M := by
  rw [next_ok L.len L.pos, TK.G_eq L.pos]
  have e : (lot.filter fun t => decide (t ≤ ((rows lot n).drop (n - 20)).length)) = lot.filter fun t => decide (t ≤ n) := List.filter_congr fun t ht => by
    rw [List.length_drop, TK.rows_len, decide_eq_decide]
    have := L.one t ht; have := L.s20
    omega
  rw [e]
  unfold opts
  congr 3
  refine List.map_congr_left fun t ht => ?_
  have h1 := List.mem_filter.mp ht
  have h2 : t ≤ n := by simpa using h1.2
  have h3 := L.one t h1.1
  have h4 := L.s20
  rw [List.length_drop, TK.rows_len, List.getD_eq_getElem?_getD, List.getElem?_drop, ← List.getD_eq_getElem?_getD, show n - 20 + (n - (n - 20) - t) = n - t by omega]
  exact TK.rows_get lot (by omega)
/-- one more number -/
theorem app_next {lot : List Nat} {s : Nat} (L : Lot lot s) {ρ : DL.Env} {j n : Nat} {f : Sm Ev} (hn : n < 900000) (h0 : eVar 0 ρ M = .ok (.d (HL lot)) M) (hj : At ρ j (.ls .own ((rows lot n).map nI))) (hf : f ρ M = .ok (.d (.int (n : Int))) M) :
    sApp j (eCall 2 F_next_number (aCons (eVar 0) (aCons (eSl (eVar j) (oSome (eB bMax (aCons (eC (.int 0)) (aCons (eBin opSub f (eC (.int 20))) aNil)))) oNone) aNil))) ρ M = .nx (ρ.set j (some (.ls .own ((rows lot (n + 1)).map nI)))) M := by
  have mx := q_max2 (k1 0 ρ M) (q_sub hf (k1 20 ρ M))
  rw [show max (0 : Int) ((n : Int) - 20) = ((n - 20 : Nat) : Int) by omega] at mx
  have sl := q_slL (l := rows lot n) (.inr (.inl rfl)) (hj.v (M := M)) mx
  have c := q_call (n := 2) (q_cons2 h0 sl) rfl rfl (next_rows (M := M) L n)
  rw [q_appO c hj (by rw [List.length_map, TK.rows_len]; unfold most; omega)]
  have e : (rows lot n).map nI ++ [nI (G lot n)] = (rows lot (n + 1)).map nI := by
    rw [TK.rows_eq, TK.rows_eq, List.range_succ, List.map_append, List.map_append]; rfl
  rw [e]
theorem row_ok {lot : List Nat} {s n : Nat} (L : Lot lot s) (hn : n < 800000) : F_row_of [.d (HL lot), .d (nI n)] M = .ok (.lst ((rows lot (n + 1)).map nI)) M := by
  unfold F_row_of; rw [fnOf_eq]
  have s1 : T1_row_of [some (.d (HL lot)), some (.d (nI n)), none, none] M = .nx [some (.d (HL lot)), some (.d (nI n)), some (.ls .own ((rows lot 0).map nI)), none] M := rfl
  obtain ⟨ρ', M', e, rfl, x3, rfl⟩ := forL_inv (g := .one 3) (f := B2_row_of) (fun k ρ M' => M = M' ∧ ∃ x3, ρ = [some (.d (HL lot)), some (.d (nI n)), some (.ls .own ((rows lot k).map nI)), x3]) (rangeL 0 (n + 1) 1) 0 [some (.d (HL lot)), some (.d (nI n)), some (.ls .own ((rows lot 0).map nI)), none] M (fun k d ρ M1 hd hj => by
    obtain ⟨rfl, x3, rfl⟩ := hj
    obtain ⟨hj, rfl⟩ := rangeL_get hd
    rw [Nat.zero_add]
    rw [show (0 : Int) + (k : Int) * 1 = (k : Int) by omega]
    exact ⟨_, _, M, rfl, app_next (ρ := [some (.d (HL lot)), some (.d (nI n)), some (.ls .own ((rows lot k).map nI)), some (.d (nI k))]) (f := eVar 3) L (by omega) rfl rfl rfl, rfl, _, rfl⟩) ⟨rfl, _, rfl⟩
  rw [rangeL_len, Nat.zero_add] at e
  have it := q_rng1 (n := n + 1) (f := eBin opAdd (eVar 1) (eC (.int 1))) (ρ := [some (.d (HL lot)), some (.d (nI n)), some (.ls .own ((rows lot 0).map nI)), none]) (M := M) (M' := M) (by omega) (n_add (a := n) (b := 1) rfl rfl)
  show fnEnd (S_row_of [some (.d (HL lot)), some (.d (nI n)), none, none] M) = _
  rw [S_row_of, q_nx s1, T3_row_of, q_nx (q_for it e)]
  generalize rows lot (n + 1) = R
  rfl
theorem numbers_ok {lot : List Nat} {s n : Nat} (L : Lot lot s) (hn : n ≤ 100000) : F_taking_numbers [.d (HL lot), .d (nI n)] M = .ok (HL (rows lot (n + 1))) M := by
  unfold F_taking_numbers; rw [fnOf_eq]
  have s1 : T1_taking_numbers [some (.d (HL lot)), some (.d (nI n))] M = .nx [some (.d (HL lot)), some (.d (nI n))] M := d_check L rfl
  have c := q_call (n := 3) (ρ := [some (.d (HL lot)), some (.d (nI n))]) (M := M) (q_cons (show eVar 1 [some (.d (HL lot)), some (.d (nI n))] M = .ok (.d (nI n)) M from rfl) (q_cons2 (k1 0 _ M) (k1 100000 _ M))) rfl rfl (show F_is_within _ _ = _ from within_int (i := (n : Int)) (a := 0) (b := 100000) M)
  rw [show decide ((0 : Int) ≤ (n : Int) ∧ (n : Int) ≤ 100000) = true by rw [decide_eq_true_eq]; omega] at c
  have s2 : T2_taking_numbers [some (.d (HL lot)), some (.d (nI n))] M = .nx [some (.d (HL lot)), some (.d (nI n))] M := q_skip (q_not (b := true) (truV c))
  have r := q_tupL (q_call (n := 2) (ρ := [some (.d (HL lot)), some (.d (nI n))]) (M := M) (q_cons2 (show eVar 0 [some (.d (HL lot)), some (.d (nI n))] M = .ok (.d (HL lot)) M from rfl) (show eVar 1 [some (.d (HL lot)), some (.d (nI n))] M = .ok (.d (nI n)) M from rfl)) rfl rfl (row_ok (M := M) L (by omega)))
  show fnEnd (S_taking_numbers [some (.d (HL lot)), some (.d (nI n))] M) = _
  rw [S_taking_numbers, q_nx s1, q_nx s2, T3_taking_numbers, q_ret r rfl]
  rfl
/-- back as far as the numbers agree -/
def walk (g : Nat → Nat) (d : Nat) : Nat → Nat
  | 0 => 0
  | k + 1 => if g k = g (k + d) then walk g d k else k + 1
theorem walk_le (g : Nat → Nat) (d : Nat) : ∀ k, walk g d k ≤ k
  | 0 => Nat.le_refl _
  | k + 1 => by
    unfold walk
    split
    · exact Nat.le_succ_of_le (walk_le g d k)
    · exact Nat.le_refl _
theorem walk_ok (g : Nat → Nat) (d : Nat) : ∀ k i, walk g d k ≤ i → i < k → g i = g (i + d)
  | 0, i, _, h => by omega
  | k + 1, i, h1, h2 => by
    unfold walk at h1
    split at h1
    · rename_i e
      by_cases c : i = k
      · rw [c]; exact e
      · exact walk_ok g d k i h1 (by omega)
    · omega
theorem walk_zero (g : Nat → Nat) (d : Nat) (h : ∀ i, g (i + d) = g i) : ∀ k, walk g d k = 0
  | 0 => rfl
  | k + 1 => by unfold walk; rw [if_pos (h k).symm, walk_zero g d h k]
theorem walk_loop {l : List Nat} {m d : Nat} {x : Ev} (hx : Hs (look x) l) (hl : m + d ≤ l.length) : ∀ (k fu : Nat), k ≤ m → k < fu →
    sWhile (bAnd (tCmpE opGt (eVar 3) (eC (.int 0))) (tCmpE (opEq false) (eBin opIx (eVar 0) (eBin opSub (eVar 3) (eC (.int 1)))) (eBin opIx (eVar 0) (eBin opAdd (eBin opSub (eVar 3) (eC (.int 1))) (eVar 2))))) B2_shortest fu [some x, some (.d (nI m)), some (.d (nI d)), some (.d (nI k))] M = .nx [some x, some (.d (nI m)), some (.d (nI d)), some (.d (nI (walk (fun i => l.getD i 0) d k)))] M
  | 0, fu, _, hf => by
    obtain ⟨fu, rfl⟩ : ∃ k, fu = k + 1 := ⟨fu - 1, by omega⟩
    have t := n_gt (a := 0) (b := 0) (f := eVar 3) (g := eC (.int 0)) (ρ := [some x, some (.d (nI m)), some (.d (nI d)), some (.d (nI 0))]) (M := M) (M' := M) (M'' := M) rfl rfl
    rw [show decide (0 < 0) = false by decide] at t
    simp only [sWhile, sE, q_and0 t, Bool.false_eq_true, if_false]
    rfl
  | k + 1, fu, hk, hf => by
    obtain ⟨fu, rfl⟩ : ∃ k, fu = k + 1 := ⟨fu - 1, by omega⟩
    have t := n_gt (a := k + 1) (b := 0) (f := eVar 3) (g := eC (.int 0)) (ρ := [some x, some (.d (nI m)), some (.d (nI d)), some (.d (nI (k + 1)))]) (M := M) (M' := M) (M'' := M) rfl rfl
    rw [show decide (0 < k + 1) = true by rw [decide_eq_true_eq]; omega] at t
    have v0 : eVar 0 [some x, some (.d (nI m)), some (.d (nI d)), some (.d (nI (k + 1)))] M = .ok (look x) M := rfl
    have sb := n_sub (a := k + 1) (b := 1) (by omega) (show eVar 3 [some x, some (.d (nI m)), some (.d (nI d)), some (.d (nI (k + 1)))] M = .ok (.d (nI (k + 1))) M from rfl) (k1 1 _ M)
    rw [Nat.add_sub_cancel] at sb
    have i1 := q_ixL hx (by omega) v0 sb
    have i2 := q_ixL hx (by omega) v0 (n_add (a := k) (b := d) sb (show eVar 2 [some x, some (.d (nI m)), some (.d (nI d)), some (.d (nI (k + 1)))] M = .ok (.d (nI d)) M from rfl))
    have q := n_eq i1 i2
    by_cases c : l.getD k 0 = l.getD (k + d) 0
    · rw [decide_eq_true c] at q
      have s1 : B2_shortest [some x, some (.d (nI m)), some (.d (nI d)), some (.d (nI (k + 1)))] M = .nx [some x, some (.d (nI m)), some (.d (nI d)), some (.d (nI k))] M := q_set sb rfl (show 3 < 4 by decide)
      have w : walk (fun i => l.getD i 0) d (k + 1) = walk (fun i => l.getD i 0) d k := by
        show (if l.getD k 0 = l.getD (k + d) 0 then _ else _) = _
        rw [if_pos c]
      simp only [sWhile, sE, q_and1 t, q, if_true, s1]
      rw [w]
      exact walk_loop hx hl k fu (by omega) (by omega)
    · rw [decide_eq_false c] at q
      have w : walk (fun i => l.getD i 0) d (k + 1) = k + 1 := by
        show (if l.getD k 0 = l.getD (k + d) 0 then _ else _) = _
        rw [if_neg c]
      simp only [sWhile, sE, q_and1 t, q, Bool.false_eq_true, if_false]
      rw [w]
theorem walk_congr {g g' : Nat → Nat} {d : Nat} : ∀ {k N : Nat}, k + d ≤ N → (∀ i, i < N → g i = g' i) → walk g d k = walk g' d k
  | 0, _, _, _ => rfl
  | k + 1, N, hN, h => by
    unfold walk
    rw [h k (by omega), h (k + d) (by omega), walk_congr (k := k) (by omega) h]
theorem shortest_ok {lot : List Nat} {m d n : Nat} {x : Ev} (hx : Hs (look x) (rows lot n)) (hn : m + d ≤ n) (hm : m < 2999) : F_shortest [x, .d (nI m), .d (nI d)] M = .ok (.tup [nI (walk (G lot) d m), nI d]) M := by
  unfold F_shortest; rw [fnOf_eq]
  have s1 : T1_shortest [some x, some (.d (nI m)), some (.d (nI d)), none] M = .nx [some x, some (.d (nI m)), some (.d (nI d)), some (.d (nI m))] M := rfl
  have s2 := walk_loop (M := M) (m := m) (d := d) hx (by rw [TK.rows_len]; exact hn) m 3000 (Nat.le_refl _) (by omega)
  rw [walk_congr (g' := G lot) (N := n) hn fun i hi => TK.rows_get lot hi] at s2
  show fnEnd (S_shortest [some x, some (.d (nI m)), some (.d (nI d)), none] M) = _
  rw [S_shortest, q_nx s1, T3_shortest, q_nx s2, T4_shortest, q_ret (q_tup2 (show eVar 3 [some x, some (.d (nI m)), some (.d (nI d)), some (.d (nI (walk (G lot) d m)))] M = .ok (.d (nI (walk (G lot) d m))) M from rfl) (show eVar 2 [some x, some (.d (nI m)), some (.d (nI d)), some (.d (nI (walk (G lot) d m)))] M = .ok (.d (nI d)) M from rfl)) rfl]
  rfl
end
end K23

set_option Elab.async false
set_option linter.all false
set_option maxRecDepth 100000
set_option maxHeartbeats 1000000
/-! law k23, plainly: the round is found. -/
namespace K23
open PySem PySem.Spec PyProof.Rows L2 DL
open TK (Lot G rows opts Win)
/-- the key of the window that ends at n -/
def wk (lot : List Nat) (s n : Nat) : List Key := (List.range s).map fun i => (Sum.inl ((G lot (n - s + i) : Nat) : Int) : Key)
theorem wk_eq {lot : List Nat} {s m n : Nat} : wk lot s m = wk lot s n ↔ Win lot s m n := by
  unfold wk Win
  constructor
  · intro h i hi
    have := congrArg (fun l : List Key => l[i]?) h
    simp only [List.getElem?_map, List.getElem?_range hi, Option.map_some] at this
    have := Sum.inl.inj (Option.some.inj this)
    omega
  · intro h
    refine List.map_congr_left fun i hi => ?_
    rw [h i (List.mem_range.mp hi)]
theorem keys_nI : ∀ l : List Nat, keysOf (l.map nI) = some (l.map fun n : Nat => (Sum.inl (n : Int) : Key))
  | [] => rfl
  | n :: l => by
    show (match keyOf (nI n), keysOf (l.map nI) with | some k, some r => some (k :: r) | _, _ => none) = _
    rw [keys_nI l]; rfl
theorem drop_win {lot : List Nat} {s n : Nat} (h : s ≤ n) : (rows lot n).drop (n - s) = (List.range s).map fun i => G lot (n - s + i) := by
  refine List.ext_getElem? fun i => ?_
  rw [List.getElem?_drop, List.getElem?_map]
  by_cases c : i < s
  · rw [TK.rows_eq, List.getElem?_map, List.getElem?_range (by omega), List.getElem?_range c]; rfl
  · rw [List.getElem?_eq_none (by rw [TK.rows_len]; omega), List.getElem?_eq_none (by simp; omega)]; rfl
theorem vAt_map {κ : Type} [DecidableEq κ] (f : Nat → κ) (g : Nat → D) (k : κ) : ∀ L : List Nat, (vAt (L.map f) (L.map g) k = none ∧ ∀ i ∈ L, f i ≠ k) ∨ ∃ i ∈ L, f i = k ∧ vAt (L.map f) (L.map g) k = some (g i)
  | [] => .inl ⟨rfl, fun i h => nomatch h⟩
  | a :: L => by
    by_cases c : f a = k
    · exact .inr ⟨a, List.mem_cons_self, c, by show (if f a = k then _ else _) = _; rw [if_pos c]⟩
    · have e : vAt ((a :: L).map f) ((a :: L).map g) k = vAt (L.map f) (L.map g) k := by show (if f a = k then _ else _) = _; rw [if_neg c]
      rw [e]
      rcases vAt_map f g k L with ⟨h1, h2⟩ | ⟨i, h1, h2, h3⟩
      · exact .inl ⟨h1, fun i hi => by
          rcases List.mem_cons.mp hi with rfl | hi
          · exact c
          · exact h2 i hi⟩
      · exact .inr ⟨i, List.mem_cons_of_mem _ h1, h2, h3⟩
theorem first_is {P : Nat → Prop} : ∀ (N : Nat), P N → ∃ n, n ≤ N ∧ P n ∧ ∀ k, k < n → ¬ P k := by
  intro N
  induction N using Nat.strongRecOn with
  | _ N ih =>
    intro h
    by_cases c : ∃ k, k < N ∧ P k
    · obtain ⟨k, h1, h2⟩ := c
      obtain ⟨n, h3, h4⟩ := ih k h1 h2
      exact ⟨n, by omega, h4⟩
    · exact ⟨N, Nat.le_refl _, h, fun k hk z => c ⟨k, hk, z⟩⟩
/-- the keys that are there after n numbers -/
def ks (lot : List Nat) (s n : Nat) : List (List Key) := (List.range (n - s)).map fun i => wk lot s (s + i)
def vs (s n : Nat) : List D := (List.range (n - s)).map fun i => nI (s + i)
section
variable {M : Mem} {lot : List Nat} {s : Nat}
@[reducible] def eT (lot : List Nat) (s n : Nat) (x4 : Option Ev) : DL.Env := [some (.d (HL lot)), some (.d (nI s)), some (.dt .own (ks lot s n) (vs s n)), some (.ls .own ((rows lot n).map nI)), x4]
theorem tp_len (n : Nat) (x4 : Option Ev) : eB bLen (aCons (eVar 3) aNil) (eT lot s n x4) M = .ok (.d (.int (n : Int))) M := by
  have := q_lnL (l := rows lot n) (.inr (.inl rfl)) (show eVar 3 (eT lot s n x4) M = .ok (.ls .vw ((rows lot n).map nI)) M from rfl)
  rwa [TK.rows_len] at this
theorem tp_dict (n : Nat) : dictIx (.dt .vw (ks lot s n) (vs s n)) (.d (HL ((List.range s).map fun i => G lot (n - s + i)))) = some (vAt (ks lot s n) (vs s n) (wk lot s n)) := by
  show (keysOf (((List.range s).map fun i => G lot (n - s + i)).map nI)).map _ = _
  rw [keys_nI, List.map_map]; rfl
theorem tp_key (n : Nat) (hn : s ≤ n) (x4 : Option Ev) : sAsg 4 (eB bTup (aCons (eSl (eVar 3) (oSome (eBin opSub (eB bLen (aCons (eVar 3) aNil)) (eVar 1))) oNone) aNil)) (eT lot s n x4) M = .nx (eT lot s n (some (.d (HL ((List.range s).map fun i => G lot (n - s + i)))))) M := by
  have sl := q_slL (l := rows lot n) (.inr (.inl rfl)) (show eVar 3 (eT lot s n x4) M = .ok (.ls .vw ((rows lot n).map nI)) M from rfl) (n_sub hn (tp_len n x4) (show eVar 1 (eT lot s n x4) M = .ok (.d (nI s)) M from rfl))
  rw [drop_win hn] at sl
  exact q_set (q_tupL sl) rfl (show 4 < 5 by decide)
theorem tp_test (n : Nat) : (fun ρ M => asB (eBin (opDin false) (eVar 4) (eVar 2) ρ M)) (eT lot s n (some (.d (HL ((List.range s).map fun i => G lot (n - s + i)))))) M = .ok (vAt (ks lot s n) (vs s n) (wk lot s n)).isSome M := by
  show asB _ = _
  rw [q_bin (show eVar 4 (eT lot s n (some (.d (HL ((List.range s).map fun i => G lot (n - s + i)))))) M = .ok (.d (HL ((List.range s).map fun i => G lot (n - s + i)))) M from rfl) (show eVar 2 (eT lot s n (some (.d (HL ((List.range s).map fun i => G lot (n - s + i)))))) M = .ok (.dt .vw (ks lot s n) (vs s n)) M from rfl)]
  simp only [opDin, tp_dict, Bool.false_eq_true, if_false, asB, bnd]
theorem tp_get (n : Nat) {m : Nat} (h : vAt (ks lot s n) (vs s n) (wk lot s n) = some (nI m)) : eBin opDget (eVar 2) (eVar 4) (eT lot s n (some (.d (HL ((List.range s).map fun i => G lot (n - s + i)))))) M = .ok (.d (nI m)) M := by
  rw [q_bin (show eVar 2 (eT lot s n (some (.d (HL ((List.range s).map fun i => G lot (n - s + i)))))) M = .ok (.dt .vw (ks lot s n) (vs s n)) M from rfl) (show eVar 4 (eT lot s n (some (.d (HL ((List.range s).map fun i => G lot (n - s + i)))))) M = .ok (.d (HL ((List.range s).map fun i => G lot (n - s + i)))) M from rfl)]
  simp only [opDget, tp_dict, h]
theorem tp_put (n : Nat) (hn : s ≤ n) (hm : n < 900000) (h : ∀ i, s ≤ i → i < n → wk lot s i ≠ wk lot s n) : sDputT 2 (eVar 4) (eB bLen (aCons (eVar 3) aNil)) (eT lot s n (some (.d (HL ((List.range s).map fun i => G lot (n - s + i)))))) M = .nx [some (.d (HL lot)), some (.d (nI s)), some (.dt .own (ks lot s (n + 1)) (vs s (n + 1))), some (.ls .own ((rows lot n).map nI)), some (.d (HL ((List.range s).map fun i => G lot (n - s + i))))] M := by
  have nk : wk lot s n ∉ ks lot s n := fun z => by
    obtain ⟨i, hi, e⟩ := List.mem_map.mp z
    have := List.mem_range.mp hi
    exact h (s + i) (by omega) (by omega) e
  have e1 : putKs (ks lot s n) (wk lot s n) = ks lot s (n + 1) := by
    unfold putKs; rw [if_neg nk]
    unfold ks
    rw [show n + 1 - s = (n - s) + 1 by omega, List.range_succ, List.map_append, List.map_singleton, show s + (n - s) = n by omega]
  have e2 : putVs (ks lot s n) (vs s n) (wk lot s n) (nI n) = vs s (n + 1) := by
    unfold putVs; rw [if_neg nk]
    unfold vs
    rw [show n + 1 - s = (n - s) + 1 by omega, List.range_succ, List.map_append, List.map_singleton, show s + (n - s) = n by omega]
  have kk : keysOf (((List.range s).map fun i => G lot (n - s + i)).map nI) = some (wk lot s n) := by
    rw [keys_nI, List.map_map]; rfl
  have kl : (ks lot s n).length < most := by unfold ks most; rw [List.length_map, List.length_range]; omega
  have v4 : eVar 4 (eT lot s n (some (.d (HL ((List.range s).map fun i => G lot (n - s + i)))))) M = .ok (.d (HL ((List.range s).map fun i => G lot (n - s + i)))) M := rfl
  unfold sDputT
  simp only [tp_len, sE]
  show dputT2 (eT lot s n (some (.d (HL ((List.range s).map fun i => G lot (n - s + i)))))) M 2 (.d (nI n)) (.d (.tup (((List.range s).map fun i => G lot (n - s + i)).map nI))) = _
  show (match keysOf (((List.range s).map fun i => G lot (n - s + i)).map nI), (eT lot s n (some (.d (HL ((List.range s).map fun i => G lot (n - s + i))))))[2]? with | some key, some (some (.dt .own ks l)) => (if ks.length < most then SR.nx ((eT lot s n (some (.d (HL ((List.range s).map fun i => G lot (n - s + i)))))).set 2 (some (.dt .own (putKs ks key) (putVs ks l key (nI n))))) M else .stuck) | _, _ => .stuck) = _
  rw [kk]
  show (if (ks lot s n).length < most then SR.nx ((eT lot s n (some (.d (HL ((List.range s).map fun i => G lot (n - s + i)))))).set 2 (some (.dt .own (putKs (ks lot s n) (wk lot s n)) (putVs (ks lot s n) (vs s n) (wk lot s n) (nI n))))) M else .stuck) = _
  rw [if_pos kl, e1, e2]
  rfl
/-- a turn that finds nothing -/
theorem tp_turn (L : Lot lot s) (n : Nat) (hm : n < 3000) (h : ∀ i, s ≤ i → i < n → s ≤ n → wk lot s i ≠ wk lot s n) (x4 : Option Ev) : ∃ x4', B3_taking_period (eT lot s n x4) M = .nx (eT lot s (n + 1) x4') M := by
  have t := n_ge (tp_len (lot := lot) (s := s) (M := M) n x4) (show eVar 1 (eT lot s n x4) M = .ok (.d (nI s)) M from rfl)
  by_cases c : s ≤ n
  · rw [decide_eq_true c] at t
    have none' : (vAt (ks lot s n) (vs s n) (wk lot s n)).isSome = false := by
      rcases vAt_map (fun i => wk lot s (s + i)) (fun i => nI (s + i)) (wk lot s n) (List.range (n - s)) with ⟨h1, _⟩ | ⟨i, h1, h2, _⟩
      · unfold ks vs; rw [h1]; rfl
      · have := List.mem_range.mp h1
        exact absurd h2 (h (s + i) (by omega) (by omega) c)
    have tt := tp_test (lot := lot) (s := s) (M := M) n
    rw [none'] at tt
    refine ⟨some (.d (HL ((List.range s).map fun i => G lot (n - s + i)))), ?_⟩
    rw [B3_taking_period]
    refine (q_nx ((q_if1 t).trans ((q_nx (tp_key n c x4)).trans ((q_nx (q_skip tt)).trans (tp_put n c (by omega) fun i h1 h2 => h i h1 h2 c))))).trans ?_
    exact app_next L (by omega) rfl rfl (by
      have := q_lnL (l := rows lot n) (.inr (.inl rfl)) (show eVar 3 [some (.d (HL lot)), some (.d (nI s)), some (.dt .own (ks lot s (n + 1)) (vs s (n + 1))), some (.ls .own ((rows lot n).map nI)), some (.d (HL ((List.range s).map fun i => G lot (n - s + i))))] M = .ok (.ls .vw ((rows lot n).map nI)) M from rfl)
      rwa [TK.rows_len] at this)
  · rw [decide_eq_false c] at t
    refine ⟨x4, ?_⟩
    rw [B3_taking_period, q_nx (q_skip t)]
    have e1 : ks lot s (n + 1) = ks lot s n := by unfold ks; rw [show n + 1 - s = n - s by omega]
    have e2 : vs s (n + 1) = vs s n := by unfold vs; rw [show n + 1 - s = n - s by omega]
    unfold eT
    rw [e1, e2]
    exact app_next L (by omega) rfl rfl (tp_len n x4)
/-- the turn that finds the window again -/
theorem tp_found (L : Lot lot s) (n m : Nat) (hn : n < 2900) (hs : s ≤ m) (hm : m < n) (w : wk lot s m = wk lot s n) (u : ∀ i, s ≤ i → i < n → wk lot s i = wk lot s n → i = m) (x4 : Option Ev) : B3_taking_period (eT lot s n x4) M = .rt (.tup [nI (walk (G lot) (n - m) m), nI (n - m)]) M := by
  have t := n_ge (tp_len (lot := lot) (s := s) (M := M) n x4) (show eVar 1 (eT lot s n x4) M = .ok (.d (nI s)) M from rfl)
  rw [decide_eq_true (show s ≤ n by omega)] at t
  have got : vAt (ks lot s n) (vs s n) (wk lot s n) = some (nI m) := by
    rcases vAt_map (fun i => wk lot s (s + i)) (fun i => nI (s + i)) (wk lot s n) (List.range (n - s)) with ⟨_, h1⟩ | ⟨i, h1, h2, h3⟩
    · refine absurd ?_ (h1 (m - s) (List.mem_range.mpr (by omega)))
      rw [show s + (m - s) = m by omega]; exact w
    · have := List.mem_range.mp h1
      have e := u (s + i) (by omega) (by omega) h2
      rw [← e]; exact h3
  have tt := tp_test (lot := lot) (s := s) (M := M) n
  rw [got] at tt
  have g := tp_get (M := M) n got
  have v3 : eVar 3 (eT lot s n (some (.d (HL ((List.range s).map fun i => G lot (n - s + i)))))) M = .ok (.ls .vw ((rows lot n).map nI)) M := rfl
  have c := q_call (n := 3) (q_cons v3 (q_cons2 g (n_sub (by omega) (tp_len n _) g))) rfl rfl (shortest_ok (lot := lot) (m := m) (d := n - m) (n := n) (M := M) (x := .ls .pv ((rows lot n).map nI)) (.inr (.inr rfl)) (by omega) (by omega))
  rw [B3_taking_period]
  refine q_rt ((q_if1 t).trans ((q_nx (tp_key n (by omega) x4)).trans (q_rt ?_)))
  rw [q_if1 tt]
  exact q_ret c rfl
theorem tp_loop (L : Lot lot s) {n m : Nat} (hn : n < 2900) (hs : s ≤ m) (hm : m < n) (w : wk lot s m = wk lot s n) (u : ∀ i, s ≤ i → i < n → wk lot s i = wk lot s n → i = m) (no : ∀ j, j < n → ∀ i, s ≤ i → i < j → wk lot s i ≠ wk lot s j) :
    ∀ (r k fu : Nat) (x4 : Option Ev), k + r = n → r < fu → sWhile (tCmpE opLe (eB bLen (aCons (eVar 3) aNil)) (eC (.int 100000))) B3_taking_period fu (eT lot s k x4) M = .rt (.tup [nI (walk (G lot) (n - m) m), nI (n - m)]) M
  | 0, k, fu, x4, e, hf => by
    obtain ⟨fu, rfl⟩ : ∃ k, fu = k + 1 := ⟨fu - 1, by omega⟩
    obtain rfl : k = n := by omega
    have t := n_le (b := 100000) (tp_len (lot := lot) (s := s) (M := M) k x4) (k1 100000 _ M)
    rw [decide_eq_true (show k ≤ 100000 by omega)] at t
    simp only [sWhile, sE, t, if_true, tp_found L k m hn hs hm w u]
  | r + 1, k, fu, x4, e, hf => by
    obtain ⟨fu, rfl⟩ : ∃ k, fu = k + 1 := ⟨fu - 1, by omega⟩
    have t := n_le (b := 100000) (tp_len (lot := lot) (s := s) (M := M) k x4) (k1 100000 _ M)
    rw [decide_eq_true (show k ≤ 100000 by omega)] at t
    obtain ⟨x4', b⟩ := tp_turn (M := M) L k (by omega) (fun i h1 h2 _ => no k (by omega) i h1 h2) x4
    simp only [sWhile, sE, t, if_true, b]
    exact tp_loop L hn hs hm w u no r (k + 1) fu x4' (by omega) (by omega)
end
/-- what taking_period tells -/
structure Tp (lot : List Nat) (s n b d : Nat) : Prop where
  per : TK.Per lot b d
  bd : b + d ≤ n
  ex : ∃ m, s ≤ m ∧ m + d ≤ n ∧ Win lot s m (m + d) ∧ b = walk (G lot) d m
  ok : ∀ M, F_taking_period [.d (HL lot)] M = .ok (.tup [nI b, nI d]) M
theorem period_ok {lot : List Nat} {s m0 n0 : Nat} (L : Lot lot s) (h0 : s ≤ m0) (h1 : m0 < n0) (hn : n0 < 2900) (W : Win lot s m0 n0) : ∃ b d, Tp lot s n0 b d := by
  obtain ⟨n, hle, ⟨m, hs, hm, w⟩, hno⟩ := first_is (P := fun n => ∃ m, s ≤ m ∧ m < n ∧ wk lot s m = wk lot s n) n0 ⟨m0, h0, h1, wk_eq.mpr W⟩
  have u : ∀ i, s ≤ i → i < n → wk lot s i = wk lot s n → i = m := fun i a b e => by
    rcases Nat.lt_trichotomy i m with c | c | c
    · exact absurd ⟨i, a, c, e.trans w.symm⟩ (hno m hm)
    · exact c
    · exact absurd ⟨m, hs, c, w.trans e.symm⟩ (hno i b)
  have no : ∀ j, j < n → ∀ i, s ≤ i → i < j → wk lot s i ≠ wk lot s j := fun j hj i a b e => hno j hj ⟨i, a, b, e⟩
  have wl := walk_le (G lot) (n - m) m
  have ww : Win lot s m (m + (n - m)) := by rw [show m + (n - m) = n by omega]; exact wk_eq.mp w
  refine ⟨walk (G lot) (n - m) m, n - m, ⟨by omega, fun j hj => ?_⟩, by omega, ⟨m, hs, by omega, ww, rfl⟩, fun M => ?_⟩
  · by_cases c : j < m
    · exact (walk_ok (G lot) (n - m) m j hj c).symm
    · exact TK.per_of_win L hs ww j (by omega)
  · unfold F_taking_period; rw [fnOf_eq]
    have s1 : T1_taking_period [some (.d (HL lot)), none, none, none, none] M = .nx [some (.d (HL lot)), none, none, none, none] M := d_check L rfl
    have s2 : T2_taking_period [some (.d (HL lot)), none, none, none, none] M = .nx (eT lot s 0 none) M := by
      have i1 : eBin opIx (eVar 0) (eUn unNeg (eC (.int 1))) [some (.d (HL lot)), none, none, none, none] M = .ok (.d (nI s)) M := by
        rw [q_bin (show eVar 0 [some (.d (HL lot)), none, none, none, none] M = .ok (.d (HL lot)) M from rfl) (show eUn unNeg (eC (.int 1)) [some (.d (HL lot)), none, none, none, none] M = .ok (.d (.int (-1))) M from rfl)]
        have e : atI (lot.map nI) (-1 : Int) = some (nI s) := by
          have hpos : 0 < lot.length := List.length_pos_iff.mpr L.ne
          have hs := L.last
          rw [List.getLast?_eq_getElem?] at hs
          have k : ixN (lot.map nI).length (-1) = some (lot.length - 1) := by
            unfold ixN; rw [List.length_map]
            simp; omega
          unfold atI
          rw [k]
          show (lot.map nI)[lot.length - 1]? = _
          rw [List.getElem?_map, hs]; rfl
        simp only [opIx, HL, seqOf, e]
      have n1 : nE (eBin opIx (eVar 0) (eUn unNeg (eC (.int 1)))) [some (.d (HL lot)), none, none, none, none] M = .ok (.d (nI s)) M := by
        unfold nE; rw [i1]; rfl
      have ke : ks lot s 0 = [] := by unfold ks; rw [Nat.zero_sub]; rfl
      have ve : vs s 0 = [] := by unfold vs; rw [Nat.zero_sub]; rfl
      unfold eT
      rw [ke, ve]
      simp only [T2_taking_period, sParN, nCons, n1, bnd, sE]
      rfl
    have s4 := tp_loop (M := M) L (by omega) hs hm w u no n 0 3000 none (by omega) (by omega)
    show fnEnd (S_taking_period [some (.d (HL lot)), none, none, none, none] M) = _
    rw [S_taking_period, q_nx s1, q_nx s2, T4_taking_period, q_rt s4]
    rfl
/-- a lot whose numbers return from the first heap on -/
theorem period_known {lot A : List Nat} {s p : Nat} (K : TK.Known lot s p A) : Tp lot s (s + p) 0 p := by
  have L := K.L
  have hp := K.p1
  have h20 := L.s20
  have per : ∀ j, G lot (j + p) = G lot j := fun j => by rw [K.num, K.num, Nat.add_mod_right]
  have W : Win lot s s (s + p) := fun i hi => by
    rw [Nat.sub_self, Nat.zero_add, show s + p - s + i = i + p by omega, per]
  have := K.p30
  obtain ⟨b, d, T⟩ := period_ok L (Nat.le_refl s) (show s < s + p by omega) (by omega) W
  obtain ⟨m, h1, h2, h3, h4⟩ := T.ex
  have dp : d = p := by
    refine Classical.byContradiction fun z => ?_
    obtain ⟨j, hj⟩ := K.min d T.per.1 (by omega)
    refine hj ?_
    have e := TK.per_of_win L h1 h3 (j + p * m) (by have := Nat.le_mul_of_pos_left m hp; omega)
    rw [K.num, K.num, show j + p * m + d = j + d + p * m by omega, Nat.add_mul_mod_self_left, Nat.add_mul_mod_self_left] at e
    exact e
  subst dp
  have b0 : b = 0 := by rw [h4]; exact walk_zero _ _ per m
  rw [b0] at T
  exact T
end K23

set_option Elab.async false
set_option linter.all false
set_option maxRecDepth 100000
set_option maxHeartbeats 1000000
/-! law k23, plainly: what is told of one heap. -/
namespace K23
open PySem PySem.Spec PyProof.Rows L2 DL
open TK (Lot G rows zr)
theorem toInts_nI (l : List Nat) : toInts (l.map nI) = some (l.map fun n : Nat => (n : Int)) := by
  induction l with
  | nil => rfl
  | cons x l ih => simp only [List.map_cons, nI, toInts]; rw [ih]; rfl
theorem count_cast (l : List Nat) (k : Nat) : (l.map fun n : Nat => (n : Int)).count (k : Int) = l.count k := by
  induction l with
  | nil => rfl
  | cons x l ih =>
    rw [List.map_cons, List.count_cons, List.count_cons, ih]
    congr 1
    by_cases e : x = k
    · subst e; simp
    · have : ¬ ((x : Int) = (k : Int)) := by omega
      simp [e, this]
theorem bits60 {n : Nat} (hn : n ≤ 10 ^ 61) : Builtin.Int.intBits (n : Int) ≤ 1048576 := by
  have h : n < 2 ^ 210 := Nat.lt_of_le_of_lt hn (by decide +kernel)
  unfold Builtin.Int.intBits
  by_cases e : n = 0
  · subst e; decide
  · have := (Nat.log2_lt e).mpr h
    have e3 : (((n : Int)) == 0) = false := by simp [e]
    rw [e3, if_neg (by decide), Int.natAbs_natCast]
    omega
section
variable {M M' M'' M3 : Mem} {ρ : DL.Env} {f g h : Sm Ev} {l : List Nat} {x : Ev} {a b k : Nat}
theorem q_cnt (e : f ρ M = .ok (.d (.lst (l.map nI))) M') : eCntI f 0 ρ M = .ok (.d (nI (l.count 0))) M' := by
  unfold eCntI
  rw [e]
  show cntI 0 (.d (.lst (l.map nI))) M' = _
  have ei : intsOf (.d (.lst (l.map nI))) = some (l.map fun n : Nat => (n : Int)) := toInts_nI l
  unfold cntI
  rw [ei]
  show R.ok (Ev.d (.int (((l.map fun n : Nat => (n : Int)).count ((0 : Nat) : Int) : Nat) : Int))) M' = _
  rw [count_cast]; rfl
theorem cut_take (l : List D) (k : Nat) : DL.cutD l none (some (k : Int)) = l.take k := by
  unfold DL.cutD
  rw [HT.sIx_none, HT.sIx_nat, Nat.sub_zero, List.drop_zero]
  by_cases h : k ≤ l.length
  · rw [Nat.min_eq_left h]
  · rw [List.take_of_length_le (by omega), List.take_of_length_le (by omega)]
theorem q_slTk (hx : Hs x l) (h1 : f ρ M = .ok x M') (h2 : g ρ M' = .ok (.d (.int (k : Int))) M'') : eSl f oNone (oSome g) ρ M = .ok (.d (.lst ((l.take k).map nI))) M'' := by
  have e : opSl x none (some (k : Int)) M'' = .ok (.d (.lst (DL.cutD (l.map nI) none (some (k : Int))))) M'' := by
    rcases hx with rfl | rfl | rfl <;> rfl
  simp only [eSl, h1, bnd, oNone, oSome, h2, e]
  rw [cut_take, ← List.map_take]
theorem q_slM (hx : Hs x l) (ha : a ≤ b) (hb : b ≤ l.length) (h1 : f ρ M = .ok x M') (h2 : g ρ M' = .ok (.d (.int (a : Int))) M'') (h3 : h ρ M'' = .ok (.d (.int (b : Int))) M3) : eSl f (oSome g) (oSome h) ρ M = .ok (.d (.lst (((l.drop a).take (b - a)).map nI))) M3 := by
  have e : opSl x (some (a : Int)) (some (b : Int)) M3 = .ok (.d (.lst (DL.cutD (l.map nI) (some (a : Int)) (some (b : Int))))) M3 := by
    rcases hx with rfl | rfl | rfl <;> rfl
  have c : DL.cutD (l.map nI) (some (a : Int)) (some (b : Int)) = ((l.map nI).drop a).take (b - a) := by
    unfold DL.cutD
    rw [HT.sIx_nat, HT.sIx_nat, List.length_map, Nat.min_eq_left hb, Nat.min_eq_left (by omega)]
  simp only [eSl, h1, bnd, oSome, h2, h3, e]
  rw [c, ← List.map_drop, ← List.map_take]
/-- found[heap] if heap < before else found[before + (heap - before) % period] -/
theorem q_pick {lot : List Nat} {N p n : Nat} {fh fb fp : Sm Ev} (P : TK.Per lot b p) (hN : b + p ≤ N) (hx : Hs x (rows lot N)) (h1 : f ρ M = .ok x M) (h2 : fh ρ M = .ok (.d (nI n)) M) (h3 : fb ρ M = .ok (.d (nI b)) M) (h4 : fp ρ M = .ok (.d (nI p)) M) :
    eIf (tCmpE opLt fh fb) (eBin opIx f fh) (eBin opIx f (eBin opAdd fb (eBin opMod (eBin opSub fh fb) fp))) ρ M = .ok (.d (nI (G lot n))) M := by
  rw [q_eif (n_lt h2 h3)]
  have ga := TK.at_ok P n
  unfold TK.at' at ga
  by_cases c : n < b
  · rw [if_pos (by rw [decide_eq_true c])]
    rw [q_ixL hx (by rw [TK.rows_len]; omega) h1 h2, TK.rows_get lot (by omega)]
  · rw [if_neg (by rw [decide_eq_false c]; decide)]
    rw [if_neg c] at ga
    have md := Nat.mod_lt (n - b) (show p > 0 from P.1)
    rw [q_ixL hx (k := b + (n - b) % p) (by rw [TK.rows_len]; omega) h1 (n_add h3 (n_mod P.1 (n_sub (by omega) h2 h3) h4)), TK.rows_get lot (by omega), ga]
end
section
variable {M : Mem} {lot : List Nat} {s n b d h : Nat}
/-- a heap is a number from 0 to 10 ** 60 -/
theorem d_heap {ρ : DL.Env} {c : Str} (hh : h ≤ 10 ^ 60) (v : eVar 1 ρ M = .ok (.d (nI h)) M) : sIf (bOr (bNot (tTru (eCall 1 F_is_integer (aCons (eVar 1) aNil)))) (bNot (tChainE opLe opLe (eC (.int 0)) (eVar 1) (eBin opPow (eC (.int 10)) (eC (.int 60)))))) (sRaise c) sNext ρ M = .nx ρ M := by
  have t1 := q_not (b := true) (truV (q_call (n := 1) (q_cons1 v) rfl rfl (show F_is_integer [.d (nI h)] M = .ok (.bl true) M from rfl)))
  have t2 := q_chainI (k1 0 ρ M) v (q_pow10 (ρ := ρ) (M := M) (k := 60) (by omega))
  rw [decide_eq_true (show (0 : Int) ≤ (h : Int) ∧ (h : Int) ≤ ((10 ^ 60 : Nat) : Int) from ⟨Int.natCast_nonneg _, Int.ofNat_le.mpr hh⟩)] at t2
  exact q_skip ((q_or0 t1).trans (q_not t2))
theorem number_ok (L : Lot lot s) (T : Tp lot s n b d) (hn : n ≤ 1000) (hh : h ≤ 10 ^ 60) : F_taking_number [.d (HL lot), .d (nI h)] M = .ok (nI (G lot h)) M := by
  unfold F_taking_number; rw [fnOf_eq]
  have hbd := T.bd
  have s1 : T1_taking_number [some (.d (HL lot)), some (.d (nI h)), none, none, none] M = .nx [some (.d (HL lot)), some (.d (nI h)), none, none, none] M := d_check L rfl
  have s2 : T2_taking_number [some (.d (HL lot)), some (.d (nI h)), none, none, none] M = .nx [some (.d (HL lot)), some (.d (nI h)), none, none, none] M := d_heap hh rfl
  have c3 := q_call (n := 1) (q_cons1 (show eVar 0 [some (.d (HL lot)), some (.d (nI h)), none, none, none] M = .ok (.d (HL lot)) M from rfl)) rfl rfl (T.ok M)
  have s3 : T3_taking_number [some (.d (HL lot)), some (.d (nI h)), none, none, none] M = .nx [some (.d (HL lot)), some (.d (nI h)), some (.d (nI b)), some (.d (nI d)), none] M := by
    simp only [T3_taking_number, sAsgT, c3, sE]; rfl
  have c4 := q_call (n := 2) (q_cons2 (show eVar 0 [some (.d (HL lot)), some (.d (nI h)), some (.d (nI b)), some (.d (nI d)), none] M = .ok (.d (HL lot)) M from rfl) (n_add (a := b) (b := d) (f := eVar 2) (g := eVar 3) rfl rfl)) rfl rfl (row_ok (M := M) (n := b + d) L (by omega))
  have s4 : T4_taking_number [some (.d (HL lot)), some (.d (nI h)), some (.d (nI b)), some (.d (nI d)), none] M = .nx [some (.d (HL lot)), some (.d (nI h)), some (.d (nI b)), some (.d (nI d)), some (.d (.lst ((rows lot (b + d + 1)).map nI)))] M := q_set c4 rfl (show 4 < 5 by decide)
  have r := q_pick (f := eVar 4) (fh := eVar 1) (fb := eVar 2) (fp := eVar 3) (n := h) T.per (show b + d ≤ b + d + 1 by omega) (.inl rfl) (show eVar 4 [some (.d (HL lot)), some (.d (nI h)), some (.d (nI b)), some (.d (nI d)), some (.d (.lst ((rows lot (b + d + 1)).map nI)))] M = .ok _ M from rfl) rfl rfl rfl
  show fnEnd (S_taking_number [some (.d (HL lot)), some (.d (nI h)), none, none, none] M) = _
  rw [S_taking_number, q_nx s1, q_nx s2, q_nx s3, q_nx s4, T5_taking_number, q_ret r rfl]
  rfl
theorem rows_take {N k : Nat} (hk : k ≤ N) : ((rows lot N).take k).count 0 = zr (G lot) 0 k := by
  unfold zr
  rw [TK.rows_eq, ← List.map_take, List.take_range, Nat.min_eq_left hk]
  congr 1
  exact List.map_congr_left fun i _ => by rw [Nat.zero_add]
theorem rows_mid {N b d k : Nat} (hk : b + d ≤ N) (hkd : k ≤ d) : ((((rows lot N).drop b).take d).take k).count 0 = zr (G lot) b k := by
  unfold zr
  congr 1
  refine List.ext_getElem? fun i => ?_
  rw [List.take_take, Nat.min_eq_left hkd, List.getElem?_take, List.getElem?_drop, List.getElem?_map, TK.rows_eq, List.getElem?_map]
  by_cases c : i < k
  · rw [if_pos c, List.getElem?_range (by omega), List.getElem?_range c]; rfl
  · rw [if_neg c, List.getElem?_eq_none (by simp; omega)]; rfl
theorem zr_le (f : Nat → Nat) (b l : Nat) : zr f b l ≤ l := by
  unfold zr
  refine Nat.le_trans List.count_le_length ?_
  rw [List.length_map, List.length_range]; exact Nat.le_refl _
theorem lost_ok (L : Lot lot s) (T : Tp lot s n b d) (hn : n ≤ 1000) (hh : h ≤ 10 ^ 60) : F_lost_below [.d (HL lot), .d (nI h)] M = .ok (nI (zr (G lot) 0 h)) M := by
  unfold F_lost_below; rw [fnOf_eq]
  have hbd := T.bd
  have hd1 := T.per.1
  have s1 : T1_lost_below [some (.d (HL lot)), some (.d (nI h)), none, none, none, none, none, none] M = .nx [some (.d (HL lot)), some (.d (nI h)), none, none, none, none, none, none] M := d_check L rfl
  have s2 : T2_lost_below [some (.d (HL lot)), some (.d (nI h)), none, none, none, none, none, none] M = .nx [some (.d (HL lot)), some (.d (nI h)), none, none, none, none, none, none] M := d_heap hh rfl
  have c3 := q_call (n := 1) (q_cons1 (show eVar 0 [some (.d (HL lot)), some (.d (nI h)), none, none, none, none, none, none] M = .ok (.d (HL lot)) M from rfl)) rfl rfl (T.ok M)
  have s3 : T3_lost_below [some (.d (HL lot)), some (.d (nI h)), none, none, none, none, none, none] M = .nx [some (.d (HL lot)), some (.d (nI h)), some (.d (nI b)), some (.d (nI d)), none, none, none, none] M := by
    simp only [T3_lost_below, sAsgT, c3, sE]; rfl
  have c4 := q_call (n := 2) (q_cons2 (show eVar 0 [some (.d (HL lot)), some (.d (nI h)), some (.d (nI b)), some (.d (nI d)), none, none, none, none] M = .ok (.d (HL lot)) M from rfl) (n_add (a := b) (b := d) (f := eVar 2) (g := eVar 3) rfl rfl)) rfl rfl (row_ok (M := M) (n := b + d) L (by omega))
  have s4 : T4_lost_below [some (.d (HL lot)), some (.d (nI h)), some (.d (nI b)), some (.d (nI d)), none, none, none, none] M = .nx [some (.d (HL lot)), some (.d (nI h)), some (.d (nI b)), some (.d (nI d)), some (.d (.lst ((rows lot (b + d + 1)).map nI))), none, none, none] M := q_set c4 rfl (show 4 < 8 by decide)
  show fnEnd (S_lost_below [some (.d (HL lot)), some (.d (nI h)), none, none, none, none, none, none] M) = _
  rw [S_lost_below, q_nx s1, q_nx s2, q_nx s3, q_nx s4]
  have H5 : Hs (.d (.lst ((rows lot (b + d + 1)).map nI))) (rows lot (b + d + 1)) := .inl rfl
  have hl5 : (rows lot (b + d + 1)).length = b + d + 1 := TK.rows_len _ _
  have hlt : ∀ k, k ≤ b + d + 1 → ((rows lot (b + d + 1)).take k).count 0 = zr (G lot) 0 k := fun k hk => rows_take hk
  have hmd : ∀ k, k ≤ d → ((((rows lot (b + d + 1)).drop b).take d).take k).count 0 = zr (G lot) b k := fun k hk => rows_mid (by omega) hk
  generalize rows lot (b + d + 1) = R at *
  have t5 := n_le (a := h) (b := b) (f := eVar 1) (g := eVar 2) (ρ := [some (.d (HL lot)), some (.d (nI h)), some (.d (nI b)), some (.d (nI d)), some (.d (.lst (R.map nI))), none, none, none]) (M := M) (M' := M) (M'' := M) rfl rfl
  by_cases c : h ≤ b
  · rw [decide_eq_true c] at t5
    have r := q_cnt (q_slTk H5 (show eVar 4 [some (.d (HL lot)), some (.d (nI h)), some (.d (nI b)), some (.d (nI d)), some (.d (.lst (R.map nI))), none, none, none] M = .ok _ M from rfl) (show eVar 1 [some (.d (HL lot)), some (.d (nI h)), some (.d (nI b)), some (.d (nI d)), some (.d (.lst (R.map nI))), none, none, none] M = .ok (.d (nI h)) M from rfl))
    rw [hlt h (by omega)] at r
    rw [T5_lost_below, q_rt ((q_if1 t5).trans (q_ret r rfl))]
    rfl
  · rw [decide_eq_false c] at t5
    have sb := n_sub (a := h) (b := b) (f := eVar 1) (g := eVar 2) (ρ := [some (.d (HL lot)), some (.d (nI h)), some (.d (nI b)), some (.d (nI d)), some (.d (.lst (R.map nI))), none, none, none]) (M := M) (M' := M) (M'' := M) (by omega) rfl rfl
    have s6 : T6_lost_below [some (.d (HL lot)), some (.d (nI h)), some (.d (nI b)), some (.d (nI d)), some (.d (.lst (R.map nI))), none, none, none] M = .nx [some (.d (HL lot)), some (.d (nI h)), some (.d (nI b)), some (.d (nI d)), some (.d (.lst (R.map nI))), some (.d (nI ((h - b) / d))), some (.d (nI ((h - b) % d))), none] M :=
      q_par2 (n_div (b := d) hd1 (by omega) sb rfl) (n_mod (b := d) hd1 sb rfl) rfl rfl (show 5 < 8 by decide) (show 6 < 8 by decide)
    have sl7 := q_slM (a := b) (b := b + d) H5 (by omega) (by omega) (show eVar 4 [some (.d (HL lot)), some (.d (nI h)), some (.d (nI b)), some (.d (nI d)), some (.d (.lst (R.map nI))), some (.d (nI ((h - b) / d))), some (.d (nI ((h - b) % d))), none] M = .ok _ M from rfl) (show eVar 2 [some (.d (HL lot)), some (.d (nI h)), some (.d (nI b)), some (.d (nI d)), some (.d (.lst (R.map nI))), some (.d (nI ((h - b) / d))), some (.d (nI ((h - b) % d))), none] M = .ok (.d (nI b)) M from rfl) (n_add (a := b) (b := d) (f := eVar 2) (g := eVar 3) rfl rfl)
    rw [show b + d - b = d by omega] at sl7
    have s7 : T7_lost_below [some (.d (HL lot)), some (.d (nI h)), some (.d (nI b)), some (.d (nI d)), some (.d (.lst (R.map nI))), some (.d (nI ((h - b) / d))), some (.d (nI ((h - b) % d))), none] M = .nx [some (.d (HL lot)), some (.d (nI h)), some (.d (nI b)), some (.d (nI d)), some (.d (.lst (R.map nI))), some (.d (nI ((h - b) / d))), some (.d (nI ((h - b) % d))), some (.d (.lst (((R.drop b).take d).map nI)))] M := q_set sl7 rfl (show 7 < 8 by decide)
    have md : (h - b) % d < d := Nat.mod_lt _ hd1
    have H7 : Hs (.d (.lst (((R.drop b).take d).map nI))) ((R.drop b).take d) := .inl rfl
    have e1 := hmd d (Nat.le_refl _)
    have e2 := hmd ((h - b) % d) (by omega)
    rw [List.take_take, Nat.min_self] at e1
    have zb := TK.zr_below T.per (show b ≤ h by omega)
    have wl : (h - b) / d ≤ 10 ^ 61 := Nat.le_trans (Nat.div_le_self _ _) (Nat.le_trans (Nat.sub_le _ _) (Nat.le_trans hh (by decide +kernel)))
    generalize (R.drop b).take d = Q at *
    generalize (h - b) / d = w at *
    generalize (h - b) % d = r at *
    have v7 : eVar 7 [some (.d (HL lot)), some (.d (nI h)), some (.d (nI b)), some (.d (nI d)), some (.d (.lst (R.map nI))), some (.d (nI w)), some (.d (nI r)), some (.d (.lst (Q.map nI)))] M = .ok (.d (.lst (Q.map nI))) M := rfl
    have a1 := q_cnt (q_slTk H5 (show eVar 4 [some (.d (HL lot)), some (.d (nI h)), some (.d (nI b)), some (.d (nI d)), some (.d (.lst (R.map nI))), some (.d (nI w)), some (.d (nI r)), some (.d (.lst (Q.map nI)))] M = .ok _ M from rfl) (show eVar 2 [some (.d (HL lot)), some (.d (nI h)), some (.d (nI b)), some (.d (nI d)), some (.d (.lst (R.map nI))), some (.d (nI w)), some (.d (nI r)), some (.d (.lst (Q.map nI)))] M = .ok (.d (nI b)) M from rfl))
    have a2 := q_cnt v7
    have a3 := q_cnt (q_slTk H7 v7 (show eVar 6 [some (.d (HL lot)), some (.d (nI h)), some (.d (nI b)), some (.d (nI d)), some (.d (.lst (R.map nI))), some (.d (nI w)), some (.d (nI r)), some (.d (.lst (Q.map nI)))] M = .ok (.d (nI r)) M from rfl))
    rw [hlt b (by omega)] at a1
    rw [e1] at a2
    rw [e2] at a3
    have zl := zr_le (G lot) b d
    have mu := q_mul (cmW (bits60 wl) (j := ((zr (G lot) b d : Nat) : Int)) (by omega) (by omega)) (show eVar 5 [some (.d (HL lot)), some (.d (nI h)), some (.d (nI b)), some (.d (nI d)), some (.d (.lst (R.map nI))), some (.d (nI w)), some (.d (nI r)), some (.d (.lst (Q.map nI)))] M = .ok (.d (.int (w : Int))) M from rfl) a2
    rw [← Int.natCast_mul] at mu
    have r8 := n_add (n_add a1 mu) a3
    rw [← zb] at r8
    rw [T5_lost_below, q_nx (q_skip t5), q_nx s6, q_nx s7, T8_lost_below, q_ret r8 rfl]
    rfl
theorem q_number {ρ : DL.Env} {f g : Sm Ev} (L : Lot lot s) (T : Tp lot s n b d) (hn : n ≤ 1000) (hh : h ≤ 10 ^ 60) (h1 : f ρ M = .ok (.d (HL lot)) M) (h2 : g ρ M = .ok (.d (nI h)) M) : eCall 2 F_taking_number (aCons f (aCons g aNil)) ρ M = .ok (.d (nI (G lot h))) M :=
  q_call (n := 2) (q_cons2 h1 h2) rfl rfl (number_ok L T hn hh)
/-- take for take in lot if take <= heap and the number there is 0 -/
theorem q_lostAt {ρ : DL.Env} {f0 f1 f2 : Sm Ev} {t : Nat} (L : Lot lot s) (T : Tp lot s n b d) (hn : n ≤ 1000) (hh : h ≤ 10 ^ 60) (h0 : f0 ρ M = .ok (.d (HL lot)) M) (h1 : f1 ρ M = .ok (.d (nI h)) M) (h2 : f2 ρ M = .ok (.d (nI t)) M) :
    bAnd (tCmpE opLe f2 f1) (tCmpE (opEq false) (eCall 2 F_taking_number (aCons f0 (aCons (eBin opSub f1 f2) aNil))) (eC (.int 0))) ρ M = .ok (decide (t ≤ h) && decide (G lot (h - t) = 0)) M := by
  have t1 := n_le h2 h1
  by_cases c : t ≤ h
  · rw [decide_eq_true c] at t1 ⊢
    rw [q_and1 t1, Bool.true_and]
    exact n_eq (b := 0) (q_number L T hn (Nat.le_trans (Nat.sub_le _ _) hh) h0 (n_sub c h1 h2)) (k1 0 _ M)
  · rw [decide_eq_false c] at t1 ⊢
    rw [q_and0 t1, Bool.false_and]
def lostTo (lot : List Nat) (h : Nat) : List Nat := lot.filter fun t => decide (t ≤ h) && decide (G lot (h - t) = 0)
theorem takes_ok (L : Lot lot s) (T : Tp lot s n b d) (hn : n ≤ 1000) (hh : h ≤ 10 ^ 60) : F_takes [.d (HL lot), .d (nI h)] M = .ok (HL (lostTo lot h)) M := by
  unfold F_takes; rw [fnOf_eq]
  have s1 : T1_takes [some (.d (HL lot)), some (.d (nI h)), none] M = .nx [some (.d (HL lot)), some (.d (nI h)), none] M := d_check L rfl
  have s2 : T2_takes [some (.d (HL lot)), some (.d (nI h)), none] M = .nx [some (.d (HL lot)), some (.d (nI h)), none] M := d_heap hh rfl
  have lc := lc_flt (i := iSeq true (eVar 0)) (g := .one 2) (vs := [2]) (t := bAnd (tCmpE opLe (eVar 2) (eVar 1)) (tCmpE (opEq false) (eCall 2 F_taking_number (aCons (eVar 0) (aCons (eBin opSub (eVar 1) (eVar 2)) aNil))) (eC (.int 0)))) (f := eVar 2) (ρ := [some (.d (HL lot)), some (.d (nI h)), none]) (M := M) (l := lot) nI (fun t => decide (t ≤ h) && decide (G lot (h - t) = 0)) nI rfl (by have := L.len; unfold most; omega) fun t ht => ⟨[some (.d (HL lot)), some (.d (nI h)), some (.d (nI t))], rfl, q_lostAt L T hn hh rfl rfl rfl, fun _ => rfl⟩
  show fnEnd (S_takes [some (.d (HL lot)), some (.d (nI h)), none] M) = _
  rw [S_takes, q_nx s1, q_nx s2, T3_takes, q_ret (q_tupL (q_F lc)) rfl]
  rfl
theorem in_ok {p N : Nat} {x : Ev} (P : TK.Per lot b p) (hN : b + p ≤ N) (hx : Hs (look x) (rows lot N)) : F_number_in [x, .d (nI b), .d (nI p), .d (nI h)] M = .ok (nI (G lot h)) M := by
  unfold F_number_in; rw [fnOf_eq]
  have r := q_pick (f := eVar 0) (fh := eVar 3) (fb := eVar 1) (fp := eVar 2) (n := h) P hN hx (show eVar 0 [some x, some (.d (nI b)), some (.d (nI p)), some (.d (nI h))] M = .ok (look x) M from rfl) rfl rfl rfl
  show fnEnd (S_number_in [some x, some (.d (nI b)), some (.d (nI p)), some (.d (nI h))] M) = _
  rw [S_number_in, T1_number_in, q_ret r rfl]
  rfl
theorem join_ok {t : Nat} (L : Lot lot s) (T : Tp lot s n b d) (hn : n ≤ 1000) (h1 : 1 ≤ t) (h6 : t ≤ 1000000) : F_can_join [.d (HL lot), .d (nI t)] M = .ok (.bl ((List.range (b + d)).all fun i => !decide (G lot i = G lot (i + t)))) M := by
  unfold F_can_join; rw [fnOf_eq]
  have hbd := T.bd
  have hd1 := T.per.1
  have hmd := Nat.mod_lt t hd1
  have s1 : T1_can_join [some (.d (HL lot)), some (.d (nI t)), none, none, none, none, none, none, none, none] M = .nx [some (.d (HL lot)), some (.d (nI t)), none, none, none, none, none, none, none, none] M := d_check L rfl
  have p6 := q_pow10 (ρ := [some (.d (HL lot)), some (.d (nI t)), none, none, none, none, none, none, none, none]) (M := M) (k := 6) (by omega)
  rw [show (10 ^ 6 : Nat) = 1000000 by decide] at p6
  have c := q_call (n := 3) (q_cons (show eVar 1 [some (.d (HL lot)), some (.d (nI t)), none, none, none, none, none, none, none, none] M = .ok (.d (nI t)) M from rfl) (q_cons2 (k1 1 _ M) p6)) rfl rfl (show F_is_within _ _ = _ from within_int (i := (t : Int)) (a := 1) (b := 1000000) M)
  rw [show decide ((1 : Int) ≤ (t : Int) ∧ (t : Int) ≤ 1000000) = true by rw [decide_eq_true_eq]; omega] at c
  have s2 : T2_can_join [some (.d (HL lot)), some (.d (nI t)), none, none, none, none, none, none, none, none] M = .nx [some (.d (HL lot)), some (.d (nI t)), none, none, none, none, none, none, none, none] M := q_skip (q_not (b := true) (truV c))
  have c3 := q_call (n := 1) (q_cons1 (show eVar 0 [some (.d (HL lot)), some (.d (nI t)), none, none, none, none, none, none, none, none] M = .ok (.d (HL lot)) M from rfl)) rfl rfl (T.ok M)
  have s3 : T3_can_join [some (.d (HL lot)), some (.d (nI t)), none, none, none, none, none, none, none, none] M = .nx [some (.d (HL lot)), some (.d (nI t)), some (.d (nI b)), some (.d (nI d)), none, none, none, none, none, none] M := by
    simp only [T3_can_join, sAsgT, c3, sE]; rfl
  have ar := n_add (n_add (n_add (a := b) (b := d) (f := eVar 2) (g := eVar 3) (ρ := [some (.d (HL lot)), some (.d (nI t)), some (.d (nI b)), some (.d (nI d)), none, none, none, none, none, none]) (M := M) (M' := M) (M'' := M) rfl rfl) (n_mod (a := t) (b := d) (f := eVar 1) (g := eVar 3) (M' := M) (M'' := M) hd1 rfl rfl)) (show eVar 3 [some (.d (HL lot)), some (.d (nI t)), some (.d (nI b)), some (.d (nI d)), none, none, none, none, none, none] M = .ok (.d (.int (d : Int))) M from rfl)
  have c4 := q_call (n := 2) (q_cons2 (show eVar 0 [some (.d (HL lot)), some (.d (nI t)), some (.d (nI b)), some (.d (nI d)), none, none, none, none, none, none] M = .ok (.d (HL lot)) M from rfl) ar) rfl rfl (row_ok (M := M) (n := b + d + t % d + d) L (by omega))
  have s4 : T4_can_join [some (.d (HL lot)), some (.d (nI t)), some (.d (nI b)), some (.d (nI d)), none, none, none, none, none, none] M = .nx [some (.d (HL lot)), some (.d (nI t)), some (.d (nI b)), some (.d (nI d)), some (.d (.lst ((rows lot (b + d + t % d + d + 1)).map nI))), none, none, none, none, none] M := q_set c4 rfl (show 4 < 10 by decide)
  have H4 : Hs (look (.d (.lst ((rows lot (b + d + t % d + d + 1)).map nI)))) (rows lot (b + d + t % d + d + 1)) := .inl rfl
  have inn : ∀ i, F_number_in [.d (.lst ((rows lot (b + d + t % d + d + 1)).map nI)), .d (nI b), .d (nI d), .d (nI i)] M = .ok (nI (G lot i)) M := fun i => in_ok T.per (by omega) H4
  show fnEnd (S_can_join [some (.d (HL lot)), some (.d (nI t)), none, none, none, none, none, none, none, none] M) = _
  rw [S_can_join, q_nx s1, q_nx s2, q_nx s3, q_nx s4]
  generalize (rows lot (b + d + t % d + d + 1)).map nI = R at *
  have s5 : T5_can_join [some (.d (HL lot)), some (.d (nI t)), some (.d (nI b)), some (.d (nI d)), some (.d (.lst R)), none, none, none, none, none] M = .nx [some (.d (HL lot)), some (.d (nI t)), some (.d (nI b)), some (.d (nI d)), some (.d (.lst R)), some (.d (nI (b + d))), none, none, none, none] M := q_set (n_add (a := b) (b := d) (f := eVar 2) (g := eVar 3) rfl rfl) rfl (show 5 < 10 by decide)
  have it := q_rng1 (n := b + d) (f := eVar 5) (ρ := [some (.d (HL lot)), some (.d (nI t)), some (.d (nI b)), some (.d (nI d)), some (.d (.lst R)), some (.d (nI (b + d))), none, none, none, none]) (M := M) (M' := M) (by omega) rfl
  have lc := lc_rng (a := 0) (n := b + d) (j := 7) (ρ := [some (.d (HL lot)), some (.d (nI t)), some (.d (nI b)), some (.d (nI d)), some (.d (.lst R)), some (.d (nI (b + d))), none, none, none, none]) (M := M) (i := iO rng1 (aCons (eVar 5) aNil)) (f := eTup (aCons (eCall 4 F_number_in (aCons (eVar 4) (aCons (eVar 2) (aCons (eVar 3) (aCons (eVar 7) aNil))))) (aCons (eCall 4 F_number_in (aCons (eVar 4) (aCons (eVar 2) (aCons (eVar 3) (aCons (eBin opAdd (eVar 7) (eVar 1)) aNil))))) aNil))) (fun i => D.tup [nI (G lot i), nI (G lot (i + t))]) it (by unfold most; omega) (show 7 < 10 by decide) fun i hi => by
    rw [Nat.zero_add]
    have w4 : eVar 4 ([some (.d (HL lot)), some (.d (nI t)), some (.d (nI b)), some (.d (nI d)), some (.d (.lst R)), some (.d (nI (b + d))), none, none, none, none].set 7 (some (.d (.int (i : Int))))) M = .ok (.d (.lst R)) M := rfl
    have w2 : eVar 2 ([some (.d (HL lot)), some (.d (nI t)), some (.d (nI b)), some (.d (nI d)), some (.d (.lst R)), some (.d (nI (b + d))), none, none, none, none].set 7 (some (.d (.int (i : Int))))) M = .ok (.d (nI b)) M := rfl
    have w3 : eVar 3 ([some (.d (HL lot)), some (.d (nI t)), some (.d (nI b)), some (.d (nI d)), some (.d (.lst R)), some (.d (nI (b + d))), none, none, none, none].set 7 (some (.d (.int (i : Int))))) M = .ok (.d (nI d)) M := rfl
    have w7 : eVar 7 ([some (.d (HL lot)), some (.d (nI t)), some (.d (nI b)), some (.d (nI d)), some (.d (.lst R)), some (.d (nI (b + d))), none, none, none, none].set 7 (some (.d (.int (i : Int))))) M = .ok (.d (nI i)) M := rfl
    have w1 : eVar 1 ([some (.d (HL lot)), some (.d (nI t)), some (.d (nI b)), some (.d (nI d)), some (.d (.lst R)), some (.d (nI (b + d))), none, none, none, none].set 7 (some (.d (.int (i : Int))))) M = .ok (.d (nI t)) M := rfl
    exact q_tup2 (q_call (n := 4) (q_cons w4 (q_cons w2 (q_cons2 w3 w7))) rfl rfl (inn i)) (q_call (n := 4) (q_cons w4 (q_cons w2 (q_cons2 w3 (n_add w7 w1)))) rfl rfl (inn (i + t)))
  have s6 : T6_can_join [some (.d (HL lot)), some (.d (nI t)), some (.d (nI b)), some (.d (nI d)), some (.d (.lst R)), some (.d (nI (b + d))), none, none, none, none] M = .nx [some (.d (HL lot)), some (.d (nI t)), some (.d (nI b)), some (.d (nI d)), some (.d (.lst R)), some (.d (nI (b + d))), some (.d (.lst ((List.range (b + d)).map fun i => D.tup [nI (G lot i), nI (G lot (i + t))]))), none, none, none] M := by
    simp only [T6_can_join, sSetN, nE, eF, lc, bnd, stor, optR, sE]; rfl
  have lc2 := lc_map (i := iSeq true (eVar 6)) (g := .many [8, 9]) (vs := [8, 9]) (f := eBin (opEq true) (eVar 8) (eVar 9)) (ρ := [some (.d (HL lot)), some (.d (nI t)), some (.d (nI b)), some (.d (nI d)), some (.d (.lst R)), some (.d (nI (b + d))), some (.d (.lst ((List.range (b + d)).map fun i => D.tup [nI (G lot i), nI (G lot (i + t))]))), none, none, none]) (M := M) (l := List.range (b + d)) (fun i => D.tup [nI (G lot i), nI (G lot (i + t))]) (fun i => D.bl (!decide ((G lot i : Int) = (G lot (i + t) : Int)))) rfl (by rw [List.length_range]; unfold most; omega) fun i hi => ⟨[some (.d (HL lot)), some (.d (nI t)), some (.d (nI b)), some (.d (nI d)), some (.d (.lst R)), some (.d (nI (b + d))), some (.d (.lst ((List.range (b + d)).map fun i => D.tup [nI (G lot i), nI (G lot (i + t))]))), none, some (.d (nI (G lot i))), some (.d (nI (G lot (i + t))))], rfl, e_neI rfl rfl⟩
  have al := q_all (fun i => !decide ((G lot i : Int) = (G lot (i + t) : Int))) (q_F lc2)
  have ea : (List.range (b + d)).all (fun i => !decide ((G lot i : Int) = (G lot (i + t) : Int))) = (List.range (b + d)).all fun i => !decide (G lot i = G lot (i + t)) := by
    congr 1
    funext i
    congr 1
    rw [decide_eq_decide]
    omega
  rw [ea] at al
  rw [q_nx s5, q_nx s6, T7_can_join, q_ret al rfl]
  rfl
end
end K23

set_option Elab.async false
set_option linter.all false
set_option maxRecDepth 100000
set_option maxHeartbeats 1000000
/-! law k23, plainly: the lots that are known. -/
namespace K23
open PySem PySem.Spec PyProof.Rows L2 DL
open TK (Lot G rows zr)
theorem log2_big {n : Nat} (h : n ≤ 10 ^ 60) : n.log2 < 9000 := by
  by_cases e : n = 0
  · subst e; decide
  · have : n < 2 ^ 210 := Nat.lt_of_le_of_lt h (by decide +kernel)
    have := (Nat.log2_lt e).mpr this
    omega
theorem q_appLL {ρ : DL.Env} {M : Mem} {f g : Sm Ev} {l l' : List D} {M1 M2 : Mem} (h1 : f ρ M = .ok (.d (.lst l)) M1) (h2 : g ρ M1 = .ok (.d (.lst l')) M2) (hm : l.length + l'.length ≤ DL.most) : eBin opAdd f g ρ M = .ok (.d (.lst (l ++ l'))) M2 := by
  rw [q_bin h1 h2]
  simp only [opAdd, opAddL, lstOf, if_pos hm]
theorem mulL_ok {l : List D} {k : Nat} {M : Mem} (hk : k ≤ 1000) (hl : l.length ≤ 1000) : opMulA (.d (.lst l)) (.d (.int (k : Int))) M = .ok (.d (.lst (List.replicate k l).flatten)) M := by
  have c : -1000000 ≤ (k : Int) ∧ (k : Int) ≤ 1000000 ∧ l.length * (k : Int).toNat ≤ most := by
    refine ⟨by omega, by omega, ?_⟩
    rw [Int.toNat_natCast]
    calc l.length * k ≤ 1000 * 1000 := Nat.mul_le_mul hl hk
      _ ≤ most := by unfold most; decide
  show (if _ then R.ok (Ev.d (.lst (List.replicate (k : Int).toNat l).flatten)) M else .stuck) = _
  rw [if_pos c, Int.toNat_natCast]
theorem q_mulL {ρ : DL.Env} {M M1 M2 : Mem} {f g : Sm Ev} {l : List Nat} {k : Nat} (hk : k ≤ 1000) (hl : l.length ≤ 1000) (h1 : f ρ M = .ok (.d (.lst (l.map nI))) M1) (h2 : g ρ M1 = .ok (.d (nI k)) M2) : eBin opMulA f g ρ M = .ok (.d (.lst ((List.replicate k l).flatten.map nI))) M2 := by
  rw [q_bin h1 h2]
  show opMulA (.d (.lst (l.map nI))) (.d (.int (k : Int))) M2 = _
  rw [mulL_ok hk (by rw [List.length_map]; exact hl), List.map_flatten, List.map_replicate]
theorem q_tup3 {ρ : DL.Env} {M M1 M2 M3 : Mem} {f g h : Sm Ev} {a b c : D} (h1 : f ρ M = .ok (.d a) M1) (h2 : g ρ M1 = .ok (.d b) M2) (h3 : h ρ M2 = .ok (.d c) M3) : eTup (aCons f (aCons g (aCons h aNil))) ρ M = .ok (.d (.tup [a, b, c])) M3 := by
  simp only [eTup, q_cons h1 (q_cons2 h2 h3), bnd]; rfl
theorem q_lst3 {ρ : DL.Env} {M M1 M2 M3 : Mem} {f g h : Sm Ev} {a b c : D} (h1 : f ρ M = .ok (.d a) M1) (h2 : g ρ M1 = .ok (.d b) M2) (h3 : h ρ M2 = .ok (.d c) M3) : eLst (aCons f (aCons g (aCons h aNil))) ρ M = .ok (.d (.lst [a, b, c])) M3 := by
  simp only [eLst, q_cons h1 (q_cons2 h2 h3), bnd]; rfl
/-- a round told: the lot, the period, the numbers -/
def KV (lot : List Nat) (p : Nat) (A : List Nat) : D := .tup [HL lot, nI p, .lst (A.map nI)]
theorem range_nI (a n : Nat) : rangeL (a : Int) n 1 = (List.range' a n).map nI := by
  rw [rangeL_map, List.range'_eq_map_range, List.map_map]; rfl
theorem q_rg2T {ρ : DL.Env} {M M1 M2 : Mem} {f g : Sm Ev} {a b : Nat} (ha : a ≤ 1000) (hb : b ≤ 1000) (h1 : f ρ M = .ok (.d (nI a)) M1) (h2 : g ρ M1 = .ok (.d (nI b)) M2) : eRg2 true f g ρ M = .ok (.d (HL (List.range' a (b - a)))) M2 := by
  unfold eRg2
  rw [h1]
  show bnd (g ρ M1) _ = _
  rw [h2]
  show (if (-1000000 ≤ (a : Int) ∧ (a : Int) ≤ 1000000) ∧ -1000000 ≤ (b : Int) ∧ (b : Int) ≤ 1000000 then R.ok (Ev.d (rgD true (rangeL (a : Int) ((b : Int) - (a : Int)).toNat 1))) M2 else .stuck) = _
  rw [if_pos (by omega), show ((b : Int) - (a : Int)).toNat = b - a by omega, range_nI]
  rfl
theorem q_rg1L {ρ : DL.Env} {M M1 : Mem} {f : Sm Ev} {b : Nat} (hb : b ≤ 1000) (h1 : f ρ M = .ok (.d (nI b)) M1) : eRg1 false f ρ M = .ok (.d (.lst ((List.range b).map nI))) M1 := by
  unfold eRg1
  rw [h1]
  show (if -1000000 ≤ (b : Int) ∧ (b : Int) ≤ 1000000 then R.ok (Ev.d (rgD false (rangeL 0 (b : Int).toNat 1))) M1 else .stuck) = _
  rw [if_pos (by omega), Int.toNat_natCast]
  have := range_nI 0 b
  rw [show ((0 : Nat) : Int) = 0 from rfl] at this
  rw [this, ← List.range_eq_range']
  rfl
theorem all_to_ok {m : Nat} {d : D} {M : Mem} (hm : m ≤ 100) : F__law_all_to [.d d, .d (nI m)] M = .ok (KV (List.range' 1 m) (m + 1) (List.range (m + 1))) M := by
  unfold F__law_all_to; rw [fnOf_eq]
  have v1 : eVar 1 [some (.d d), some (.d (nI m))] M = .ok (.d (nI m)) M := rfl
  have a1 := n_add v1 (k1 1 _ M)
  have r1 := q_rg2T (a := 1) (b := m + 1) (by omega) (by omega) (k1 1 [some (.d d), some (.d (nI m))] M) a1
  rw [show m + 1 - 1 = m by omega] at r1
  have r := q_tup3 r1 a1 (q_rg1L (b := m + 1) (by omega) a1)
  show fnEnd (S__law_all_to [some (.d d), some (.d (nI m))] M) = _
  rw [S__law_all_to, T1__law_all_to, q_ret r rfl]
  rfl
/-- numbers sorted, each once -/
theorem srt_nat (l : List Nat) : ∃ L : List Nat, usrt (l.map fun n : Nat => (n : Int)) = L.map (fun n : Nat => (n : Int)) ∧ L.Pairwise (· < ·) ∧ ∀ x, x ∈ L ↔ x ∈ l := by
  have nn : ∀ z ∈ usrt (l.map fun n : Nat => (n : Int)), ∃ k : Nat, z = (k : Int) ∧ k ∈ l := fun z hz => by
    obtain ⟨k, hk, rfl⟩ := List.mem_map.mp (usrt_mem.mp hz)
    exact ⟨k, rfl, hk⟩
  have back : (usrt (l.map fun n : Nat => (n : Int))) = ((usrt (l.map fun n : Nat => (n : Int))).map Int.toNat).map (fun n : Nat => (n : Int)) := by
    rw [List.map_map]
    refine (List.map_id _).symm.trans (List.map_congr_left fun z hz => ?_)
    obtain ⟨k, rfl, _⟩ := nn z hz
    rfl
  refine ⟨(usrt (l.map fun n : Nat => (n : Int))).map Int.toNat, back, ?_, fun x => ?_⟩
  · have a := usrt_asc (l.map fun n : Nat => (n : Int))
    rw [back, List.pairwise_map] at a
    exact a.imp fun h => by omega
  · constructor
    · intro h
      obtain ⟨z, hz, rfl⟩ := List.mem_map.mp h
      obtain ⟨k, rfl, hk⟩ := nn z hz
      exact hk
    · intro h
      exact List.mem_map.mpr ⟨(x : Int), usrt_mem.mpr (List.mem_map.mpr ⟨x, h, rfl⟩), rfl⟩
theorem q_srt {ρ : DL.Env} {M M' : Mem} {f : Sm Ev} {l : List Nat} (hl : l.length < 60) (h : f ρ M = .ok (.d (.lst (l.map nI))) M') : ∃ L : List Nat, eB bSortS (aCons f aNil) ρ M = .ok (.d (.lst (L.map nI))) M' ∧ L.Pairwise (· < ·) ∧ (∀ x, x ∈ L ↔ x ∈ l) ∧ L.length ≤ l.length := by
  obtain ⟨L, e, h1, h2⟩ := srt_nat l
  refine ⟨L, ?_, h1, h2, ?_⟩
  · rw [q_B (q_cons1 h)]
    have ei : intsOf (.d (.lst (l.map nI))) = some (l.map fun n : Nat => (n : Int)) := toInts_nI l
    unfold bSortS
    simp only [ei]
    rw [if_pos (by rw [List.length_map]; exact hl), e, List.map_map]
    rfl
  · exact List.Nodup.length_le_of_subset (h1.imp fun h => by omega) fun x hx => (h2 x).mp hx
theorem last_asc : ∀ {l : List Nat}, l ≠ [] → l.Pairwise (· < ·) → ∃ s, l.getLast? = some s ∧ s ∈ l ∧ ∀ t ∈ l, t ≤ s
  | [], h, _ => absurd rfl h
  | [a], _, _ => ⟨a, rfl, List.mem_cons_self, fun t ht => by rw [List.mem_singleton.mp ht]; exact Nat.le_refl _⟩
  | a :: b :: l, _, h => by
    have p := List.pairwise_cons.mp h
    obtain ⟨s, h1, h2, h3⟩ := last_asc (l := b :: l) (by simp) p.2
    refine ⟨s, by rw [List.getLast?_cons_cons]; exact h1, List.mem_cons_of_mem _ h2, fun t ht => ?_⟩
    rcases List.mem_cons.mp ht with rfl | ht
    · have := p.1 s h2; omega
    · exact h3 t ht
theorem lot_asc {l : List Nat} (h0 : l ≠ []) (ha : l.Pairwise (· < ·)) (hm : ∀ t ∈ l, 1 ≤ t ∧ t ≤ 20) (hl : l.length ≤ 12) : ∃ s, Lot l s := by
  obtain ⟨s, h1, h2, h3⟩ := last_asc h0 ha
  exact ⟨s, fun t ht => ⟨(hm t ht).1, h3 t ht⟩, h0, hm s h2, hl, h1, ha⟩
section
variable {cells : List Int} {B : Nat} {M : Mem}
theorem q_dr {ρ : DL.Env} {many : Nat} {f g : Sm Ev} (hc : Cl cells) (h : Hd cells B M) (hB : B ≤ 1000000) (hm : 0 < many) (hm2 : many ≤ 10 ^ 60) (v0 : f ρ M = .ok (.d (.ob 0)) M) (v1 : g ρ M = .ok (.d (nI many)) M) :
    ∃ (r : Nat) (M' : Mem), eCall 2 F__law_draw (aCons f (aCons g aNil)) ρ M = .ok (.d (nI r)) M' ∧ r < many ∧ Hd cells (B + 1) M' := by
  obtain ⟨r, M', e, r0, r1, h'⟩ := kdraw hc h hB (many := (many : Int)) (by omega) (by rw [Int.natAbs_natCast]; exact log2_big hm2)
  obtain ⟨j, rfl⟩ : ∃ j : Nat, r = (j : Int) := ⟨r.toNat, by omega⟩
  exact ⟨j, M', q_call (n := 2) (q_cons2 v0 v1) rfl rfl e, by omega, h'⟩
/-- draws gathered into a list -/
theorem lc_draws {ρ : DL.Env} {j m : Nat} {it : Sm (List D)} {f : Sm Ev} {M1 : Mem} (P : Nat → Prop) (hit : it ρ M = .ok (rangeL 0 m 1) M1) (hm : m ≤ 60) (hj : j < ρ.length) (h0 : Hd cells B M1) (hB : B + 100 ≤ 1000000)
    (step : ∀ (x : D) C M', C ≤ 1000000 → Hd cells C M' → ∃ v M2, f (ρ.set j (some (.d x))) M' = .ok (.d (nI v)) M2 ∧ P v ∧ Hd cells (C + 1) M2) :
    ∃ (L : List Nat) (M' : Mem), fLc it (.one j) [j] tYesE f ρ M = .ok (L.map nI) M' ∧ L.length = m ∧ (∀ v ∈ L, P v) ∧ Hd cells (B + m) M' := by
  obtain ⟨l, M3, e3, ⟨L, hL, hL2, hL3⟩, hM3⟩ := lcL_inv (g := .one j) (vs := [j]) (t := tYesE) (f := f) (ρ := ρ)
    (fun i acc M' => (∃ L : List Nat, acc = L.map nI ∧ L.length = i ∧ ∀ z ∈ L, P z) ∧ Hd cells (B + i) M') (rangeL 0 m 1) 0 [] M1 (fun i dd acc M' hd ⟨⟨L, e, el, hz⟩, hM'⟩ => by
      obtain ⟨hi, rfl⟩ := rangeL_get hd
      rw [Nat.zero_add] at el hM' ⊢
      obtain ⟨v, M2, e2, hv, hM2⟩ := step (.int (0 + (i : Int) * 1)) (B + i) M' (by omega) hM'
      refine ⟨ρ.set j (some (.d (.int (0 + (i : Int) * 1)))), true, M', tg_wipe1 hj, rfl, .inl ⟨rfl, nI v, M2, e2, ⟨L ++ [v], by rw [e, List.map_append]; rfl, by rw [List.length_append, el]; rfl, fun z hz' => ?_⟩, hM2⟩⟩
      rcases List.mem_append.mp hz' with q | q
      · exact hz z q
      · rw [List.mem_singleton.mp q]; exact hv) ⟨⟨[], rfl, rfl, fun z hz => by cases hz⟩, h0⟩
  rw [rangeL_len, Nat.zero_add] at hL2 hM3
  subst hL
  refine ⟨L, M3, ?_, hL2, hL3, hM3⟩
  simp only [fLc, hit, bnd]
  rw [if_pos (by rw [rangeL_len]; unfold most; omega)]
  exact e3
theorem heap_ok (hc : Cl cells) (hM : Hd cells B M) (hB : B + 2 ≤ 1000000) : ∃ (h : Nat) (M' : Mem), F__law_heap [.d (.ob 0)] M = .ok (nI h) M' ∧ h < 10 ^ 59 ∧ Hd cells (B + 2) M' := by
  unfold F__law_heap; rw [fnOf_eq]
  have v0 : ∀ M, eVar 0 [some (.d (.ob 0))] M = .ok (.d (.ob 0)) M := fun _ => rfl
  have p6 : eBin opPow (eC (.int 10)) (eC (.int 6)) [some (.d (.ob 0))] M = .ok (.d (.int ((10 ^ 6 : Nat) : Int))) M := q_pow10 (k := 6) (by omega)
  have p59 : eBin opPow (eC (.int 10)) (eC (.int 59)) [some (.d (.ob 0))] M = .ok (.d (.int ((10 ^ 59 : Nat) : Int))) M := q_pow10 (k := 59) (by omega)
  have l3 := q_lst3 (k1 60 [some (.d (.ob 0))] M) p6 p59
  obtain ⟨d, M1, e1, hd, hM1⟩ := q_some (i := 0) (l := [nI 60, .int ((10 ^ 6 : Nat) : Int), .int ((10 ^ 59 : Nat) : Int)]) hc hM (by omega) (by simp) (by simp) (v0 M) l3
  obtain ⟨many, rfl, hm1, hm2⟩ : ∃ many : Nat, d = nI many ∧ 0 < many ∧ many ≤ 10 ^ 59 := by
    simp only [List.mem_cons, List.not_mem_nil, or_false] at hd
    rcases hd with rfl | rfl | rfl
    · exact ⟨60, rfl, by decide, by decide +kernel⟩
    · exact ⟨10 ^ 6, rfl, by decide +kernel, by decide +kernel⟩
    · exact ⟨10 ^ 59, rfl, by decide +kernel, Nat.le_refl _⟩
  obtain ⟨r, M2, e2, r0, r1, h2⟩ := kdraw hc hM1 (by omega) (many := (many : Int)) (by omega) (by rw [Int.natAbs_natCast]; exact log2_big (Nat.le_trans hm2 (by decide +kernel)))
  obtain ⟨j, rfl⟩ : ∃ j : Nat, r = (j : Int) := ⟨r.toNat, by omega⟩
  have c := q_call (n := 2) (q_cons2 (v0 M) e1) rfl rfl e2
  refine ⟨j, M2, ?_, by omega, h2⟩
  show fnEnd (S__law_heap [some (.d (.ob 0))] M) = _
  rw [S__law_heap, T1__law_heap, q_ret c rfl]
  rfl
end
end K23

set_option Elab.async false
set_option linter.all false
set_option maxRecDepth 100000
set_option maxHeartbeats 1000000
/-! law k23, plainly: a lot whose numbers are known is drawn. -/
namespace K23
open PySem PySem.Spec PyProof.Rows L2 DL
open TK (Lot G rows zr Known)
@[reducible] def eK (k o : Nat) (x3 x4 x5 x6 x7 x8 x9 x10 x11 x12 : Option Ev) : DL.Env := [some (.d (.ob 0)), some (.d (nI k)), some (.d (nI o)), x3, x4, x5, x6, x7, x8, x9, x10, x11, x12, none, none, none]
@[reducible] def e0 (k o : Nat) : DL.Env := eK k o none none none none none none none none none none
section
variable {cells : List Int} {B : Nat} {M : Mem} {k o : Nat}
theorem kt (j : Nat) (M : Mem) : tCmpE (opEq false) (eVar 1) (eC (.int (j : Int))) (e0 k o) M = .ok (decide (k = j)) M := n_eq rfl rfl
theorem kt0 {j : Nat} (h : k ≠ j) (f : Ss) (M : Mem) : sIf (tCmpE (opEq false) (eVar 1) (eC (.int (j : Int)))) f sNext (e0 k o) M = .nx (e0 k o) M := q_skip ((kt j M).trans (by rw [decide_eq_false h]))
theorem kt1 {j : Nat} (h : k = j) (f : Ss) (M : Mem) : sIf (tCmpE (opEq false) (eVar 1) (eC (.int (j : Int)))) f sNext (e0 k o) M = f (e0 k o) M := q_if1 ((kt j M).trans (by rw [decide_eq_true h]))
/-- what a kind's rows come to -/
def Kd (cells : List Int) (B : Nat) (f : Ss) (k o : Nat) (M : Mem) : Prop := ∃ lot s p A M', f (e0 k o) M = .rt (KV lot p A) M' ∧ Known lot s p A ∧ Hd cells B M'
theorem kind0 (hc : Cl cells) (hM : Hd cells B M) (hB : B + 8 ≤ 1000000) : Kd cells (B + 8) T2__law_known 0 o M := by
  obtain ⟨r, M1, e1, hr, h1⟩ := q_dr (ρ := e0 0 o) (f := eVar 0) (g := eC (.int 12)) (many := 12) hc hM (by omega) (by decide) (by decide +kernel) rfl rfl
  have c := q_call (n := 2) (q_cons2 (show eVar 0 (e0 0 o) M = .ok (.d (.ob 0)) M from rfl) (n_add (k1 1 (e0 0 o) M) e1)) rfl rfl (all_to_ok (m := 1 + r) (d := .ob 0) (M := M1) (by omega))
  rw [show 1 + r = r + 1 by omega] at c
  exact ⟨_, _, _, _, M1, (kt1 (j := 0) rfl _ M).trans (q_ret c rfl), TK.chk_known (TK.known_all r hr), h1.mono (by omega)⟩
theorem kind1 {i : Nat} (hi : i < 10) (hM : Hd cells B M) : Kd cells (B + 8) T3__law_known 1 (i + 1) M := by
  have v2 : eVar 2 (e0 1 (i + 1)) M = .ok (.d (nI (i + 1))) M := rfl
  have a := q_appLL (q_mulL (l := [0]) (k := i + 1) (by omega) (by simp) (q_lst1 (k1 0 (e0 1 (i + 1)) M)) v2) (q_mulL (l := [1]) (k := i + 1) (by omega) (by simp) (q_lst1 (k1 1 (e0 1 (i + 1)) M)) v2) (by simp; unfold most; omega)
  rw [← List.map_append, show (List.replicate (i + 1) [0]).flatten ++ (List.replicate (i + 1) [1]).flatten = List.replicate (i + 1) 0 ++ List.replicate (i + 1) 1 by simp] at a
  have t := q_tup3 (q_tup1 v2) (n_mul (a := 2) (b := i + 1) (by omega) (by omega) (k1 2 (e0 1 (i + 1)) M) v2) a
  exact ⟨[i + 1], _, _, _, M, (kt1 (j := 1) rfl _ M).trans (q_ret t rfl), TK.chk_known (TK.known_one i hi), hM.mono (by omega)⟩
theorem kind2 (hc : Cl cells) (hM : Hd cells B M) (hB : B + 200 ≤ 1000000) : Kd cells (B + 8) T4__law_known 2 o M := by
  have it := q_rng1 (n := 4) (f := eC (.int 4)) (ρ := e0 2 o) (M := M) (M' := M) (by omega) rfl
  obtain ⟨L, M1, e1, hl, hP, h1⟩ := lc_draws (ρ := e0 2 o) (j := 13) (f := eBin opAdd (eC (.int 1)) (eBin opMulA (eC (.int 2)) (eCall 2 F__law_draw (aCons (eVar 0) (aCons (eC (.int 10)) aNil))))) (fun v => v % 2 = 1 ∧ v ≤ 20) it (by omega) (show 13 < 16 by decide) hM (by omega) (fun x C M' hC hM' => by
    obtain ⟨r, M2, e2, hr, h2⟩ := q_dr (ρ := (e0 2 o).set 13 (some (.d x))) (f := eVar 0) (g := eC (.int 10)) (many := 10) hc hM' hC (by decide) (by decide +kernel) rfl rfl
    exact ⟨1 + 2 * r, M2, n_add (k1 1 _ M') (n_mul (a := 2) (b := r) (by omega) (by omega) (k1 2 _ M') e2), ⟨by omega, by omega⟩, h2⟩)
  have ap := q_appLL (q_lst1 (k1 1 (e0 2 o) M)) (q_F e1) (by rw [List.length_map, hl]; show 1 + 4 ≤ most; unfold most; omega)
  obtain ⟨Q, e2, ha, hm, hl2⟩ := q_srt (l := 1 :: L) (by rw [List.length_cons]; omega) (show eBin opAdd _ _ (e0 2 o) M = .ok (.d (.lst ((1 :: L).map nI))) M1 from ap)
  rw [List.length_cons, hl] at hl2
  have h1m : 1 ∈ Q := (hm 1).mpr List.mem_cons_self
  have ho : ∀ t ∈ Q, t % 2 = 1 ∧ t ≤ 20 := fun t ht => by
    rcases List.mem_cons.mp ((hm t).mp ht) with rfl | h
    · exact ⟨rfl, by omega⟩
    · exact hP t h
  obtain ⟨s, hs⟩ := lot_asc (l := Q) (fun z => by rw [z] at h1m; cases h1m) ha (fun t ht => by have := ho t ht; omega) (by omega)
  have st : sAsg 3 (eB bSortS (aCons (eBin opAdd (eLst (aCons (eC (.int 1)) aNil)) (eF (fLc (iO rng1 (aCons (eC (.int 4)) aNil)) (.one 13) [13] tYesE (eBin opAdd (eC (.int 1)) (eBin opMulA (eC (.int 2)) (eCall 2 F__law_draw (aCons (eVar 0) (aCons (eC (.int 10)) aNil)))))))) aNil)) (e0 2 o) M = .nx (eK 2 o (some (.d (.lst (Q.map nI)))) none none none none none none none none none) M1 := q_set e2 rfl (show 3 < 16 by decide)
  have t := q_tup3 (q_tupL (show eVar 3 (eK 2 o (some (.d (.lst (Q.map nI)))) none none none none none none none none none) M1 = .ok (.d (.lst (Q.map nI))) M1 from rfl)) (k1 2 _ M1) (q_lst2 (k1 0 _ M1) (k1 1 _ M1))
  exact ⟨Q, s, 2, [0, 1], M1, (kt1 (j := 2) rfl _ M).trans ((q_nx st).trans (q_ret t rfl)), TK.known_odd hs h1m (fun t ht => (ho t ht).1), h1.mono (by omega)⟩
theorem kind3 (hc : Cl cells) (hM : Hd cells B M) (hB : B + 8 ≤ 1000000) : Kd cells (B + 8) T5__law_known 3 o M := by
  obtain ⟨r, M1, e1, hr, h1⟩ := q_dr (ρ := e0 3 o) (f := eVar 0) (g := eC (.int 10)) (many := 10) hc hM (by omega) (by decide) (by decide +kernel) rfl rfl
  have ev := n_mul (a := 2) (b := 1 + r) (by omega) (by omega) (k1 2 (e0 3 o) M) (n_add (k1 1 (e0 3 o) M) e1)
  rw [show 1 + r = r + 1 by omega] at ev
  have st : sAsg 4 (eBin opMulA (eC (.int 2)) (eBin opAdd (eC (.int 1)) (eCall 2 F__law_draw (aCons (eVar 0) (aCons (eC (.int 10)) aNil))))) (e0 3 o) M = .nx (eK 3 o none (some (.d (nI (2 * (r + 1))))) none none none none none none none none) M1 := q_set ev rfl (show 4 < 16 by decide)
  have v4 : eVar 4 (eK 3 o none (some (.d (nI (2 * (r + 1))))) none none none none none none none none) M1 = .ok (.d (nI (2 * (r + 1)))) M1 := rfl
  have hv := n_div (b := 2) (by omega) (by omega) v4 (k1 2 _ M1)
  rw [show 2 * (r + 1) / 2 = r + 1 by omega] at hv
  have ap := q_appLL (q_mulL (l := [0, 1]) (k := r + 1) (by omega) (by simp) (q_lst2 (k1 0 (eK 3 o none (some (.d (nI (2 * (r + 1))))) none none none none none none none none) M1) (k1 1 _ M1)) hv) (q_lst1 (k1 2 _ M1)) (by simp; unfold most; omega)
  have t := q_tup3 (q_tup2 (k1 1 (eK 3 o none (some (.d (nI (2 * (r + 1))))) none none none none none none none none) M1) v4) (n_add v4 (k1 1 _ M1)) ap
  have er : retD (.d (.tup [.tup [.int 1, nI (2 * (r + 1))], .int ((2 * (r + 1) + 1 : Nat) : Int), .lst ((List.replicate (r + 1) [0, 1]).flatten.map nI ++ [.int 2])])) = some (KV [1, 2 * (r + 1)] (2 * (r + 1) + 1) ((List.replicate (r + 1) [0, 1]).flatten ++ [2])) := by
    unfold KV
    rw [List.map_append]
    rfl
  exact ⟨[1, 2 * (r + 1)], _, _, _, M1, (kt1 (j := 3) rfl _ M).trans ((q_nx st).trans (q_ret t er)), TK.chk_known (TK.known_even r hr), h1.mono (by omega)⟩
theorem kind4 {i : Nat} (hi : i < 10) (hc : Cl cells) (hM : Hd cells B M) (hB : B + 8 ≤ 1000000) : Kd cells (B + 8) T6__law_known 4 (i + 1) M := by
  have h60 : (10 : Nat) ≤ 10 ^ 60 := by decide +kernel
  obtain ⟨r, M1, e1, hr, h1⟩ := q_dr (ρ := e0 4 (i + 1)) (f := eVar 0) (g := eVar 2) (many := i + 1) hc hM (by omega) (by omega) (Nat.le_trans (show i + 1 ≤ 10 by omega) h60) rfl rfl
  have v2 : ∀ x5 M, eVar 2 (eK 4 (i + 1) none none x5 none none none none none none none) M = .ok (.d (nI (i + 1))) M := fun _ _ => rfl
  have f1 := n_sub (by omega) (n_mul (a := 2) (b := i + 1) (by omega) (by omega) (k1 2 (e0 4 (i + 1)) M) (v2 none M)) e1
  have st1 : sAsg 5 (eBin opSub (eBin opMulA (eC (.int 2)) (eVar 2)) (eCall 2 F__law_draw (aCons (eVar 0) (aCons (eVar 2) aNil)))) (e0 4 (i + 1)) M = .nx (eK 4 (i + 1) none none (some (.d (nI (2 * (i + 1) - r)))) none none none none none none none) M1 := q_set f1 rfl (show 5 < 16 by decide)
  have mx := n_max (show eVar 5 (eK 4 (i + 1) none none (some (.d (nI (2 * (i + 1) - r)))) none none none none none none none) M1 = .ok (.d (nI (2 * (i + 1) - r))) M1 from rfl) (v2 (some (.d (nI (2 * (i + 1) - r)))) M1)
  rw [show max (2 * (i + 1) - r) (i + 1) = 2 * (i + 1) - r by omega] at mx
  have ad := n_add (v2 (some (.d (nI (2 * (i + 1) - r)))) M1) (k1 11 _ M1)
  have m3 : eB bMin3 (aCons (eC (.int 20)) (aCons (eBin opAdd (eVar 2) (eC (.int 11))) (aCons (eB bMax (aCons (eVar 5) (aCons (eVar 2) aNil))) aNil))) (eK 4 (i + 1) none none (some (.d (nI (2 * (i + 1) - r)))) none none none none none none none) M1 = .ok (.d (nI (min 20 (min (i + 12) (2 * (i + 1) - r))))) M1 := by
    rw [q_B (q_cons (k1 20 _ M1) (q_cons2 ad mx))]
    show R.ok (Ev.d (.int (if ((i + 1 + 11 : Nat) : Int) < 20 then (if ((2 * (i + 1) - r : Nat) : Int) < ((i + 1 + 11 : Nat) : Int) then ((2 * (i + 1) - r : Nat) : Int) else ((i + 1 + 11 : Nat) : Int)) else (if ((2 * (i + 1) - r : Nat) : Int) < 20 then ((2 * (i + 1) - r : Nat) : Int) else 20)))) M1 = _
    have : (if ((i + 1 + 11 : Nat) : Int) < 20 then (if ((2 * (i + 1) - r : Nat) : Int) < ((i + 1 + 11 : Nat) : Int) then ((2 * (i + 1) - r : Nat) : Int) else ((i + 1 + 11 : Nat) : Int)) else (if ((2 * (i + 1) - r : Nat) : Int) < 20 then ((2 * (i + 1) - r : Nat) : Int) else 20)) = ((min 20 (min (i + 12) (2 * (i + 1) - r)) : Nat) : Int) := by
      split <;> split <;> omega
    rw [this]; rfl
  have K := TK.chk_known (TK.known_from i hi r hr)
  have hf1 : i + 1 ≤ min 20 (min (i + 12) (2 * (i + 1) - r)) := by omega
  have hf2 : min 20 (min (i + 12) (2 * (i + 1) - r)) ≤ 20 := by omega
  generalize hfar : min 20 (min (i + 12) (2 * (i + 1) - r)) = far at *
  have st2 : sAsg 5 (eB bMin3 (aCons (eC (.int 20)) (aCons (eBin opAdd (eVar 2) (eC (.int 11))) (aCons (eB bMax (aCons (eVar 5) (aCons (eVar 2) aNil))) aNil)))) (eK 4 (i + 1) none none (some (.d (nI (2 * (i + 1) - r)))) none none none none none none none) M1 = .nx (eK 4 (i + 1) none none (some (.d (nI far))) none none none none none none none) M1 := q_set m3 rfl (show 5 < 16 by decide)
  have v5 : eVar 5 (eK 4 (i + 1) none none (some (.d (nI far))) none none none none none none none) M1 = .ok (.d (nI far)) M1 := rfl
  have rg := q_rg2T (a := i + 1) (b := far + 1) (by omega) (by omega) (v2 (some (.d (nI far))) M1) (n_add v5 (k1 1 _ M1))
  rw [show far + 1 - (i + 1) = far - i by omega] at rg
  have sm := n_add (v2 (some (.d (nI far))) M1) v5
  have it := q_rng1 (n := i + 1 + far) (by omega) sm
  have lc := lc_rng (a := 0) (j := 14) (f := eBin opDiv (eVar 14) (eVar 2)) (fun x => nI (x / (i + 1))) it (by unfold most; omega) (show 14 < 16 by decide) fun x hx => by
    rw [Nat.zero_add]
    exact n_div (a := x) (b := i + 1) (by omega) (by omega) rfl rfl
  have t := q_tup3 rg sm (q_F lc)
  have er : retD (.d (.tup [HL (List.range' (i + 1) (far - i)), .int ((i + 1 + far : Nat) : Int), .lst ((List.range (i + 1 + far)).map fun x => nI (x / (i + 1)))])) = some (KV (List.range' (i + 1) (far - i)) (i + 1 + far) ((List.range (i + 1 + far)).map (· / (i + 1)))) := by
    unfold KV
    rw [List.map_map]
    rfl
  exact ⟨_, _, _, _, M1, (kt1 (j := 4) rfl _ M).trans ((q_nx st1).trans ((q_nx st2).trans (q_ret t er))), K, h1.mono (by omega)⟩
end
end K23

set_option Elab.async false
set_option linter.all false
set_option maxRecDepth 100000
set_option maxHeartbeats 1000000
/-! law k23, plainly: a lot whose numbers are known is drawn. -/
namespace K23
open PySem PySem.Spec PyProof.Rows L2 DL
open TK (Lot G rows zr Known)
section
variable {cells : List Int} {B : Nat} {M : Mem} {k o : Nat}
theorem sum_same (c : Nat) : ∀ l : List Nat, (l.flatMap fun x => List.replicate c x).length = l.length * c
  | [] => by simp
  | a :: l => by rw [List.flatMap_cons, List.length_append, List.length_replicate, sum_same c l, List.length_cons, Nat.succ_mul]; omega
theorem k5_loop {Z : List Nat} {c : Nat} {w6 w8 w9 : Option Ev} (hz : Z.length ≤ 6) (hcc : c ≤ 6) : ∃ x12, T11__law_known (eK k o none none none w6 (some (.d (nI c))) w8 w9 (some (.d (.lst (Z.map nI)))) (some (.d (.lst (([] : List Nat).map nI)))) none) M = .nx (eK k o none none none w6 (some (.d (nI c))) w8 w9 (some (.d (.lst (Z.map nI)))) (some (.d (.lst ((Z.flatMap fun x => List.replicate c x).map nI)))) x12) M := by
  obtain ⟨ρ', M', e, rfl, x12, rfl⟩ := forL_inv (g := .one 12) (f := B10__law_known) (fun j ρ M' => M = M' ∧ ∃ x12, ρ = eK k o none none none w6 (some (.d (nI c))) w8 w9 (some (.d (.lst (Z.map nI)))) (some (.d (.lst (((Z.take j).flatMap fun x => List.replicate c x).map nI)))) x12) (Z.map nI) 0 (eK k o none none none w6 (some (.d (nI c))) w8 w9 (some (.d (.lst (Z.map nI)))) (some (.d (.lst (([] : List Nat).map nI)))) none) M (fun j d ρ M3 hd hj => by
    obtain ⟨rfl, x12, rfl⟩ := hj
    rw [Nat.zero_add]
    rw [List.getElem?_map] at hd
    cases hzj : Z[j]? with
    | none => rw [hzj] at hd; cases hd
    | some z =>
      rw [hzj] at hd
      obtain rfl : nI z = d := Option.some.inj hd
      have tk : Z.take (j + 1) = Z.take j ++ [z] := by rw [List.take_add_one, hzj]; rfl
      have hlen := sum_same c (Z.take j)
      have hle : (Z.take j).length * c ≤ 6 * 6 := Nat.mul_le_mul (by rw [List.length_take]; omega) hcc
      rw [tk, List.flatMap_append]
      generalize (Z.take j).flatMap (fun x => List.replicate c x) = Q at *
      have ap := q_appLL (ρ := eK k o none none none w6 (some (.d (nI c))) w8 w9 (some (.d (.lst (Z.map nI)))) (some (.d (.lst (Q.map nI)))) (some (.d (nI z)))) (M := M) (M1 := M) (f := eVar 11) rfl (q_mulL (l := [z]) (k := c) (by omega) (by simp) (q_lst1 (f := eVar 12) (a := nI z) (M' := M) rfl) (g := eVar 7) (M2 := M) rfl) (by rw [List.length_map, hlen]; unfold most; simp only [List.length_map, List.length_flatten, List.map_replicate, List.sum_replicate_nat, List.length_singleton]; omega)
      have ee : Q.map nI ++ (List.replicate c [z]).flatten.map nI = (Q ++ [z].flatMap fun x => List.replicate c x).map nI := by
        rw [← List.map_append]
        simp
      rw [ee] at ap
      exact ⟨_, _, M, rfl, q_set ap rfl (show 11 < 16 by decide), rfl, _, rfl⟩) ⟨rfl, none, rfl⟩
  rw [List.length_map, Nat.zero_add, List.take_length] at e
  exact ⟨x12, q_for (it := iSeq false (eVar 10)) (M' := M) rfl e⟩
theorem k5_end {lot A : List Nat} {c p : Nat} {w6 w10 w12 : Option Ev} (hl : lot.length ≤ 100) (hcc : c ≤ 6) (hp : p ≤ 100) (hx : ∀ t ∈ lot, t ≤ 100) : T12__law_known (eK k o none none none w6 (some (.d (nI c))) (some (.d (HL lot))) (some (.d (nI p))) w10 (some (.d (.lst (A.map nI)))) w12) M = .rt (KV (lot.map (c * ·)) (c * p) A) M := by
  have lc := lc_one (i := iSeq true (eVar 8)) (j := 15) (f := eBin opMulA (eVar 7) (eVar 15)) (ρ := eK k o none none none w6 (some (.d (nI c))) (some (.d (HL lot))) (some (.d (nI p))) w10 (some (.d (.lst (A.map nI)))) w12) (M := M) (l := lot) nI (fun t => nI (c * t)) rfl (by unfold most; omega) (show 15 < 16 by decide) fun t ht => by
    have := hx t ht
    exact n_mul (a := c) (b := t) (by omega) (by omega) rfl rfl
  have t := q_tup3 (q_tupL (q_F lc)) (n_mul (a := c) (b := p) (f := eVar 7) (g := eVar 9) (M' := M) (M'' := M) (by omega) (by omega) rfl rfl) (show eVar 11 (eK k o none none none w6 (some (.d (nI c))) (some (.d (HL lot))) (some (.d (nI p))) w10 (some (.d (.lst (A.map nI)))) w12) M = .ok (.d (.lst (A.map nI))) M from rfl)
  have er : KV (lot.map (c * ·)) (c * p) A = .tup [.tup (lot.map fun t => nI (c * t)), .int ((c * p : Nat) : Int), .lst (A.map nI)] := by
    unfold KV HL
    rw [List.map_map]
    rfl
  rw [er]
  exact q_ret t rfl
end
end K23

set_option Elab.async false
set_option linter.all false
set_option maxRecDepth 100000
set_option maxHeartbeats 1000000
/-! law k23, plainly: a lot whose numbers are known is drawn. -/
namespace K23
open PySem PySem.Spec PyProof.Rows L2 DL
open TK (Lot G rows zr Known)
section
variable {cells : List Int} {B : Nat} {M : Mem} {k o : Nat}
theorem q_asgT {ρ ρ' : DL.Env} {M M' : Mem} {g : Tgt} {f : Sm Ev} {d : D} (h : f ρ M = .ok (.d d) M') (ht : tgE g ρ d = some ρ') : sAsgT g f ρ M = .nx ρ' M' := by simp only [sAsgT, h, sE, ht]
theorem kind5 (hc : Cl cells) (hM : Hd cells B M) (hB : B + 8 ≤ 1000000) : Kd cells (B + 8) (sSeq T7__law_known (sSeq T8__law_known (sSeq T9__law_known (sSeq T11__law_known T12__law_known)))) 5 o M := by
  obtain ⟨r, M1, e1, hr, h1⟩ := q_dr (ρ := e0 5 o) (f := eVar 0) (g := eC (.int 4)) (many := 4) hc hM (by omega) (by decide) (by decide +kernel) rfl rfl
  obtain ⟨m, M2, e2, hm, h2⟩ := q_dr (ρ := e0 5 o) (f := eVar 0) (g := eC (.int 4)) (many := 4) hc h1 (by omega) (by decide) (by decide +kernel) rfl rfl
  have q7 := q_tup2 (n_add e1 (k1 1 (e0 5 o) M1)) (n_add (k1 2 (e0 5 o) M1) e2)
  rw [show 2 + m = m + 2 by omega] at q7
  have K := TK.chk_known (TK.known_wide r hr m hm)
  have al := all_to_ok (m := r + 1) (d := .ob 0) (M := M2) (by omega)
  have zl : (List.range (r + 2)).length ≤ 6 := by rw [List.length_range]; omega
  have ll : (List.range' 1 (r + 1)).length ≤ 100 := by rw [List.length_range']; omega
  have lx : ∀ t ∈ List.range' 1 (r + 1), t ≤ 100 := fun t ht => by have := List.mem_range'_1.mp ht; omega
  rw [show r + 1 + 1 = r + 2 by omega] at al
  have hp : r + 2 ≤ 100 := by omega
  have hcc : m + 2 ≤ 6 := by omega
  generalize List.range (r + 2) = Z at *
  generalize List.range' 1 (r + 1) = lot at *
  generalize (m + 2) * (r + 1) = s at *
  generalize r + 2 = p at *
  generalize r + 1 = fw at *
  generalize m + 2 = c at *
  have s7 : T7__law_known (e0 5 o) M = .nx (eK 5 o none none none (some (.d (nI fw))) (some (.d (nI c))) none none none none none) M2 := q_asgT q7 rfl
  have c8 := q_call (n := 2) (q_cons2 (show eVar 0 (eK 5 o none none none (some (.d (nI fw))) (some (.d (nI c))) none none none none none) M2 = .ok (.d (.ob 0)) M2 from rfl) (show eVar 6 (eK 5 o none none none (some (.d (nI fw))) (some (.d (nI c))) none none none none none) M2 = .ok (.d (nI fw)) M2 from rfl)) rfl rfl al
  have s8 : T8__law_known (eK 5 o none none none (some (.d (nI fw))) (some (.d (nI c))) none none none none none) M2 = .nx (eK 5 o none none none (some (.d (nI fw))) (some (.d (nI c))) (some (.d (HL lot))) (some (.d (nI p))) (some (.d (.lst (Z.map nI)))) none none) M2 := q_asgT c8 rfl
  have s9 : T9__law_known (eK 5 o none none none (some (.d (nI fw))) (some (.d (nI c))) (some (.d (HL lot))) (some (.d (nI p))) (some (.d (.lst (Z.map nI)))) none none) M2 = .nx (eK 5 o none none none (some (.d (nI fw))) (some (.d (nI c))) (some (.d (HL lot))) (some (.d (nI p))) (some (.d (.lst (Z.map nI)))) (some (.d (.lst (([] : List Nat).map nI)))) none) M2 := rfl
  obtain ⟨x12, s11⟩ := k5_loop (M := M2) (k := 5) (o := o) (Z := Z) (c := c) (w6 := some (.d (nI fw))) (w8 := some (.d (HL lot))) (w9 := some (.d (nI p))) zl hcc
  exact ⟨_, _, _, _, M2, (q_nx s7).trans ((q_nx s8).trans ((q_nx s9).trans ((q_nx s11).trans (k5_end ll hcc hp lx)))), K, h2.mono (by omega)⟩
theorem known_ok (hc : Cl cells) (hM : Hd cells B M) (hB : B + 300 ≤ 1000000) : ∃ lot s p A M', F__law_known [.d (.ob 0)] M = .ok (KV lot p A) M' ∧ Known lot s p A ∧ Hd cells (B + 10) M' := by
  unfold F__law_known; rw [fnOf_eq]
  obtain ⟨k, M1, e1, hk, h1⟩ := q_dr (ρ := [some (.d (.ob 0)), none, none, none, none, none, none, none, none, none, none, none, none, none, none, none]) (f := eVar 0) (g := eC (.int 6)) (many := 6) hc hM (by omega) (by decide) (by decide +kernel) rfl rfl
  obtain ⟨i, M2, e2, hi, h2⟩ := q_dr (ρ := [some (.d (.ob 0)), none, none, none, none, none, none, none, none, none, none, none, none, none, none, none]) (f := eVar 0) (g := eC (.int 10)) (many := 10) hc h1 (by omega) (by decide) (by decide +kernel) rfl rfl
  have q1 := q_tup2 e1 (n_add (k1 1 _ M1) e2)
  rw [show 1 + i = i + 1 by omega] at q1
  have s1 : T1__law_known [some (.d (.ob 0)), none, none, none, none, none, none, none, none, none, none, none, none, none, none, none] M = .nx (e0 k (i + 1)) M2 := by
    simp only [T1__law_known, sAsgT, q1, sE]; rfl
  have fin : ∀ f : Ss, Kd cells (B + 1 + 1 + 8) f k (i + 1) M2 → sSeq T2__law_known (sSeq T3__law_known (sSeq T4__law_known (sSeq T5__law_known (sSeq T6__law_known (sSeq T7__law_known (sSeq T8__law_known (sSeq T9__law_known (sSeq T11__law_known T12__law_known)))))))) (e0 k (i + 1)) M2 = f (e0 k (i + 1)) M2 → ∃ lot s p A M', fnEnd (S__law_known [some (.d (.ob 0)), none, none, none, none, none, none, none, none, none, none, none, none, none, none, none] M) = .ok (KV lot p A) M' ∧ Known lot s p A ∧ Hd cells (B + 10) M' := fun f ⟨lot, s, p, A, M', e, hK, hH⟩ hf => by
    refine ⟨lot, s, p, A, M', ?_, hK, hH⟩
    rw [S__law_known, q_nx s1, hf, e]
    rfl
  have n0 : k ≠ 0 → T2__law_known (e0 k (i + 1)) M2 = .nx (e0 k (i + 1)) M2 := fun h => kt0 (j := 0) h _ M2
  have n1 : k ≠ 1 → T3__law_known (e0 k (i + 1)) M2 = .nx (e0 k (i + 1)) M2 := fun h => kt0 (j := 1) h _ M2
  have n2 : k ≠ 2 → T4__law_known (e0 k (i + 1)) M2 = .nx (e0 k (i + 1)) M2 := fun h => kt0 (j := 2) h _ M2
  have n3 : k ≠ 3 → T5__law_known (e0 k (i + 1)) M2 = .nx (e0 k (i + 1)) M2 := fun h => kt0 (j := 3) h _ M2
  have n4 : k ≠ 4 → T6__law_known (e0 k (i + 1)) M2 = .nx (e0 k (i + 1)) M2 := fun h => kt0 (j := 4) h _ M2
  show ∃ lot s p A M', fnEnd (S__law_known [some (.d (.ob 0)), none, none, none, none, none, none, none, none, none, none, none, none, none, none, none] M) = .ok (KV lot p A) M' ∧ Known lot s p A ∧ Hd cells (B + 10) M'
  have rt : ∀ {f : Ss} (g : Ss), Kd cells (B + 1 + 1 + 8) f k (i + 1) M2 → sSeq f g (e0 k (i + 1)) M2 = f (e0 k (i + 1)) M2 := fun g ⟨lot, s, p, A, M', e, _, _⟩ => by rw [q_rt e, e]
  rcases (show k = 0 ∨ k = 1 ∨ k = 2 ∨ k = 3 ∨ k = 4 ∨ k = 5 by omega) with h | h | h | h | h | h
  · have K : Kd cells (B + 1 + 1 + 8) T2__law_known k (i + 1) M2 := by subst h; exact kind0 hc h2 (by omega)
    exact fin _ K (rt _ K)
  · have K : Kd cells (B + 1 + 1 + 8) T3__law_known k (i + 1) M2 := by subst h; exact kind1 hi h2
    exact fin _ K ((q_nx (n0 (by omega))).trans (rt _ K))
  · have K : Kd cells (B + 1 + 1 + 8) T4__law_known k (i + 1) M2 := by subst h; exact kind2 hc h2 (by omega)
    exact fin _ K ((q_nx (n0 (by omega))).trans ((q_nx (n1 (by omega))).trans (rt _ K)))
  · have K : Kd cells (B + 1 + 1 + 8) T5__law_known k (i + 1) M2 := by subst h; exact kind3 hc h2 (by omega)
    exact fin _ K ((q_nx (n0 (by omega))).trans ((q_nx (n1 (by omega))).trans ((q_nx (n2 (by omega))).trans (rt _ K))))
  · have K : Kd cells (B + 1 + 1 + 8) T6__law_known k (i + 1) M2 := by subst h; exact kind4 hi hc h2 (by omega)
    exact fin _ K ((q_nx (n0 (by omega))).trans ((q_nx (n1 (by omega))).trans ((q_nx (n2 (by omega))).trans ((q_nx (n3 (by omega))).trans (rt _ K)))))
  · have K : Kd cells (B + 1 + 1 + 8) (sSeq T7__law_known (sSeq T8__law_known (sSeq T9__law_known (sSeq T11__law_known T12__law_known)))) k (i + 1) M2 := by subst h; exact kind5 hc h2 (by omega)
    exact fin _ K ((q_nx (n0 (by omega))).trans ((q_nx (n1 (by omega))).trans ((q_nx (n2 (by omega))).trans ((q_nx (n3 (by omega))).trans (q_nx (n4 (by omega)))))))
end
end K23

set_option Elab.async false
set_option linter.all false
set_option maxRecDepth 100000
set_option maxHeartbeats 1000000
/-! law k23, plainly: what is told of a known lot. -/
namespace K23
open PySem PySem.Spec PyProof.Rows L2 DL
open TK (Lot G rows zr Known)
theorem q_is {ρ : DL.Env} {M M' M'' : Mem} {f g : Sm Ev} {d : D} (h1 : f ρ M = .ok (.d d) M') (h2 : g ρ M' = .ok (.d d) M'') (hs : LN.Sf 4 d) : eCall 2 F__law_is (aCons f (aCons g aNil)) ρ M = .ok (bv true) M'' :=
  q_call (n := 2) (q_cons2 h1 h2) rfl rfl (sf_is hs M'')
theorem sf_HL {n : Nat} {l : List Nat} (h : l.length ≤ 1000) : LN.Sf (n + 2) (HL l) := LN.Sf.tup (n := n + 1) (by rw [List.length_map]; unfold most; omega) fun d hd => by
  obtain ⟨x, _, rfl⟩ := List.mem_map.mp hd
  exact LN.Sf.int n _
theorem sf_told {a b : Nat} {l : List Nat} (h : l.length ≤ 1000) : LN.Sf 4 (.lst [nI a, nI b, HL l]) := LN.Sf.lst (n := 3) (by unfold most; simp) fun d hd => by
  simp only [List.mem_cons, List.not_mem_nil, or_false] at hd
  rcases hd with rfl | rfl | rfl
  · exact LN.Sf.int 2 _
  · exact LN.Sf.int 2 _
  · exact sf_HL h
theorem sf_bools {a b : Bool} : LN.Sf 4 (.lst [.bl a, .bl b]) := LN.Sf.lst (n := 3) (by unfold most; simp) fun d hd => by
  simp only [List.mem_cons, List.not_mem_nil, or_false] at hd
  rcases hd with rfl | rfl <;> exact LN.Sf.bl 2 _
theorem sf_pair {a b : Nat} {n : Nat} : LN.Sf (n + 2) (.tup [nI a, nI b]) := LN.Sf.tup (n := n + 1) (by unfold most; simp) fun d hd => by
  simp only [List.mem_cons, List.not_mem_nil, or_false] at hd
  rcases hd with rfl | rfl <;> exact LN.Sf.int n _
/-! what the numbers say -/
theorem known_take {lot A : List Nat} {s p k : Nat} (K : Known lot s p A) (hk : k ≤ p) : (A.take k).count 0 = zr (G lot) 0 k := by
  unfold zr
  congr 1
  refine List.ext_getElem? fun i => ?_
  rw [List.getElem?_take, List.getElem?_map]
  by_cases c : i < k
  · rw [if_pos c, List.getElem?_range c, Option.map_some, Nat.zero_add, K.num, Nat.mod_eq_of_lt (by omega), List.getD_eq_getElem?_getD, List.getElem?_eq_getElem (by rw [K.len]; omega)]
    rfl
  · rw [if_neg c, List.getElem?_eq_none (by rw [List.length_range]; omega)]; rfl
theorem known_per {lot A : List Nat} {s p : Nat} (K : Known lot s p A) : TK.Per lot 0 p := ⟨K.p1, fun j _ => by rw [K.num, K.num, Nat.add_mod_right]⟩
theorem known_below {lot A : List Nat} {s p : Nat} (K : Known lot s p A) (h : Nat) : h / p * A.count 0 + (A.take (h % p)).count 0 = zr (G lot) 0 h := by
  have md := Nat.mod_lt h K.p1
  have z := TK.zr_below (known_per K) (Nat.zero_le h)
  rw [Nat.sub_zero] at z
  have a := known_take K (Nat.le_refl p)
  rw [List.take_of_length_le (by rw [K.len]; exact Nat.le_refl _)] at a
  rw [a, known_take K (Nat.le_of_lt md), z]
  have : zr (G lot) 0 0 = 0 := rfl
  omega
theorem join_yes {lot A : List Nat} {s p a k : Nat} (K : Known lot s p A) (ha : a ∈ lot) : ((List.range (0 + p)).all fun i => !decide (G lot i = G lot (i + (a + p * k)))) = true := by
  rw [List.all_eq_true]
  intro i _
  have e := TK.per_mul (known_per K) k (i + a) (Nat.zero_le _)
  rw [show i + (a + p * k) = i + a + k * p by rw [Nat.mul_comm]; omega, e]
  have : G lot i ≠ G lot (i + a) := fun z => by
    have m := (OC.mex_is (TK.opts (G lot) lot (i + a))).1
    rw [← TK.G_eq K.L.pos] at m
    refine m ?_
    rw [← z]
    exact List.mem_map.mpr ⟨a, List.mem_filter.mpr ⟨ha, by simp⟩, by rw [Nat.add_sub_cancel]⟩
  simp [this]
theorem join_no {lot A : List Nat} {s p k : Nat} (K : Known lot s p A) : ((List.range (0 + p)).all fun i => !decide (G lot i = G lot (i + p * k))) = false := by
  rw [Bool.eq_false_iff]
  intro z
  rw [List.all_eq_true] at z
  have := z 0 (List.mem_range.mpr (by have := K.p1; omega))
  have e := TK.per_mul (known_per K) k 0 (Nat.le_refl _)
  rw [Nat.mul_comm] at e
  rw [e] at this
  simp at this
theorem known_rows {lot A : List Nat} {s p n : Nat} (K : Known lot s p A) : (rows lot n).map nI = (List.range n).map fun i => nI (A.getD (i % p) 0) := by
  rw [TK.rows_eq, List.map_map]
  refine List.map_congr_left fun i _ => ?_
  show nI (G lot i) = _
  rw [K.num]
section
variable {cells : List Int} {B : Nat} {M : Mem} {lot A : List Nat} {s p : Nat}
@[reducible] def eR (lot : List Nat) (p : Nat) (A : List Nat) (x4 x5 x6 x7 x8 x9 x10 x11 x12 : Option Ev) : DL.Env := [some (.d (.ob 0)), some (.d (HL lot)), some (.d (nI p)), some (.d (.lst (A.map nI))), x4, x5, x6, x7, x8, x9, x10, x11, x12]
theorem q_ixT {ρ : DL.Env} {M' M'' : Mem} {f g : Sm Ev} {l : List Nat} {k : Nat} (hk : k < l.length) (h1 : f ρ M = .ok (.d (HL l)) M') (h2 : g ρ M' = .ok (.d (.int (k : Int))) M'') : eBin opIx f g ρ M = .ok (.d (nI l[k])) M'' := by
  have e : atI (l.map nI) (k : Int) = some (nI l[k]) := by
    rw [atI_get', List.getElem?_map, List.getElem?_eq_getElem hk]; rfl
  rw [q_bin h1 h2]
  simp only [opIx, HL, seqOf, e]
theorem known_turn (K : Known lot s p A) (hc : Cl cells) (hM : Hd cells B M) (hB : B + 10 ≤ 1000000) (x4 x5 x6 x7 x8 x9 x10 x11 x12 : Option Ev) :
    ∃ y6 y7 y8 y9 y10 y11 y12 M', B5__law_is_known_right (eR lot p A x4 x5 x6 x7 x8 x9 x10 x11 x12) M = .nx (eR lot p A x4 x5 y6 y7 y8 y9 y10 y11 y12) M' ∧ Hd cells (B + 8) M' := by
  have L := K.L
  have hp1 := K.p1
  have hp30 := K.p30
  have s20 := L.s20
  have T := period_known K
  have HA : Hs (.d (.lst (A.map nI))) A := .inl rfl
  have tenn : (10 : Nat) ^ 59 ≤ 10 ^ 60 := by decide +kernel
  obtain ⟨h, M1, e1, hh, h1⟩ := heap_ok hc hM (by omega)
  have hh : h ≤ 10 ^ 60 := by omega
  have s1 : sAsg 6 (eCall 1 F__law_heap (aCons (eVar 0) aNil)) (eR lot p A x4 x5 x6 x7 x8 x9 x10 x11 x12) M = .nx (eR lot p A x4 x5 (some (.d (nI h))) x7 x8 x9 x10 x11 x12) M1 := q_set (q_call (n := 1) (q_cons1 (show eVar 0 (eR lot p A x4 x5 x6 x7 x8 x9 x10 x11 x12) M = .ok (.d (.ob 0)) M from rfl)) rfl rfl e1) rfl (show 6 < 13 by decide)
  have s2 : sAsg 7 (eBin opMod (eB bInt (aCons (eVar 6) aNil)) (eVar 2)) (eR lot p A x4 x5 (some (.d (nI h))) x7 x8 x9 x10 x11 x12) M1 = .nx (eR lot p A x4 x5 (some (.d (nI h))) (some (.d (nI (h % p)))) x8 x9 x10 x11 x12) M1 := q_set (n_mod (a := h) (b := p) (M' := M1) hp1 (q_int rfl) rfl) rfl (show 7 < 13 by decide)
  have md := Nat.mod_lt h hp1
  have w3 : ∀ x7 x8 x9 x10 x11 x12 M, eVar 3 (eR lot p A x4 x5 (some (.d (nI h))) x7 x8 x9 x10 x11 x12) M = .ok (.d (.lst (A.map nI))) M := fun _ _ _ _ _ _ _ => rfl
  have w6 : ∀ x7 x8 x9 x10 x11 x12 M, eVar 6 (eR lot p A x4 x5 (some (.d (nI h))) x7 x8 x9 x10 x11 x12) M = .ok (.d (nI h)) M := fun _ _ _ _ _ _ _ => rfl
  have w2 : ∀ x7 x8 x9 x10 x11 x12 M, eVar 2 (eR lot p A x4 x5 (some (.d (nI h))) x7 x8 x9 x10 x11 x12) M = .ok (.d (nI p)) M := fun _ _ _ _ _ _ _ => rfl
  have w1 : ∀ x7 x8 x9 x10 x11 x12 M, eVar 1 (eR lot p A x4 x5 (some (.d (nI h))) x7 x8 x9 x10 x11 x12) M = .ok (.d (HL lot)) M := fun _ _ _ _ _ _ _ => rfl
  have w0 : ∀ x7 x8 x9 x10 x11 x12 M, eVar 0 (eR lot p A x4 x5 (some (.d (nI h))) x7 x8 x9 x10 x11 x12) M = .ok (.d (.ob 0)) M := fun _ _ _ _ _ _ _ => rfl
  have s3 : sAsg 8 (eBin opAdd (eBin opMulA (eBin opDiv (eVar 6) (eVar 2)) (eCntI (eVar 3) 0)) (eCntI (eSl (eVar 3) oNone (oSome (eVar 7))) 0)) (eR lot p A x4 x5 (some (.d (nI h))) (some (.d (nI (h % p)))) x8 x9 x10 x11 x12) M1 = .nx (eR lot p A x4 x5 (some (.d (nI h))) (some (.d (nI (h % p)))) (some (.d (nI (zr (G lot) 0 h)))) x9 x10 x11 x12) M1 := by
    have dv := n_div (a := h) (b := p) hp1 (by omega) (w6 (some (.d (nI (h % p)))) x8 x9 x10 x11 x12 M1) (w2 (some (.d (nI (h % p)))) x8 x9 x10 x11 x12 M1)
    have wl : h / p ≤ 10 ^ 61 := Nat.le_trans (Nat.div_le_self _ _) (Nat.le_trans hh (by decide +kernel))
    have cl : A.count 0 ≤ 30 := Nat.le_trans List.count_le_length (by rw [K.len]; exact hp30)
    have mu := q_mul (cmW (bits60 wl) (j := ((A.count 0 : Nat) : Int)) (by omega) (by omega)) dv (q_cnt (w3 (some (.d (nI (h % p)))) x8 x9 x10 x11 x12 M1))
    rw [← Int.natCast_mul] at mu
    have r := n_add mu (q_cnt (q_slTk HA (w3 (some (.d (nI (h % p)))) x8 x9 x10 x11 x12 M1) (show eVar 7 (eR lot p A x4 x5 (some (.d (nI h))) (some (.d (nI (h % p)))) x8 x9 x10 x11 x12) M1 = .ok (.d (nI (h % p))) M1 from rfl)))
    rw [known_below K h] at r
    exact q_set r rfl (show 8 < 13 by decide)
  have lc := lc_flt (i := iSeq true (eVar 1)) (g := .one 11) (vs := [11]) (t := bAnd (tCmpE opLe (eVar 11) (eVar 6)) (tCmpE (opEq false) (eBin opIx (eVar 3) (eBin opMod (eB bInt (aCons (eBin opSub (eVar 6) (eVar 11)) aNil)) (eVar 2))) (eC (.int 0)))) (f := eVar 11) (ρ := eR lot p A x4 x5 (some (.d (nI h))) (some (.d (nI (h % p)))) (some (.d (nI (zr (G lot) 0 h)))) x9 x10 x11 x12) (M := M1) (l := lot) nI (fun t => decide (t ≤ h) && decide (G lot (h - t) = 0)) nI rfl (by have := L.len; unfold most; omega) fun t ht => ⟨eR lot p A x4 x5 (some (.d (nI h))) (some (.d (nI (h % p)))) (some (.d (nI (zr (G lot) 0 h)))) x9 x10 (some (.d (nI t))) x12, rfl, by
    have v11 : eVar 11 (eR lot p A x4 x5 (some (.d (nI h))) (some (.d (nI (h % p)))) (some (.d (nI (zr (G lot) 0 h)))) x9 x10 (some (.d (nI t))) x12) M1 = .ok (.d (nI t)) M1 := rfl
    have t1 := n_le v11 (w6 (some (.d (nI (h % p)))) (some (.d (nI (zr (G lot) 0 h)))) x9 x10 (some (.d (nI t))) x12 M1)
    by_cases c : t ≤ h
    · rw [decide_eq_true c] at t1 ⊢
      rw [q_and1 t1, Bool.true_and]
      have md := Nat.mod_lt (h - t) hp1
      have ix := q_ixL HA (k := (h - t) % p) (by rw [K.len]; exact md) (w3 (some (.d (nI (h % p)))) (some (.d (nI (zr (G lot) 0 h)))) x9 x10 (some (.d (nI t))) x12 M1) (n_mod hp1 (q_int (n_sub c (w6 (some (.d (nI (h % p)))) (some (.d (nI (zr (G lot) 0 h)))) x9 x10 (some (.d (nI t))) x12 M1) v11)) (w2 (some (.d (nI (h % p)))) (some (.d (nI (zr (G lot) 0 h)))) x9 x10 (some (.d (nI t))) x12 M1))
      rw [← K.num] at ix
      exact n_eq (b := 0) ix (k1 0 _ M1)
    · rw [decide_eq_false c] at t1 ⊢
      rw [q_and0 t1, Bool.false_and], fun _ => rfl⟩
  have s4 : sAsg 9 (eB bTup (aCons (eF (fLc (iSeq true (eVar 1)) (.one 11) [11] (bAnd (tCmpE opLe (eVar 11) (eVar 6)) (tCmpE (opEq false) (eBin opIx (eVar 3) (eBin opMod (eB bInt (aCons (eBin opSub (eVar 6) (eVar 11)) aNil)) (eVar 2))) (eC (.int 0)))) (eVar 11))) aNil)) (eR lot p A x4 x5 (some (.d (nI h))) (some (.d (nI (h % p)))) (some (.d (nI (zr (G lot) 0 h)))) x9 x10 x11 x12) M1 = .nx (eR lot p A x4 x5 (some (.d (nI h))) (some (.d (nI (h % p)))) (some (.d (nI (zr (G lot) 0 h)))) (some (.d (HL (lostTo lot h)))) x10 x11 x12) M1 := q_set (q_tupL (q_F lc)) rfl (show 9 < 13 by decide)
  have hlt : (lostTo lot h).length ≤ 1000 := Nat.le_trans (List.length_filter_le _ _) (by have := L.len; omega)
  have fn : F_taking_number [.d (HL lot), .d (nI h)] M1 = .ok (nI (G lot h)) M1 := number_ok L T (by omega) hh
  have fl : F_lost_below [.d (HL lot), .d (nI h)] M1 = .ok (nI (zr (G lot) 0 h)) M1 := lost_ok L T (by omega) hh
  have ft : F_takes [.d (HL lot), .d (nI h)] M1 = .ok (HL (lostTo lot h)) M1 := takes_ok L T (by omega) hh
  rw [K.num h] at fn
  generalize zr (G lot) 0 h = Z at *
  generalize lostTo lot h = Q at *
  have told := q_lst3 (q_call (n := 2) (q_cons2 (w1 (some (.d (nI (h % p)))) (some (.d (nI Z))) (some (.d (HL Q))) x10 x11 x12 M1) (w6 (some (.d (nI (h % p)))) (some (.d (nI Z))) (some (.d (HL Q))) x10 x11 x12 M1)) rfl rfl fn)
    (q_call (n := 2) (q_cons2 (w1 (some (.d (nI (h % p)))) (some (.d (nI Z))) (some (.d (HL Q))) x10 x11 x12 M1) (w6 (some (.d (nI (h % p)))) (some (.d (nI Z))) (some (.d (HL Q))) x10 x11 x12 M1)) rfl rfl fl)
    (q_call (n := 2) (q_cons2 (w1 (some (.d (nI (h % p)))) (some (.d (nI Z))) (some (.d (HL Q))) x10 x11 x12 M1) (w6 (some (.d (nI (h % p)))) (some (.d (nI Z))) (some (.d (HL Q))) x10 x11 x12 M1)) rfl rfl ft)
  have ixr := q_ixL HA (k := h % p) (by rw [K.len]; exact md) (w3 (some (.d (nI (h % p)))) (some (.d (nI Z))) (some (.d (HL Q))) (some (.d (.lst [nI (A.getD (h % p) 0), nI Z, HL Q]))) x11 x12 M1) (show eVar 7 (eR lot p A x4 x5 (some (.d (nI h))) (some (.d (nI (h % p)))) (some (.d (nI Z))) (some (.d (HL Q))) (some (.d (.lst [nI (A.getD (h % p) 0), nI Z, HL Q]))) x11 x12) M1 = .ok (.d (nI (h % p))) M1 from rfl)
  generalize A.getD (h % p) 0 = N at *
  generalize h % p = hr at *
  have s5 : sAsg 10 (eLst (aCons (eCall 2 F_taking_number (aCons (eVar 1) (aCons (eVar 6) aNil))) (aCons (eCall 2 F_lost_below (aCons (eVar 1) (aCons (eVar 6) aNil))) (aCons (eCall 2 F_takes (aCons (eVar 1) (aCons (eVar 6) aNil))) aNil)))) (eR lot p A x4 x5 (some (.d (nI h))) (some (.d (nI hr))) (some (.d (nI Z))) (some (.d (HL Q))) x10 x11 x12) M1 = .nx (eR lot p A x4 x5 (some (.d (nI h))) (some (.d (nI hr))) (some (.d (nI Z))) (some (.d (HL Q))) (some (.d (.lst [nI N, nI Z, HL Q]))) x11 x12) M1 := q_set told rfl (show 10 < 13 by decide)
  have is1 := q_is (show eVar 10 (eR lot p A x4 x5 (some (.d (nI h))) (some (.d (nI hr))) (some (.d (nI Z))) (some (.d (HL Q))) (some (.d (.lst [nI N, nI Z, HL Q]))) x11 x12) M1 = .ok (.d (.lst [nI N, nI Z, HL Q])) M1 from rfl) (q_lst3 ixr (show eVar 8 (eR lot p A x4 x5 (some (.d (nI h))) (some (.d (nI hr))) (some (.d (nI Z))) (some (.d (HL Q))) (some (.d (.lst [nI N, nI Z, HL Q]))) x11 x12) M1 = .ok (.d (nI Z)) M1 from rfl) (show eVar 9 (eR lot p A x4 x5 (some (.d (nI h))) (some (.d (nI hr))) (some (.d (nI Z))) (some (.d (HL Q))) (some (.d (.lst [nI N, nI Z, HL Q]))) x11 x12) M1 = .ok (.d (HL Q)) M1 from rfl)) (sf_told hlt)
  generalize hx10 : some (Ev.d (D.lst [nI N, nI Z, HL Q])) = y10 at *
  have s6 : sIf (bNot (tTru (eCall 2 F__law_is (aCons (eVar 10) (aCons (eLst (aCons (eBin opIx (eVar 3) (eVar 7)) (aCons (eVar 8) (aCons (eVar 9) aNil)))) aNil))))) (sRet (eC (.bl false))) sNext (eR lot p A x4 x5 (some (.d (nI h))) (some (.d (nI hr))) (some (.d (nI Z))) (some (.d (HL Q))) y10 x11 x12) M1 = .nx (eR lot p A x4 x5 (some (.d (nI h))) (some (.d (nI hr))) (some (.d (nI Z))) (some (.d (HL Q))) y10 x11 x12) M1 := q_skip (q_not (b := true) (truV is1))
  generalize hx7 : some (Ev.d (nI hr)) = y7 at *
  generalize hx8 : some (Ev.d (nI Z)) = y8 at *
  generalize hx9 : some (Ev.d (HL Q)) = y9 at *
  have hpos : 0 < lot.length := List.length_pos_iff.mpr L.ne
  have h12 := L.len
  have p4 : ∀ ρ M, eBin opPow (eC (.int 10)) (eC (.int 4)) ρ M = .ok (.d (nI 10000)) M := fun ρ M => by
    have := q_pow10 (ρ := ρ) (M := M) (k := 4) (by omega)
    rw [show (10 ^ 4 : Nat) = 10000 by decide] at this
    exact this
  have b60 : (1000000 : Nat) ≤ 10 ^ 60 := by decide +kernel
  have ln : eB bLen (aCons (eVar 1) aNil) (eR lot p A x4 x5 (some (.d (nI h))) y7 y8 y9 y10 x11 x12) M1 = .ok (.d (nI lot.length)) M1 := by
    have := q_lenT (show eVar 1 (eR lot p A x4 x5 (some (.d (nI h))) y7 y8 y9 y10 x11 x12) M1 = .ok (.d (.tup (lot.map nI))) M1 from rfl)
    rwa [List.length_map] at this
  obtain ⟨r, M2, e2, hrr, h2⟩ := q_dr (f := eVar 0) hc h1 (by omega) hpos (by omega) (w0 y7 y8 y9 y10 x11 x12 M1) ln
  obtain ⟨k, M3, e3, hk, h3⟩ := q_dr (f := eVar 0) hc h2 (by omega) (by omega) (by omega) (w0 y7 y8 y9 y10 x11 x12 M2) (p4 _ M2)
  have hx := L.one _ (List.getElem_mem hrr)
  have pk : p * (1 + k) ≤ 30 * 10000 := Nat.mul_le_mul hp30 (by omega)
  have a11 := n_add (q_ixT hrr (w1 y7 y8 y9 y10 x11 x12 M1) e2) (n_mul (a := p) (b := 1 + k) (by omega) (by omega) (w2 y7 y8 y9 y10 x11 x12 M2) (n_add (k1 1 _ M2) e3))
  have s7 : sAsg 11 (eBin opAdd (eBin opIx (eVar 1) (eCall 2 F__law_draw (aCons (eVar 0) (aCons (eB bLen (aCons (eVar 1) aNil)) aNil)))) (eBin opMulA (eVar 2) (eBin opAdd (eC (.int 1)) (eCall 2 F__law_draw (aCons (eVar 0) (aCons (eBin opPow (eC (.int 10)) (eC (.int 4))) aNil)))))) (eR lot p A x4 x5 (some (.d (nI h))) y7 y8 y9 y10 x11 x12) M1 = .nx (eR lot p A x4 x5 (some (.d (nI h))) y7 y8 y9 y10 (some (.d (nI (lot[r] + p * (1 + k))))) x12) M3 := q_set a11 rfl (show 11 < 13 by decide)
  have mem := List.getElem_mem hrr
  generalize lot[r] = a at *
  obtain ⟨j, M4, e4, hj, h4⟩ := q_dr (f := eVar 0) hc h3 (by omega) (by omega) (by omega) (w0 y7 y8 y9 y10 (some (.d (nI (a + p * (1 + k))))) x12 M3) (p4 _ M3)
  have pj : p * (1 + j) ≤ 30 * 10000 := Nat.mul_le_mul hp30 (by omega)
  have pj1 : 1 ≤ p * (1 + j) := Nat.mul_pos hp1 (by omega)
  have a12 := n_mul (a := p) (b := 1 + j) (by omega) (by omega) (w2 y7 y8 y9 y10 (some (.d (nI (a + p * (1 + k))))) x12 M3) (n_add (k1 1 _ M3) e4)
  have s8 : sAsg 12 (eBin opMulA (eVar 2) (eBin opAdd (eC (.int 1)) (eCall 2 F__law_draw (aCons (eVar 0) (aCons (eBin opPow (eC (.int 10)) (eC (.int 4))) aNil))))) (eR lot p A x4 x5 (some (.d (nI h))) y7 y8 y9 y10 (some (.d (nI (a + p * (1 + k))))) x12) M3 = .nx (eR lot p A x4 x5 (some (.d (nI h))) y7 y8 y9 y10 (some (.d (nI (a + p * (1 + k))))) (some (.d (nI (p * (1 + j)))))) M4 := q_set a12 rfl (show 12 < 13 by decide)
  have f1 : F_can_join [.d (HL lot), .d (nI (a + p * (1 + k)))] M4 = .ok (.bl true) M4 := by
    rw [join_ok L T (by omega) (by omega) (by omega), join_yes K mem]
  have f2 : F_can_join [.d (HL lot), .d (nI (p * (1 + j)))] M4 = .ok (.bl false) M4 := by
    rw [join_ok L T (by omega) pj1 (by omega), join_no K]
  generalize a + p * (1 + k) = u at *
  generalize p * (1 + j) = v at *
  have g1 := w1 y7 y8 y9 y10 (some (.d (nI u))) (some (.d (nI v))) M4
  have is2 := q_is (q_lst2 (q_call (n := 2) (q_cons2 g1 (show eVar 11 (eR lot p A x4 x5 (some (.d (nI h))) y7 y8 y9 y10 (some (.d (nI u))) (some (.d (nI v)))) M4 = .ok (.d (nI u)) M4 from rfl)) rfl rfl f1) (q_call (n := 2) (q_cons2 g1 (show eVar 12 (eR lot p A x4 x5 (some (.d (nI h))) y7 y8 y9 y10 (some (.d (nI u))) (some (.d (nI v)))) M4 = .ok (.d (nI v)) M4 from rfl)) rfl rfl f2)) (q_lst2 (show eC (.bl true) (eR lot p A x4 x5 (some (.d (nI h))) y7 y8 y9 y10 (some (.d (nI u))) (some (.d (nI v)))) M4 = .ok (.d (.bl true)) M4 from rfl) (show eC (.bl false) (eR lot p A x4 x5 (some (.d (nI h))) y7 y8 y9 y10 (some (.d (nI u))) (some (.d (nI v)))) M4 = .ok (.d (.bl false)) M4 from rfl)) sf_bools
  have s9 : sIf (bNot (tTru (eCall 2 F__law_is (aCons (eLst (aCons (eCall 2 F_can_join (aCons (eVar 1) (aCons (eVar 11) aNil))) (aCons (eCall 2 F_can_join (aCons (eVar 1) (aCons (eVar 12) aNil))) aNil))) (aCons (eLst (aCons (eC (.bl true)) (aCons (eC (.bl false)) aNil))) aNil))))) (sRet (eC (.bl false))) sNext (eR lot p A x4 x5 (some (.d (nI h))) y7 y8 y9 y10 (some (.d (nI u))) (some (.d (nI v)))) M4 = .nx (eR lot p A x4 x5 (some (.d (nI h))) y7 y8 y9 y10 (some (.d (nI u))) (some (.d (nI v)))) M4 := q_skip (q_not (b := true) (truV is2))
  refine ⟨some (.d (nI h)), y7, y8, y9, y10, some (.d (nI u)), some (.d (nI v)), M4, ?_, h4.mono (by omega)⟩
  rw [B5__law_is_known_right, q_nx s1, q_nx s2, q_nx s3, q_nx s4, q_nx s5, q_nx s6, q_nx s7, q_nx s8]
  exact s9
theorem known_right_ok (hc : Cl cells) (hM : Hd cells B M) (hB : B + 400 ≤ 1000000) : ∃ M', F__law_is_known_right [.d (.ob 0)] M = .ok (.bl true) M' ∧ Hd cells (B + 100) M' := by
  unfold F__law_is_known_right; rw [fnOf_eq]
  obtain ⟨lot, s, p, A, M1, e1, K, h1⟩ := known_ok hc hM (by omega)
  have L := K.L
  have hp1 := K.p1
  have T := period_known K
  have HA : Hs (.d (.lst (A.map nI))) A := .inl rfl
  have c1 := q_call (n := 1) (q_cons1 (show eVar 0 [some (.d (.ob 0)), none, none, none, none, none, none, none, none, none, none, none, none] M = .ok (.d (.ob 0)) M from rfl)) rfl rfl e1
  have s1 : T1__law_is_known_right [some (.d (.ob 0)), none, none, none, none, none, none, none, none, none, none, none, none] M = .nx (eR lot p A none none none none none none none none none) M1 := q_asgT c1 rfl
  have w1 : ∀ x4 M, eVar 1 (eR lot p A x4 none none none none none none none none) M = .ok (.d (HL lot)) M := fun _ _ => rfl
  have w2 : ∀ x4 M, eVar 2 (eR lot p A x4 none none none none none none none none) M = .ok (.d (nI p)) M := fun _ _ => rfl
  have is1 := q_is (q_call (n := 1) (q_cons1 (w1 none M1)) rfl rfl (T.ok M1)) (q_tup2 (k1 0 _ M1) (w2 none M1)) sf_pair
  have s2 : T2__law_is_known_right (eR lot p A none none none none none none none none none) M1 = .nx (eR lot p A none none none none none none none none none) M1 := q_skip (q_not (b := true) (truV is1))
  obtain ⟨m, M2, e2, hm, h2⟩ := q_dr (ρ := eR lot p A none none none none none none none none none) (f := eVar 0) (g := eC (.int 120)) (many := 120) hc h1 (by omega) (by decide) (by decide +kernel) rfl rfl
  have s3 : T3__law_is_known_right (eR lot p A none none none none none none none none none) M1 = .nx (eR lot p A (some (.d (nI m))) none none none none none none none none) M2 := q_set e2 rfl (show 4 < 13 by decide)
  have fnum := numbers_ok (M := M2) (n := m) L (by omega)
  have it := q_rng1 (n := m + 1) (by omega) (n_add (show eVar 4 (eR lot p A (some (.d (nI m))) none none none none none none none none) M2 = .ok (.d (nI m)) M2 from rfl) (k1 1 _ M2))
  have lc := lc_rng (a := 0) (j := 6) (f := eBin opIx (eVar 3) (eBin opMod (eB bInt (aCons (eVar 6) aNil)) (eVar 2))) (fun i => nI (A.getD (i % p) 0)) it (by unfold most; omega) (show 6 < 13 by decide) fun i hi => by
    rw [Nat.zero_add]
    exact q_ixL HA (k := i % p) (M' := M2) (by rw [K.len]; exact Nat.mod_lt i hp1) rfl (n_mod (a := i) (b := p) (M' := M2) hp1 (q_int rfl) rfl)
  rw [← known_rows K] at lc
  have sfr : LN.Sf 4 (HL (rows lot (m + 1))) := sf_HL (n := 2) (by rw [TK.rows_len]; omega)
  generalize rows lot (m + 1) = R at *
  have is4 := q_is (q_call (n := 2) (q_cons2 (w1 (some (.d (nI m))) M2) (show eVar 4 (eR lot p A (some (.d (nI m))) none none none none none none none none) M2 = .ok (.d (nI m)) M2 from rfl)) rfl rfl fnum) (q_tupL (q_F lc)) sfr
  have s4 : T4__law_is_known_right (eR lot p A (some (.d (nI m))) none none none none none none none none) M2 = .nx (eR lot p A (some (.d (nI m))) none none none none none none none none) M2 := q_skip (q_not (b := true) (truV is4))
  obtain ⟨ρ', M', e, ⟨y5, y6, y7, y8, y9, y10, y11, y12, rfl⟩, hM'⟩ := forL_inv (g := .one 5) (f := B5__law_is_known_right) (fun j ρ M' => (∃ y5 y6 y7 y8 y9 y10 y11 y12, ρ = eR lot p A (some (.d (nI m))) y5 y6 y7 y8 y9 y10 y11 y12) ∧ Hd cells (B + 10 + 1 + 8 * j) M') (rangeL 0 8 1) 0 (eR lot p A (some (.d (nI m))) none none none none none none none none) M2 (fun j d ρ M3 hd hj => by
    obtain ⟨⟨y5, y6, y7, y8, y9, y10, y11, y12, rfl⟩, hM3⟩ := hj
    obtain ⟨hj, rfl⟩ := rangeL_get hd
    rw [Nat.zero_add] at hM3 ⊢
    obtain ⟨z6, z7, z8, z9, z10, z11, z12, M4, e4, h4⟩ := known_turn K hc hM3 (by omega) (some (.d (nI m))) (some (.d (.int (0 + (j : Int) * 1)))) y6 y7 y8 y9 y10 y11 y12
    exact ⟨_, _, M4, rfl, e4, ⟨_, _, _, _, _, _, _, _, rfl⟩, h4.mono (by omega)⟩) ⟨⟨_, _, _, _, _, _, _, _, rfl⟩, h2⟩
  rw [rangeL_len, Nat.zero_add] at hM'
  have s6 : T6__law_is_known_right (eR lot p A (some (.d (nI m))) none none none none none none none none) M2 = .nx (eR lot p A (some (.d (nI m))) y5 y6 y7 y8 y9 y10 y11 y12) M' := q_for (q_rng1 (n := 8) (by omega) (k1 8 _ M2)) e
  refine ⟨M', ?_, hM'.mono (by omega)⟩
  show fnEnd (S__law_is_known_right [some (.d (.ob 0)), none, none, none, none, none, none, none, none, none, none, none, none] M) = _
  rw [S__law_is_known_right, q_nx s1, q_nx s2, q_nx s3, q_nx s4, q_nx s6]
  rfl
end
end K23

set_option Elab.async false
set_option linter.all false
set_option maxRecDepth 100000
set_option maxHeartbeats 1000000
/-! law k23, plainly: what is told of any lot. -/
namespace K23
open PySem PySem.Spec PyProof.Rows L2 DL
open TK (Lot G rows zr opts)
theorem q_setNE {ρ : DL.Env} {M M' : Mem} {i : Nat} {f : Sm (List D)} {l : List D} (h : f ρ M = .ok l M') (hi : i < ρ.length) : sSetN i (nE (eF f)) ρ M = .nx (ρ.set i (some (.d (.lst l)))) M' := by
  have e : nE (eF f) ρ M = .ok (.d (.lst l)) M' := by
    unfold nE; rw [q_F h]; rfl
  exact q_setN e hi
theorem in_nats {ρ : DL.Env} {M M' M'' : Mem} {f g : Sm Ev} {n : Nat} {l : List Nat} (h1 : f ρ M = .ok (.d (nI n)) M') (h2 : g ρ M' = .ok (.d (.lst (l.map nI))) M'') : tCmpE (opIn false) f g ρ M = .ok (decide (n ∈ l)) M'' := by
  refine q_cmp ?_
  rw [q_bin h1 h2]
  have e1 : (l.map nI).all flatD = true := by rw [List.all_map, List.all_eq_true]; exact fun _ _ => rfl
  have e2 : inD (nI n) (l.map nI) = decide (n ∈ l) := by
    rw [Bool.eq_iff_iff, decide_eq_true_iff]
    unfold inD
    rw [List.any_map, List.any_eq_true]
    constructor
    · rintro ⟨x, hx, e⟩
      have : ((x : Int) == (n : Int)) = true := e
      have := beq_iff_eq.mp this
      rw [show n = x by omega]; exact hx
    · intro hn
      exact ⟨n, hn, (beq_self_eq_true (n : Int) : ((n : Int) == (n : Int)) = true)⟩
  have e0 : flatD (nI n) = true := rfl
  simp only [opIn, seqOf, lstOf, e0, e1, and_self, if_true, e2]
  rfl
theorem mex_loop {M : Mem} {t : Sm Bool} {B : Ss} {l : List Nat} {st : Option Ev → DL.Env} (ht : ∀ n : Nat, t (st (some (.d (nI n)))) M = .ok (decide (n ∈ l)) M) (hB : ∀ n : Nat, B (st (some (.d (nI n)))) M = .nx (st (some (.d (nI (n + 1))))) M) :
    ∀ (k n fu : Nat), OC.mex l = n + k → k < fu → sWhile t B fu (st (some (.d (nI n)))) M = .nx (st (some (.d (nI (OC.mex l))))) M := by
  intro k
  induction k with
  | zero =>
    intro n fu hm hf
    obtain ⟨fu, rfl⟩ : ∃ k, fu = k + 1 := ⟨fu - 1, by omega⟩
    have t0 := ht n
    rw [decide_eq_false (by rw [show n = OC.mex l by omega]; exact (OC.mex_is l).1)] at t0
    simp only [sWhile, sE, t0, Bool.false_eq_true, if_false]
    rw [hm]; rfl
  | succ k ih =>
    intro n fu hm hf
    obtain ⟨fu, rfl⟩ : ∃ k, fu = k + 1 := ⟨fu - 1, by omega⟩
    have t0 := ht n
    rw [decide_eq_true ((OC.mex_is l).2 n (by omega))] at t0
    simp only [sWhile, sE, t0, if_true, hB n]
    exact ih (n + 1) fu (by omega) (by omega)
theorem law_least_ok {l : List Nat} {M : Mem} (h : l.length < 99) : F__law_least_missing [.d (.lst (l.map nI))] M = .ok (nI (OC.mex l)) M := by
  unfold F__law_least_missing; rw [fnOf_eq]
  have s1 : T1__law_least_missing [some (.d (.lst (l.map nI))), none] M = .nx [some (.d (.lst (l.map nI))), some (.d (nI 0))] M := rfl
  have w := mex_loop (M := M) (t := tCmpE (opIn false) (eVar 1) (eVar 0)) (B := B2__law_least_missing) (l := l) (st := fun x => [some (.d (.lst (l.map nI))), x]) (fun n => in_nats rfl rfl) (fun n => q_set (n_add (a := n) (b := 1) (f := eVar 1) rfl (k1 1 _ M)) rfl (show 1 < 2 by decide)) (OC.mex l) 0 100 (by omega) (by have := OC.mex_len l; omega)
  show fnEnd (S__law_least_missing [some (.d (.lst (l.map nI))), none] M) = _
  rw [S__law_least_missing, q_nx s1, T3__law_least_missing, q_nx w]
  rfl
theorem shaped_nats : ∀ l : List Nat, SeqAt.shaped (D.tup (l.map nI)).py = true := fun l => by
  show SeqAt.shaped (.tuple (D.pyL (l.map nI))) = true
  induction l with
  | nil => rfl
  | cons a l ih => exact ih
theorem eqR_HL (l : List Nat) : eqR (.d (HL l)) (.d (HL l)) = some true := by
  have e : PyData.eqv (D.tup (l.map nI)).py (D.tup (l.map nI)).py = true := by
    show PyData.eqvAll (D.pyL (l.map nI)) (D.pyL (l.map nI)) = true
    induction l with
    | nil => rfl
    | cons a l ih =>
      show (PyData.eqv (.int (a : Int)) (.int (a : Int)) && PyData.eqvAll (D.pyL (l.map nI)) (D.pyL (l.map nI))) = true
      rw [ih, Bool.and_true]
      exact (beq_self_eq_true (a : Int) : ((a : Int) == (a : Int)) = true)
  show (if SeqAt.shaped (D.tup (l.map nI)).py = true ∧ SeqAt.shaped (D.tup (l.map nI)).py = true then some (PyData.eqv (D.tup (l.map nI)).py (D.tup (l.map nI)).py) else none) = _
  rw [if_pos ⟨shaped_nats l, shaped_nats l⟩, e]
theorem same_ne {ρ : DL.Env} {M M' M'' : Mem} {f g : Sm Ev} {a b : Nat} (e : a = b) (h1 : f ρ M = .ok (.d (nI a)) M') (h2 : g ρ M' = .ok (.d (nI b)) M'') : tCmpE (opEq true) f g ρ M = .ok false M'' := by
  rw [n_ne h1 h2, decide_eq_true e]; rfl
section
variable {cells : List Int} {B : Nat} {M : Mem} {lot : List Nat} {s n b d : Nat}
theorem q_lost {ρ : DL.Env} {f g : Sm Ev} {h : Nat} (L : Lot lot s) (T : Tp lot s n b d) (hn : n ≤ 1000) (hh : h ≤ 10 ^ 60) (h1 : f ρ M = .ok (.d (HL lot)) M) (h2 : g ρ M = .ok (.d (nI h)) M) : eCall 2 F_lost_below (aCons f (aCons g aNil)) ρ M = .ok (.d (nI (zr (G lot) 0 h))) M :=
  q_call (n := 2) (q_cons2 h1 h2) rfl rfl (lost_ok L T hn hh)
@[reducible] def eG (lot : List Nat) (b d : Nat) (x4 x5 x6 x7 x8 x9 x10 x11 : Option Ev) : DL.Env := [some (.d (.ob 0)), some (.d (HL lot)), some (.d (nI b)), some (.d (nI d)), x4, x5, x6, x7, x8, x9, x10, x11]
theorem great_turn (L : Lot lot s) (T : Tp lot s n b d) (hn : n ≤ 1000) (hc : Cl cells) (hM : Hd cells B M) (hB : B + 10 ≤ 1000000) (x4 x5 x6 x7 x8 x9 x10 x11 : Option Ev) :
    ∃ y5 y6 y7 y8 M', B3__law_are_great_right (eG lot b d x4 x5 x6 x7 x8 x9 x10 x11) M = .nx (eG lot b d x4 y5 y6 y7 y8 x9 x10 x11) M' ∧ Hd cells (B + 2) M' := by
  have tenn : (10 : Nat) ^ 59 + 10000 ≤ 10 ^ 60 := by decide +kernel
  have hbd := T.bd
  obtain ⟨h0, M1, e1, hh0, h1⟩ := heap_ok hc hM (by omega)
  obtain ⟨h, hh⟩ : ∃ h, h = b + h0 := ⟨_, rfl⟩
  have s1 : sAsg 5 (eBin opAdd (eVar 2) (eCall 1 F__law_heap (aCons (eVar 0) aNil))) (eG lot b d x4 x5 x6 x7 x8 x9 x10 x11) M = .nx (eG lot b d x4 (some (.d (nI h))) x6 x7 x8 x9 x10 x11) M1 := by
    rw [hh]
    exact q_set (n_add (a := b) (b := h0) (f := eVar 2) (M' := M) rfl (q_call (n := 1) (q_cons1 (show eVar 0 (eG lot b d x4 x5 x6 x7 x8 x9 x10 x11) M = .ok (.d (.ob 0)) M from rfl)) rfl rfl e1)) rfl (show 5 < 12 by decide)
  have hbh : b ≤ h := by omega
  have h60 : h + d + 1 ≤ 10 ^ 60 := by omega
  have w1 : ∀ x6 x7 x8 x11 M, eVar 1 (eG lot b d x4 (some (.d (nI h))) x6 x7 x8 x9 x10 x11) M = .ok (.d (HL lot)) M := fun _ _ _ _ _ => rfl
  have w3 : ∀ x6 x7 x8 x11 M, eVar 3 (eG lot b d x4 (some (.d (nI h))) x6 x7 x8 x9 x10 x11) M = .ok (.d (nI d)) M := fun _ _ _ _ _ => rfl
  have w5 : ∀ x6 x7 x8 x11 M, eVar 5 (eG lot b d x4 (some (.d (nI h))) x6 x7 x8 x9 x10 x11) M = .ok (.d (nI h)) M := fun _ _ _ _ _ => rfl
  have w11 : ∀ x6 x7 x8 t M, eVar 11 (eG lot b d x4 (some (.d (nI h))) x6 x7 x8 x9 x10 (some (.d (nI t)))) M = .ok (.d (nI t)) M := fun _ _ _ _ _ => rfl
  have lc := lc_flt (i := iSeq true (eVar 1)) (g := .one 11) (vs := [11]) (t := tCmpE opLe (eVar 11) (eVar 5)) (f := eCall 2 F_taking_number (aCons (eVar 1) (aCons (eBin opSub (eVar 5) (eVar 11)) aNil))) (ρ := eG lot b d x4 (some (.d (nI h))) x6 x7 x8 x9 x10 x11) (M := M1) (l := lot) nI (fun t => decide (t ≤ h)) (fun t => nI (G lot (h - t))) rfl (by have := L.len; unfold most; omega) fun t ht => ⟨eG lot b d x4 (some (.d (nI h))) x6 x7 x8 x9 x10 (some (.d (nI t))), rfl, n_le (w11 x6 x7 x8 t M1) (w5 x6 x7 x8 (some (.d (nI t))) M1), fun c => q_number L T hn (by omega) (w1 x6 x7 x8 (some (.d (nI t))) M1) (n_sub (of_decide_eq_true c) (w5 x6 x7 x8 (some (.d (nI t))) M1) (w11 x6 x7 x8 t M1))⟩
  have em : ((lot.filter fun t => decide (t ≤ h)).map fun t => nI (G lot (h - t))) = (opts (G lot) lot h).map nI := by unfold opts; rw [List.map_map]; rfl
  rw [em] at lc
  have s2 := q_setNE (i := 6) lc (show 6 < 12 by decide)
  have s2' : sSetN 6 (nE (eF (fLc (iSeq true (eVar 1)) (.one 11) [11] (tCmpE opLe (eVar 11) (eVar 5)) (eCall 2 F_taking_number (aCons (eVar 1) (aCons (eBin opSub (eVar 5) (eVar 11)) aNil)))))) (eG lot b d x4 (some (.d (nI h))) x6 x7 x8 x9 x10 x11) M1 = .nx (eG lot b d x4 (some (.d (nI h))) (some (.d (.lst ((opts (G lot) lot h).map nI)))) x7 x8 x9 x10 x11) M1 := s2
  have ol : (opts (G lot) lot h).length < 99 := by
    unfold opts
    rw [List.length_map]
    have := List.length_filter_le (fun t => decide (t ≤ h)) lot
    have := L.len
    omega
  have gm : G lot h = OC.mex (opts (G lot) lot h) := TK.G_eq L.pos h
  generalize opts (G lot) lot h = O at *
  have s3 : sAsg 7 (eCall 2 F_taking_number (aCons (eVar 1) (aCons (eVar 5) aNil))) (eG lot b d x4 (some (.d (nI h))) (some (.d (.lst (O.map nI)))) x7 x8 x9 x10 x11) M1 = .nx (eG lot b d x4 (some (.d (nI h))) (some (.d (.lst (O.map nI)))) (some (.d (nI (G lot h)))) x8 x9 x10 x11) M1 := q_set (q_number L T hn (by omega) (w1 _ _ _ _ M1) (w5 _ _ _ _ M1)) rfl (show 7 < 12 by decide)
  have lm := q_call (n := 1) (q_cons1 (show eVar 6 (eG lot b d x4 (some (.d (nI h))) (some (.d (.lst (O.map nI)))) (some (.d (nI (G lot h)))) x8 x9 x10 x11) M1 = .ok (.d (.lst (O.map nI))) M1 from rfl)) rfl rfl (law_least_ok (l := O) (M := M1) ol)
  generalize hy6 : some (Ev.d (D.lst (O.map nI))) = y6 at *
  have w7 : ∀ x8 x11, eVar 7 (eG lot b d x4 (some (.d (nI h))) y6 (some (.d (nI (G lot h)))) x8 x9 x10 x11) M1 = .ok (.d (nI (G lot h))) M1 := fun _ _ => rfl
  have pr : G lot (h + d) = G lot h := T.per.2 h hbh
  have s4 : sIf (bOr (tCmpE (opEq true) (eVar 7) (eCall 1 F__law_least_missing (aCons (eVar 6) aNil))) (tCmpE (opEq true) (eCall 2 F_taking_number (aCons (eVar 1) (aCons (eBin opAdd (eVar 5) (eVar 3)) aNil))) (eVar 7))) (sRet (eC (.bl false))) sNext (eG lot b d x4 (some (.d (nI h))) y6 (some (.d (nI (G lot h)))) x8 x9 x10 x11) M1 = .nx (eG lot b d x4 (some (.d (nI h))) y6 (some (.d (nI (G lot h)))) x8 x9 x10 x11) M1 :=
    q_skip ((q_or0 (same_ne gm (w7 x8 x11) lm)).trans (same_ne pr (q_number L T hn (by omega) (w1 _ _ _ _ M1) (n_add (w5 _ _ _ _ M1) (w3 _ _ _ _ M1))) (w7 x8 x11)))
  have lc5 := lc_flt (i := iSeq true (eVar 1)) (g := .one 11) (vs := [11]) (t := bAnd (tCmpE opLe (eVar 11) (eVar 5)) (tCmpE (opEq false) (eCall 2 F_taking_number (aCons (eVar 1) (aCons (eBin opSub (eVar 5) (eVar 11)) aNil))) (eC (.int 0)))) (f := eVar 11) (ρ := eG lot b d x4 (some (.d (nI h))) y6 (some (.d (nI (G lot h)))) x8 x9 x10 x11) (M := M1) (l := lot) nI (fun t => decide (t ≤ h) && decide (G lot (h - t) = 0)) nI rfl (by have := L.len; unfold most; omega) fun t ht => ⟨eG lot b d x4 (some (.d (nI h))) y6 (some (.d (nI (G lot h)))) x8 x9 x10 (some (.d (nI t))), rfl, q_lostAt L T hn (by omega) (w1 _ _ _ _ M1) (w5 _ _ _ _ M1) rfl, fun _ => rfl⟩
  have tk5 := q_call (n := 2) (q_cons2 (w1 y6 (some (.d (nI (G lot h)))) x8 x11 M1) (w5 y6 (some (.d (nI (G lot h)))) x8 x11 M1)) rfl rfl (takes_ok (M := M1) L T hn (show h ≤ 10 ^ 60 by omega))
  have t5 : tCmpE (opEq true) (eCall 2 F_takes (aCons (eVar 1) (aCons (eVar 5) aNil))) (eB bTup (aCons (eF (fLc (iSeq true (eVar 1)) (.one 11) [11] (bAnd (tCmpE opLe (eVar 11) (eVar 5)) (tCmpE (opEq false) (eCall 2 F_taking_number (aCons (eVar 1) (aCons (eBin opSub (eVar 5) (eVar 11)) aNil))) (eC (.int 0)))) (eVar 11))) aNil)) (eG lot b d x4 (some (.d (nI h))) y6 (some (.d (nI (G lot h)))) x8 x9 x10 x11) M1 = .ok false M1 := by
    refine q_cmp ?_
    rw [q_bin tk5 (q_tupL (q_F lc5))]
    show opEq true (.d (HL (lostTo lot h))) (.d (HL (lostTo lot h))) M1 = _
    unfold opEq
    rw [eqR_HL]
    rfl
  have s5 : sIf (tCmpE (opEq true) (eCall 2 F_takes (aCons (eVar 1) (aCons (eVar 5) aNil))) (eB bTup (aCons (eF (fLc (iSeq true (eVar 1)) (.one 11) [11] (bAnd (tCmpE opLe (eVar 11) (eVar 5)) (tCmpE (opEq false) (eCall 2 F_taking_number (aCons (eVar 1) (aCons (eBin opSub (eVar 5) (eVar 11)) aNil))) (eC (.int 0)))) (eVar 11))) aNil))) (sRet (eC (.bl false))) sNext (eG lot b d x4 (some (.d (nI h))) y6 (some (.d (nI (G lot h)))) x8 x9 x10 x11) M1 = .nx (eG lot b d x4 (some (.d (nI h))) y6 (some (.d (nI (G lot h)))) x8 x9 x10 x11) M1 := q_skip t5
  have zs := TK.zr_succ (G lot) h
  have zp := TK.zr_pos L T.per hbh
  have l1 := q_lost (M := M1) (h := h + 1) L T hn (by omega) (w1 y6 (some (.d (nI (G lot h)))) x8 x11 M1) (n_add (w5 _ _ _ _ M1) (k1 1 _ M1))
  have l2 := fun x8 => q_lost (M := M1) (h := h) L T hn (by omega) (w1 y6 (some (.d (nI (G lot h)))) x8 x11 M1) (w5 _ _ _ _ M1)
  have l3 := fun x8 => q_lost (M := M1) (h := h + d) L T hn (by omega) (w1 y6 (some (.d (nI (G lot h)))) x8 x11 M1) (n_add (w5 _ _ _ _ M1) (w3 _ _ _ _ M1))
  generalize zr (G lot) 0 (h + 1) = z1 at *
  generalize zr (G lot) 0 (h + d) = z3 at *
  generalize zr (G lot) 0 h = z2 at *
  have far := n_sub (show z2 ≤ z1 by omega) l1 (l2 x8)
  have s6 : sAsg 8 (eBin opSub (eCall 2 F_lost_below (aCons (eVar 1) (aCons (eBin opAdd (eVar 5) (eC (.int 1))) aNil))) (eCall 2 F_lost_below (aCons (eVar 1) (aCons (eVar 5) aNil)))) (eG lot b d x4 (some (.d (nI h))) y6 (some (.d (nI (G lot h)))) x8 x9 x10 x11) M1 = .nx (eG lot b d x4 (some (.d (nI h))) y6 (some (.d (nI (G lot h)))) (some (.d (nI (z1 - z2)))) x9 x10 x11) M1 := q_set far rfl (show 8 < 12 by decide)
  have bi : eB bInt (aCons (eBin (opEq false) (eVar 7) (eC (.int 0))) aNil) (eG lot b d x4 (some (.d (nI h))) y6 (some (.d (nI (G lot h)))) (some (.d (nI (z1 - z2)))) x9 x10 x11) M1 = .ok (.d (nI (z1 - z2))) M1 := by
    rw [q_B (q_cons1 (e_eqI (w7 (some (.d (nI (z1 - z2)))) x11) (k1 0 _ M1)))]
    by_cases c : G lot h = 0
    · rw [if_pos c] at zs
      rw [decide_eq_true (show ((G lot h : Nat) : Int) = 0 by omega), show z1 - z2 = 1 by omega]
      rfl
    · rw [if_neg c] at zs
      rw [decide_eq_false (show ¬ ((G lot h : Nat) : Int) = 0 by omega), show z1 - z2 = 0 by omega]
      rfl
  have t7b := n_lt (b := 1) (n_sub (show z2 ≤ z3 by omega) (l3 (some (.d (nI (z1 - z2))))) (l2 (some (.d (nI (z1 - z2)))))) (k1 1 _ M1)
  rw [decide_eq_false (show ¬ (z3 - z2 < 1) by omega)] at t7b
  have s7 : sIf (bOr (tCmpE (opEq true) (eVar 8) (eB bInt (aCons (eBin (opEq false) (eVar 7) (eC (.int 0))) aNil))) (tCmpE opLt (eBin opSub (eCall 2 F_lost_below (aCons (eVar 1) (aCons (eBin opAdd (eVar 5) (eVar 3)) aNil))) (eCall 2 F_lost_below (aCons (eVar 1) (aCons (eVar 5) aNil)))) (eC (.int 1)))) (sRet (eC (.bl false))) sNext (eG lot b d x4 (some (.d (nI h))) y6 (some (.d (nI (G lot h)))) (some (.d (nI (z1 - z2)))) x9 x10 x11) M1 = .nx (eG lot b d x4 (some (.d (nI h))) y6 (some (.d (nI (G lot h)))) (some (.d (nI (z1 - z2)))) x9 x10 x11) M1 :=
    q_skip ((q_or0 (same_ne rfl (show eVar 8 (eG lot b d x4 (some (.d (nI h))) y6 (some (.d (nI (G lot h)))) (some (.d (nI (z1 - z2)))) x9 x10 x11) M1 = .ok (.d (nI (z1 - z2))) M1 from rfl) bi)).trans t7b)
  refine ⟨some (.d (nI h)), y6, some (.d (nI (G lot h))), some (.d (nI (z1 - z2))), M1, ?_, h1⟩
  rw [B3__law_are_great_right, q_nx s1, q_nx s2', q_nx s3, q_nx s4, q_nx s5, q_nx s6]
  exact s7
end
end K23

set_option Elab.async false
set_option linter.all false
set_option maxRecDepth 100000
set_option maxHeartbeats 4000000
/-! law 23: each def holds what its reading tells. -/
namespace K23
open PySem PySem.Spec PyProof.Rows L2 DL
theorem ok_is_integer {P : Program} {w : World} {K : PySem.W.Frag} {mg : Str → Option Value} {base : Heap} {T : List (Addr × Str)} {f : Addr} {fd : FuncData} (fx : Fx K mg) (F : FunD K "is_integer" "is_integer" (defArgs (top 1)) (defBody (top 1)) (defScope (top 1)) [] [] f fd) (hx : mg "is_integer" = some (.ref f))  : Dn P w K mg base T 1 "is_integer" 1 F_is_integer := by
  refine dn_ofD (k := 0) (N := ["thing"]) (ps := ["thing"]) (g := S_is_integer) F hx (F.bindsN (ps := ["thing"]) fun _ _ _ _ _ _ us hl => match us, hl with | [_], _ => rfl) sc_is_integer fun cdv A outer s H E hr => ?_
  exact (dss_one (ds_ret (de_and (de_B bi_isi (by rfl) fx.z_isinstance bo_isinstance (da_cons (de_var 0) (da_cons (de_ty (by rfl) fx.z_int bo_int) da_nil))) (de_one (de_not (de_B bi_isi (by rfl) fx.z_isinstance bo_isinstance (da_cons (de_var 0) (da_cons (de_ty (by rfl) fx.z_bool bo_bool) da_nil))))))))
theorem ok_is_within {P : Program} {w : World} {K : PySem.W.Frag} {mg : Str → Option Value} {base : Heap} {T : List (Addr × Str)} {f : Addr} {fd : FuncData} (fx : Fx K mg) (F : FunD K "is_within" "is_within" (defArgs (top 2)) (defBody (top 2)) (defScope (top 2)) [] [] f fd) (hx : mg "is_within" = some (.ref f)) (G_is_integer : Dn P w K mg base T 1 "is_integer" 1 F_is_integer) : Dn P w K mg base T 2 "is_within" 3 F_is_within := by
  refine dn_ofD (k := 1) (N := ["thing", "low", "high"]) (ps := ["thing", "low", "high"]) (g := S_is_within) F hx (F.bindsN (ps := ["thing", "low", "high"]) fun _ _ _ _ _ _ us hl => match us, hl with | [_, _, _], _ => rfl) sc_is_within fun cdv A outer s H E hr => ?_
  exact (dss_one (ds_ret (de_and (de_call G_is_integer (hr.mono (by omega)) (by rfl) (takes_of rfl rfl rfl rfl) (da_cons (de_var 0) da_nil)) (de_one (de_chain ci_le ci_le (de_var 1) (de_var 0) (de_var 2))))))
theorem ok_are_integers {P : Program} {w : World} {K : PySem.W.Frag} {mg : Str → Option Value} {base : Heap} {T : List (Addr × Str)} {f : Addr} {fd : FuncData} (fx : Fx K mg) (F : FunD K "are_integers" "are_integers" (defArgs (top 3)) (defBody (top 3)) (defScope (top 3)) [] [] f fd) (hx : mg "are_integers" = some (.ref f)) (G_is_integer : Dn P w K mg base T 1 "is_integer" 1 F_is_integer) : Dn P w K mg base T 2 "are_integers" 1 F_are_integers := by
  refine dn_ofD (k := 1) (N := ["thing", "item"]) (ps := ["thing"]) (g := S_are_integers) F hx (F.bindsN (ps := ["thing"]) fun _ _ _ _ _ _ us hl => match us, hl with | [_], _ => rfl) sc_are_integers fun cdv A outer s H E hr => ?_
  exact (dss_one (ds_ret (de_and (de_B bi_isi (by rfl) fx.z_isinstance bo_isinstance (da_cons (de_var 0) (da_cons (de_ty (by rfl) fx.z_tuple bo_tuple) da_nil))) (de_one (de_B (bi_all rfl) (by rfl) fx.z_all bo_all (da_cons (de_F (df_lc (own := [("item", 1)]) rfl sc_are_integers.nd (di_seq (de_var 0)) (blkOk_by (by show blkC ["thing", "item"] (defScope (top 3)) _ _ = true; decide +kernel)) (fun _ _ _ _ _ => (pg_name (i := 1) sc_are_integers.nd rfl (by first | exact Or.inl rfl | exact Or.inr rfl))) (fun _ _ _ _ _ => dts_nil) (fun _ _ _ _ _ => (de_call G_is_integer (hr.mono (by omega)) (by rfl) takes0 (da_cons (de_var 1) da_nil))))) da_nil))))))
theorem ok_is_rising {P : Program} {w : World} {K : PySem.W.Frag} {mg : Str → Option Value} {base : Heap} {T : List (Addr × Str)} {f : Addr} {fd : FuncData} (fx : Fx K mg) (F : FunD K "is_rising" "is_rising" (defArgs (top 4)) (defBody (top 4)) (defScope (top 4)) [] [] f fd) (hx : mg "is_rising" = some (.ref f)) (G_are_integers : Dn P w K mg base T 2 "are_integers" 1 F_are_integers) : Dn P w K mg base T 3 "is_rising" 1 F_is_rising := by
  refine dn_ofD (k := 2) (N := ["thing", "one", "other"]) (ps := ["thing"]) (g := S_is_rising) F hx (F.bindsN (ps := ["thing"]) fun _ _ _ _ _ _ us hl => match us, hl with | [_], _ => rfl) sc_is_rising fun cdv A outer s H E hr => ?_
  exact (dss_one (ds_ret (de_and (de_call G_are_integers (hr.mono (by omega)) (by rfl) (takes_of rfl rfl rfl rfl) (da_cons (de_var 0) da_nil)) (de_one (de_B (bi_all rfl) (by rfl) fx.z_all bo_all (da_cons (de_F (df_lc (own := [("one", 1), ("other", 2)]) rfl sc_is_rising.nd (di_zip (by rfl) fx.z_zip (da_cons (de_var 0) (da_cons (de_sl (de_var 0) (do_some de_int) do_none) da_nil))) (blkOk_by (by show blkC ["thing", "one", "other"] (defScope (top 4)) _ _ = true; decide +kernel)) (fun _ _ _ _ _ => (show PG _ _ (tgG _ (.many [1, 2])) from pg_tup rfl (pgs_cons (pg_name (i := 1) sc_is_rising.nd rfl (by first | exact Or.inl rfl | exact Or.inr rfl)) (pgs_cons (pg_name (i := 2) sc_is_rising.nd rfl (by first | exact Or.inl rfl | exact Or.inr rfl)) pgs_nil)))) (fun _ _ _ _ _ => dts_nil) (fun _ _ _ _ _ => (de_cmp (ci_lt hr.units) (de_var 1) (de_var 2))))) da_nil))))))
theorem ok_least_missing {P : Program} {w : World} {K : PySem.W.Frag} {mg : Str → Option Value} {base : Heap} {T : List (Addr × Str)} {f : Addr} {fd : FuncData} (fx : Fx K mg) (F : FunD K "least_missing" "least_missing" (defArgs (top 5)) (defBody (top 5)) (defScope (top 5)) [] [] f fd) (hx : mg "least_missing" = some (.ref f))  : Dn P w K mg base T 1 "least_missing" 1 F_least_missing := by
  refine dn_ofD (k := 0) (N := ["some", "held", "found", "one"]) (ps := ["some"]) (g := S_least_missing) F hx (F.bindsN (ps := ["some"]) fun _ _ _ _ _ _ us hl => match us, hl with | [_], _ => rfl) sc_least_missing fun cdv A outer s H E hr => ?_
  exact (dss_cons (ds_setDc (i := 1) (own := [("one", 3)]) rfl sc_least_missing.nd (di_seq (de_var 0)) (blkOk_by (by show blkC ["some", "held", "found", "one"] (defScope (top 5)) _ _ = true; decide +kernel)) (fun _ _ _ _ _ => (pg_name (i := 3) sc_least_missing.nd rfl (by first | exact Or.inl rfl | exact Or.inr rfl))) (fun _ _ _ _ _ => dts_nil) (fun _ _ _ _ _ => (de_var 3)) (fun _ _ _ _ _ => de_bl) (sw_trueD rfl rfl rfl rfl)) (dss_cons (ds_set (i := 2) sc_least_missing.nd de_int) (dss_cons (ds_while (n := 100) (passes_of rfl) (dt_pc (dc_din (Nat.lt_of_le_of_lt (Nat.add_le_add_left (show 1 ≤ 64 by decide) _) hr.units) (de_var 2) (de_var 1))) (dss_one (ds_set (i := 2) sc_least_missing.nd (de_add (de_var 2) de_int)))) (dss_one (ds_ret (de_var 2))))))
theorem ok_is_lot {P : Program} {w : World} {K : PySem.W.Frag} {mg : Str → Option Value} {base : Heap} {T : List (Addr × Str)} {f : Addr} {fd : FuncData} (fx : Fx K mg) (F : FunD K "is_lot" "is_lot" (defArgs (top 15)) (defBody (top 15)) (defScope (top 15)) [] [] f fd) (hx : mg "is_lot" = some (.ref f)) (G_is_rising : Dn P w K mg base T 3 "is_rising" 1 F_is_rising) : Dn P w K mg base T 4 "is_lot" 1 F_is_lot := by
  refine dn_ofD (k := 3) (N := ["thing"]) (ps := ["thing"]) (g := S_is_lot) F hx (F.bindsN (ps := ["thing"]) fun _ _ _ _ _ _ us hl => match us, hl with | [_], _ => rfl) sc_is_lot fun cdv A outer s H E hr => ?_
  exact (dss_one (ds_ret (de_and (de_call G_is_rising (hr.mono (by omega)) (by rfl) (takes_of rfl rfl rfl rfl) (da_cons (de_var 0) da_nil)) (de_and (de_chain ci_le ci_le de_int (de_B bi_len (by rfl) fx.z_len bo_len (da_cons (de_var 0) da_nil)) (de_gint (by rfl) fx.m_MOST_LOT)) (de_and (de_cmp ci_ge (de_ix (de_var 0) de_int) de_int) (de_one (de_cmp ci_le (de_ix (de_var 0) (de_neg de_int)) (de_gint (by rfl) fx.m_MOST_TAKE))))))))
theorem ok_check_lot {P : Program} {w : World} {K : PySem.W.Frag} {mg : Str → Option Value} {base : Heap} {T : List (Addr × Str)} {f : Addr} {fd : FuncData} (fx : Fx K mg) (F : FunD K "check_lot" "check_lot" (defArgs (top 16)) (defBody (top 16)) (defScope (top 16)) [] [] f fd) (hx : mg "check_lot" = some (.ref f)) (G_is_lot : Dn P w K mg base T 4 "is_lot" 1 F_is_lot) : Dn P w K mg base T 5 "check_lot" 1 F_check_lot := by
  refine dn_ofD (k := 4) (N := ["lot"]) (ps := ["lot"]) (g := S_check_lot) F hx (F.bindsN (ps := ["lot"]) fun _ _ _ _ _ _ us hl => match us, hl with | [_], _ => rfl) sc_check_lot fun cdv A outer s H E hr => ?_
  exact (dss_one (ds_if (dt_not (dt_val (de_call G_is_lot (hr.mono (by omega)) (by rfl) (takes_of rfl rfl rfl rfl) (da_cons (de_var 0) da_nil)))) (dss_one (ds_raise rfl (takes_of rfl rfl rfl rfl) fx.xc_BadLot (by rfl))) dss_nil))
theorem ok_next_number {P : Program} {w : World} {K : PySem.W.Frag} {mg : Str → Option Value} {base : Heap} {T : List (Addr × Str)} {f : Addr} {fd : FuncData} (fx : Fx K mg) (F : FunD K "next_number" "next_number" (defArgs (top 17)) (defBody (top 17)) (defScope (top 17)) [] [] f fd) (hx : mg "next_number" = some (.ref f)) (G_least_missing : Dn P w K mg base T 1 "least_missing" 1 F_least_missing) : Dn P w K mg base T 2 "next_number" 2 F_next_number := by
  refine dn_ofD (k := 1) (N := ["lot", "last", "many", "take"]) (ps := ["lot", "last"]) (g := S_next_number) F hx (F.bindsN (ps := ["lot", "last"]) fun _ _ _ _ _ _ us hl => match us, hl with | [_, _], _ => rfl) sc_next_number fun cdv A outer s H E hr => ?_
  exact (dss_cons (ds_set (i := 2) sc_next_number.nd (de_B bi_len (by rfl) fx.z_len bo_len (da_cons (de_var 1) da_nil))) (dss_one (ds_ret (de_call G_least_missing (hr.mono (by omega)) (by rfl) (takes_of rfl rfl rfl rfl) (da_cons (de_F (df_lc (own := [("take", 3)]) rfl sc_next_number.nd (di_seq (de_var 0)) (blkOk_by (by show blkC ["lot", "last", "many", "take"] (defScope (top 17)) _ _ = true; decide +kernel)) (fun _ _ _ _ _ => (pg_name (i := 3) sc_next_number.nd rfl (by first | exact Or.inl rfl | exact Or.inr rfl))) (fun _ _ _ _ _ => (dts_one (dt_cmp ci_le (de_var 3) (de_var 2)))) (fun _ _ _ _ _ => (de_ix (de_var 1) (de_sub (de_var 2) (de_var 3)))))) da_nil)))))
theorem ok_row_of {P : Program} {w : World} {K : PySem.W.Frag} {mg : Str → Option Value} {base : Heap} {T : List (Addr × Str)} {f : Addr} {fd : FuncData} (fx : Fx K mg) (F : FunD K "row_of" "row_of" (defArgs (top 18)) (defBody (top 18)) (defScope (top 18)) [] [] f fd) (hx : mg "row_of" = some (.ref f)) (G_next_number : Dn P w K mg base T 2 "next_number" 2 F_next_number) : Dn P w K mg base T 3 "row_of" 2 F_row_of := by
  refine dn_ofD (k := 2) (N := ["lot", "most", "found", "heap"]) (ps := ["lot", "most"]) (g := S_row_of) F hx (F.bindsN (ps := ["lot", "most"]) fun _ _ _ _ _ _ us hl => match us, hl with | [_, _], _ => rfl) sc_row_of fun cdv A outer s H E hr => ?_
  exact (dss_cons (ds_setN (i := 2) sc_row_of.nd (dn_F (df_lst da_nil))) (dss_cons (ds_for (passes_of rfl) rfl (di_rng1 (by rfl) fx.z_range (da_cons (de_add (de_var 1) de_int) da_nil)) (pg_name (i := 3) sc_row_of.nd rfl (by first | exact Or.inl rfl | exact Or.inr rfl)) (dss_one (ds_append (j := 2) (de_call G_next_number (hr.mono (by omega)) (by rfl) (takes_of rfl rfl rfl rfl) (da_cons (de_var 0) (da_cons (de_sl (de_var 2) (do_some (de_B (bi_max rfl) (by rfl) fx.z_max bo_max (da_cons de_int (da_cons (de_sub (de_var 3) (de_gint (by rfl) fx.m_MOST_TAKE)) da_nil)))) do_none) da_nil)))))) (dss_one (ds_ret (de_var 2)))))
theorem ok_taking_numbers {P : Program} {w : World} {K : PySem.W.Frag} {mg : Str → Option Value} {base : Heap} {T : List (Addr × Str)} {f : Addr} {fd : FuncData} (fx : Fx K mg) (F : FunD K "taking_numbers" "taking_numbers" (defArgs (top 19)) (defBody (top 19)) (defScope (top 19)) [] [] f fd) (hx : mg "taking_numbers" = some (.ref f)) (G_is_within : Dn P w K mg base T 2 "is_within" 3 F_is_within) (G_check_lot : Dn P w K mg base T 5 "check_lot" 1 F_check_lot) (G_row_of : Dn P w K mg base T 3 "row_of" 2 F_row_of) : Dn P w K mg base T 6 "taking_numbers" 2 F_taking_numbers := by
  refine dn_ofD (k := 5) (N := ["lot", "most"]) (ps := ["lot", "most"]) (g := S_taking_numbers) F hx (F.bindsN (ps := ["lot", "most"]) fun _ _ _ _ _ _ us hl => match us, hl with | [_, _], _ => rfl) sc_taking_numbers fun cdv A outer s H E hr => ?_
  exact (dss_cons (ds_expr (de_call G_check_lot (hr.mono (by omega)) (by rfl) (takes_of rfl rfl rfl rfl) (da_cons (de_var 0) da_nil))) (dss_cons (ds_if (dt_not (dt_val (de_call G_is_within (hr.mono (by omega)) (by rfl) (takes_of rfl rfl rfl rfl) (da_cons (de_var 1) (da_cons de_int (da_cons (de_gint (by rfl) fx.m_MOST_ROUND) da_nil)))))) (dss_one (ds_raise rfl (takes_of rfl rfl rfl rfl) fx.xc_BadNumber (by rfl))) dss_nil) (dss_one (ds_ret (de_BT bi_tup (by rfl) fx.z_tuple bo_tuple (da_cons (de_call G_row_of (hr.mono (by omega)) (by rfl) (takes_of rfl rfl rfl rfl) (da_cons (de_var 0) (da_cons (de_var 1) da_nil))) da_nil))))))
theorem ok_shortest {P : Program} {w : World} {K : PySem.W.Frag} {mg : Str → Option Value} {base : Heap} {T : List (Addr × Str)} {f : Addr} {fd : FuncData} (fx : Fx K mg) (F : FunD K "shortest" "shortest" (defArgs (top 21)) (defBody (top 21)) (defScope (top 21)) [] [] f fd) (hx : mg "shortest" = some (.ref f))  : Dn P w K mg base T 1 "shortest" 3 F_shortest := by
  refine dn_ofD (k := 0) (N := ["found", "place", "period", "before"]) (ps := ["found", "place", "period"]) (g := S_shortest) F hx (F.bindsN (ps := ["found", "place", "period"]) fun _ _ _ _ _ _ us hl => match us, hl with | [_, _, _], _ => rfl) sc_shortest fun cdv A outer s H E hr => ?_
  exact (dss_cons (ds_set (i := 3) sc_shortest.nd (de_var 1)) (dss_cons (ds_while (n := 3000) (passes_of rfl) ((dw_and (dt_cmp ci_gt (de_var 3) de_int) (dw_and1 (dt_cmp (ci_eq hr.units) (de_ix (de_var 0) (de_sub (de_var 3) de_int)) (de_ix (de_var 0) (de_add (de_sub (de_var 3) de_int) (de_var 2))))))).pt (dss_one (ds_set (i := 3) sc_shortest.nd (de_sub (de_var 3) de_int)))) (dss_one (ds_ret (de_tup (da_cons (de_var 3) (da_cons (de_var 2) da_nil)))))))
theorem ok_taking_period {P : Program} {w : World} {K : PySem.W.Frag} {mg : Str → Option Value} {base : Heap} {T : List (Addr × Str)} {f : Addr} {fd : FuncData} (fx : Fx K mg) (F : FunD K "taking_period" "taking_period" (defArgs (top 20)) (defBody (top 20)) (defScope (top 20)) [] [] f fd) (hx : mg "taking_period" = some (.ref f)) (G_check_lot : Dn P w K mg base T 5 "check_lot" 1 F_check_lot) (G_next_number : Dn P w K mg base T 2 "next_number" 2 F_next_number) (G_shortest : Dn P w K mg base T 1 "shortest" 3 F_shortest) : Dn P w K mg base T 6 "taking_period" 1 F_taking_period := by
  refine dn_ofD (k := 5) (N := ["lot", "size", "seen", "found", "key"]) (ps := ["lot"]) (g := S_taking_period) F hx (F.bindsN (ps := ["lot"]) fun _ _ _ _ _ _ us hl => match us, hl with | [_], _ => rfl) sc_taking_period fun cdv A outer s H E hr => ?_
  exact (dss_cons (ds_expr (de_call G_check_lot (hr.mono (by omega)) (by rfl) (takes_of rfl rfl rfl rfl) (da_cons (de_var 0) da_nil))) (dss_cons (ds_parN3 (i := 1) (j := 2) (l := 3) rfl sc_taking_period.nd (dns_cons (dn_E (de_ix (de_var 0) (de_neg de_int))) (dns_cons dn_dt (dns_cons (dn_F (df_lst da_nil)) dns_nil)))) (dss_cons (ds_while (n := 3000) (passes_of rfl) (dt_cmp ci_le (de_B bi_len (by rfl) fx.z_len bo_len (da_cons (de_var 3) da_nil)) (de_gint (by rfl) fx.m_MOST_ROUND)) (dss_cons (ds_if (dt_cmp ci_ge (de_B bi_len (by rfl) fx.z_len bo_len (da_cons (de_var 3) da_nil)) (de_var 1)) (dss_cons (ds_set (i := 4) sc_taking_period.nd (de_BT bi_tup (by rfl) fx.z_tuple bo_tuple (da_cons (de_sl (de_var 3) (do_some (de_sub (de_B bi_len (by rfl) fx.z_len bo_len (da_cons (de_var 3) da_nil)) (de_var 1))) do_none) da_nil))) (dss_cons (ds_if (dt_pc (dc_din (Nat.lt_of_le_of_lt (Nat.add_le_add_left (show 1 ≤ 64 by decide) _) hr.units) (de_var 4) (de_var 2))) (dss_one (ds_ret (de_call G_shortest (hr.mono (by omega)) (by rfl) (takes_of rfl rfl rfl rfl) (da_cons (de_var 3) (da_cons (de_dget (Nat.lt_of_le_of_lt (Nat.add_le_add_left (show 1 ≤ 64 by decide) _) hr.units) (de_var 2) (de_var 4)) (da_cons (de_sub (de_B bi_len (by rfl) fx.z_len bo_len (da_cons (de_var 3) da_nil)) (de_dget (Nat.lt_of_le_of_lt (Nat.add_le_add_left (show 1 ≤ 64 by decide) _) hr.units) (de_var 2) (de_var 4))) da_nil)))))) dss_nil) (dss_one (ds_dputT (j := 2) (Nat.lt_of_le_of_lt (Nat.add_le_add_left (show 1 ≤ 64 by decide) _) hr.units) (de_B bi_len (by rfl) fx.z_len bo_len (da_cons (de_var 3) da_nil)) (de_var 4))))) dss_nil) (dss_one (ds_append (j := 3) (de_call G_next_number (hr.mono (by omega)) (by rfl) (takes_of rfl rfl rfl rfl) (da_cons (de_var 0) (da_cons (de_sl (de_var 3) (do_some (de_B (bi_max rfl) (by rfl) fx.z_max bo_max (da_cons de_int (da_cons (de_sub (de_B bi_len (by rfl) fx.z_len bo_len (da_cons (de_var 3) da_nil)) (de_gint (by rfl) fx.m_MOST_TAKE)) da_nil)))) do_none) da_nil))))))) (dss_one ds_no))))
theorem ok_taking_number {P : Program} {w : World} {K : PySem.W.Frag} {mg : Str → Option Value} {base : Heap} {T : List (Addr × Str)} {f : Addr} {fd : FuncData} (fx : Fx K mg) (F : FunD K "taking_number" "taking_number" (defArgs (top 22)) (defBody (top 22)) (defScope (top 22)) [] [] f fd) (hx : mg "taking_number" = some (.ref f)) (G_is_integer : Dn P w K mg base T 1 "is_integer" 1 F_is_integer) (G_check_lot : Dn P w K mg base T 5 "check_lot" 1 F_check_lot) (G_row_of : Dn P w K mg base T 3 "row_of" 2 F_row_of) (G_taking_period : Dn P w K mg base T 6 "taking_period" 1 F_taking_period) : Dn P w K mg base T 7 "taking_number" 2 F_taking_number := by
  refine dn_ofD (k := 6) (N := ["lot", "heap", "before", "period", "found"]) (ps := ["lot", "heap"]) (g := S_taking_number) F hx (F.bindsN (ps := ["lot", "heap"]) fun _ _ _ _ _ _ us hl => match us, hl with | [_, _], _ => rfl) sc_taking_number fun cdv A outer s H E hr => ?_
  exact (dss_cons (ds_expr (de_call G_check_lot (hr.mono (by omega)) (by rfl) (takes_of rfl rfl rfl rfl) (da_cons (de_var 0) da_nil))) (dss_cons (ds_if ((dw_or (dt_not (dt_val (de_call G_is_integer (hr.mono (by omega)) (by rfl) (takes_of rfl rfl rfl rfl) (da_cons (de_var 1) da_nil)))) (dw_or1 (dt_not (dt_chain ci_le ci_le de_int (de_var 1) (de_pow de_int de_int)))))).pt (dss_one (ds_raise rfl (takes_of rfl rfl rfl rfl) fx.xc_BadNumber (by rfl))) dss_nil) (dss_cons (ds_asg (de_call G_taking_period (hr.mono (by omega)) (by rfl) (takes_of rfl rfl rfl rfl) (da_cons (de_var 0) da_nil)) (show PG _ _ (tgG _ (.many [2, 3])) from pg_tup rfl (pgs_cons (pg_name (i := 2) sc_taking_number.nd rfl (by first | exact Or.inl rfl | exact Or.inr rfl)) (pgs_cons (pg_name (i := 3) sc_taking_number.nd rfl (by first | exact Or.inl rfl | exact Or.inr rfl)) pgs_nil)))) (dss_cons (ds_set (i := 4) sc_taking_number.nd (de_call G_row_of (hr.mono (by omega)) (by rfl) (takes_of rfl rfl rfl rfl) (da_cons (de_var 0) (da_cons (de_add (de_var 2) (de_var 3)) da_nil)))) (dss_one (ds_ret (de_if (dt_cmp (ci_lt hr.units) (de_var 1) (de_var 2)) (de_ix (de_var 4) (de_var 1)) (de_ix (de_var 4) (de_add (de_var 2) (de_mod (de_sub (de_var 1) (de_var 2)) (de_var 3)))))))))))
theorem ok_lost_below {P : Program} {w : World} {K : PySem.W.Frag} {mg : Str → Option Value} {base : Heap} {T : List (Addr × Str)} {f : Addr} {fd : FuncData} (fx : Fx K mg) (F : FunD K "lost_below" "lost_below" (defArgs (top 23)) (defBody (top 23)) (defScope (top 23)) [] [] f fd) (hx : mg "lost_below" = some (.ref f)) (G_is_integer : Dn P w K mg base T 1 "is_integer" 1 F_is_integer) (G_check_lot : Dn P w K mg base T 5 "check_lot" 1 F_check_lot) (G_row_of : Dn P w K mg base T 3 "row_of" 2 F_row_of) (G_taking_period : Dn P w K mg base T 6 "taking_period" 1 F_taking_period) : Dn P w K mg base T 7 "lost_below" 2 F_lost_below := by
  refine dn_ofD (k := 6) (N := ["lot", "heap", "before", "period", "found", "whole", "rest", "stretch"]) (ps := ["lot", "heap"]) (g := S_lost_below) F hx (F.bindsN (ps := ["lot", "heap"]) fun _ _ _ _ _ _ us hl => match us, hl with | [_, _], _ => rfl) sc_lost_below fun cdv A outer s H E hr => ?_
  exact (dss_cons (ds_expr (de_call G_check_lot (hr.mono (by omega)) (by rfl) (takes_of rfl rfl rfl rfl) (da_cons (de_var 0) da_nil))) (dss_cons (ds_if ((dw_or (dt_not (dt_val (de_call G_is_integer (hr.mono (by omega)) (by rfl) (takes_of rfl rfl rfl rfl) (da_cons (de_var 1) da_nil)))) (dw_or1 (dt_not (dt_chain ci_le ci_le de_int (de_var 1) (de_pow de_int de_int)))))).pt (dss_one (ds_raise rfl (takes_of rfl rfl rfl rfl) fx.xc_BadNumber (by rfl))) dss_nil) (dss_cons (ds_asg (de_call G_taking_period (hr.mono (by omega)) (by rfl) (takes_of rfl rfl rfl rfl) (da_cons (de_var 0) da_nil)) (show PG _ _ (tgG _ (.many [2, 3])) from pg_tup rfl (pgs_cons (pg_name (i := 2) sc_lost_below.nd rfl (by first | exact Or.inl rfl | exact Or.inr rfl)) (pgs_cons (pg_name (i := 3) sc_lost_below.nd rfl (by first | exact Or.inl rfl | exact Or.inr rfl)) pgs_nil)))) (dss_cons (ds_set (i := 4) sc_lost_below.nd (de_call G_row_of (hr.mono (by omega)) (by rfl) (takes_of rfl rfl rfl rfl) (da_cons (de_var 0) (da_cons (de_add (de_var 2) (de_var 3)) da_nil)))) (dss_cons (ds_if (dt_cmp ci_le (de_var 1) (de_var 2)) (dss_one (ds_ret (de_cntI (k := 0) (de_sl (de_var 4) do_none (do_some (de_var 1)))))) dss_nil) (dss_cons (ds_par (i := 5) (j := 6) rfl sc_lost_below.nd (da_cons (de_div (de_sub (de_var 1) (de_var 2)) (de_var 3)) (da_cons (de_mod (de_sub (de_var 1) (de_var 2)) (de_var 3)) da_nil))) (dss_cons (ds_set (i := 7) sc_lost_below.nd (de_sl (de_var 4) (do_some (de_var 2)) (do_some (de_add (de_var 2) (de_var 3))))) (dss_one (ds_ret (de_add (de_add (de_cntI (k := 0) (de_sl (de_var 4) do_none (do_some (de_var 2)))) (de_mulA (de_var 5) (de_cntI (k := 0) (de_var 7)))) (de_cntI (k := 0) (de_sl (de_var 7) do_none (do_some (de_var 6))))))))))))))
theorem ok_takes {P : Program} {w : World} {K : PySem.W.Frag} {mg : Str → Option Value} {base : Heap} {T : List (Addr × Str)} {f : Addr} {fd : FuncData} (fx : Fx K mg) (F : FunD K "takes" "takes" (defArgs (top 24)) (defBody (top 24)) (defScope (top 24)) [] [] f fd) (hx : mg "takes" = some (.ref f)) (G_is_integer : Dn P w K mg base T 1 "is_integer" 1 F_is_integer) (G_check_lot : Dn P w K mg base T 5 "check_lot" 1 F_check_lot) (G_taking_number : Dn P w K mg base T 7 "taking_number" 2 F_taking_number) : Dn P w K mg base T 8 "takes" 2 F_takes := by
  refine dn_ofD (k := 7) (N := ["lot", "heap", "take"]) (ps := ["lot", "heap"]) (g := S_takes) F hx (F.bindsN (ps := ["lot", "heap"]) fun _ _ _ _ _ _ us hl => match us, hl with | [_, _], _ => rfl) sc_takes fun cdv A outer s H E hr => ?_
  exact (dss_cons (ds_expr (de_call G_check_lot (hr.mono (by omega)) (by rfl) (takes_of rfl rfl rfl rfl) (da_cons (de_var 0) da_nil))) (dss_cons (ds_if ((dw_or (dt_not (dt_val (de_call G_is_integer (hr.mono (by omega)) (by rfl) (takes_of rfl rfl rfl rfl) (da_cons (de_var 1) da_nil)))) (dw_or1 (dt_not (dt_chain ci_le ci_le de_int (de_var 1) (de_pow de_int de_int)))))).pt (dss_one (ds_raise rfl (takes_of rfl rfl rfl rfl) fx.xc_BadNumber (by rfl))) dss_nil) (dss_one (ds_ret (de_BT bi_tup (by rfl) fx.z_tuple bo_tuple (da_cons (de_F (df_lc (own := [("take", 2)]) rfl sc_takes.nd (di_seq (de_var 0)) (blkOk_by (by show blkC ["lot", "heap", "take"] (defScope (top 24)) _ _ = true; decide +kernel)) (fun _ _ _ _ _ => (pg_name (i := 2) sc_takes.nd rfl (by first | exact Or.inl rfl | exact Or.inr rfl))) (fun _ _ _ _ _ => (dts_one ((dw_and (dt_cmp ci_le (de_var 2) (de_var 1)) (dw_and1 (dt_cmp (ci_eq hr.units) (de_call G_taking_number (hr.mono (by omega)) (by rfl) takes0 (da_cons (de_var 0) (da_cons (de_sub (de_var 1) (de_var 2)) da_nil))) de_int)))).pt)) (fun _ _ _ _ _ => (de_var 2)))) da_nil))))))
theorem ok_number_in {P : Program} {w : World} {K : PySem.W.Frag} {mg : Str → Option Value} {base : Heap} {T : List (Addr × Str)} {f : Addr} {fd : FuncData} (fx : Fx K mg) (F : FunD K "number_in" "number_in" (defArgs (top 26)) (defBody (top 26)) (defScope (top 26)) [] [] f fd) (hx : mg "number_in" = some (.ref f))  : Dn P w K mg base T 1 "number_in" 4 F_number_in := by
  refine dn_ofD (k := 0) (N := ["found", "before", "period", "heap"]) (ps := ["found", "before", "period", "heap"]) (g := S_number_in) F hx (F.bindsN (ps := ["found", "before", "period", "heap"]) fun _ _ _ _ _ _ us hl => match us, hl with | [_, _, _, _], _ => rfl) sc_number_in fun cdv A outer s H E hr => ?_
  exact (dss_one (ds_ret (de_if (dt_cmp (ci_lt hr.units) (de_var 3) (de_var 1)) (de_ix (de_var 0) (de_var 3)) (de_ix (de_var 0) (de_add (de_var 1) (de_mod (de_sub (de_var 3) (de_var 1)) (de_var 2)))))))
theorem ok_can_join {P : Program} {w : World} {K : PySem.W.Frag} {mg : Str → Option Value} {base : Heap} {T : List (Addr × Str)} {f : Addr} {fd : FuncData} (fx : Fx K mg) (F : FunD K "can_join" "can_join" (defArgs (top 25)) (defBody (top 25)) (defScope (top 25)) [] [] f fd) (hx : mg "can_join" = some (.ref f)) (G_is_within : Dn P w K mg base T 2 "is_within" 3 F_is_within) (G_check_lot : Dn P w K mg base T 5 "check_lot" 1 F_check_lot) (G_row_of : Dn P w K mg base T 3 "row_of" 2 F_row_of) (G_taking_period : Dn P w K mg base T 6 "taking_period" 1 F_taking_period) (G_number_in : Dn P w K mg base T 1 "number_in" 4 F_number_in) : Dn P w K mg base T 7 "can_join" 2 F_can_join := by
  refine dn_ofD (k := 6) (N := ["lot", "take", "before", "period", "found", "most", "told", "at", "one", "other"]) (ps := ["lot", "take"]) (g := S_can_join) F hx (F.bindsN (ps := ["lot", "take"]) fun _ _ _ _ _ _ us hl => match us, hl with | [_, _], _ => rfl) sc_can_join fun cdv A outer s H E hr => ?_
  exact (dss_cons (ds_expr (de_call G_check_lot (hr.mono (by omega)) (by rfl) (takes_of rfl rfl rfl rfl) (da_cons (de_var 0) da_nil))) (dss_cons (ds_if (dt_not (dt_val (de_call G_is_within (hr.mono (by omega)) (by rfl) (takes_of rfl rfl rfl rfl) (da_cons (de_var 1) (da_cons de_int (da_cons (de_pow de_int de_int) da_nil)))))) (dss_one (ds_raise rfl (takes_of rfl rfl rfl rfl) fx.xc_BadNumber (by rfl))) dss_nil) (dss_cons (ds_asg (de_call G_taking_period (hr.mono (by omega)) (by rfl) (takes_of rfl rfl rfl rfl) (da_cons (de_var 0) da_nil)) (show PG _ _ (tgG _ (.many [2, 3])) from pg_tup rfl (pgs_cons (pg_name (i := 2) sc_can_join.nd rfl (by first | exact Or.inl rfl | exact Or.inr rfl)) (pgs_cons (pg_name (i := 3) sc_can_join.nd rfl (by first | exact Or.inl rfl | exact Or.inr rfl)) pgs_nil)))) (dss_cons (ds_set (i := 4) sc_can_join.nd (de_call G_row_of (hr.mono (by omega)) (by rfl) (takes_of rfl rfl rfl rfl) (da_cons (de_var 0) (da_cons (de_add (de_add (de_add (de_var 2) (de_var 3)) (de_mod (de_var 1) (de_var 3))) (de_var 3)) da_nil)))) (dss_cons (ds_set (i := 5) sc_can_join.nd (de_add (de_var 2) (de_var 3))) (dss_cons (ds_setLc (i := 6) (own := [("at", 7)]) rfl sc_can_join.nd (di_rng1 (by rfl) fx.z_range (da_cons (de_var 5) da_nil)) (blkOk_by (by show blkC ["lot", "take", "before", "period", "found", "most", "told", "at", "one", "other"] (defScope (top 25)) _ _ = true; decide +kernel)) (fun _ _ _ _ _ => (pg_name (i := 7) sc_can_join.nd rfl (by first | exact Or.inl rfl | exact Or.inr rfl))) (fun _ _ _ _ _ => dts_nil) (fun _ _ _ _ _ => (de_tup (da_cons (de_call G_number_in (hr.mono (by omega)) (by rfl) takes0 (da_cons (de_var 4) (da_cons (de_var 2) (da_cons (de_var 3) (da_cons (de_var 7) da_nil))))) (da_cons (de_call G_number_in (hr.mono (by omega)) (by rfl) takes0 (da_cons (de_var 4) (da_cons (de_var 2) (da_cons (de_var 3) (da_cons (de_add (de_var 7) (de_var 1)) da_nil))))) da_nil)))) hn_dat (sw_true rfl rfl rfl rfl)) (dss_one (ds_ret (de_B (bi_all rfl) (by rfl) fx.z_all bo_all (da_cons (de_F (df_lc (own := [("one", 8), ("other", 9)]) rfl sc_can_join.nd (di_seq (de_var 6)) (blkOk_by (by show blkC ["lot", "take", "before", "period", "found", "most", "told", "at", "one", "other"] (defScope (top 25)) _ _ = true; decide +kernel)) (fun _ _ _ _ _ => (show PG _ _ (tgG _ (.many [8, 9])) from pg_tup rfl (pgs_cons (pg_name (i := 8) sc_can_join.nd rfl (by first | exact Or.inl rfl | exact Or.inr rfl)) (pgs_cons (pg_name (i := 9) sc_can_join.nd rfl (by first | exact Or.inl rfl | exact Or.inr rfl)) pgs_nil)))) (fun _ _ _ _ _ => dts_nil) (fun _ _ _ _ _ => (de_cmp (ci_ne hr.units) (de_var 8) (de_var 9))))) da_nil))))))))))
theorem ok__law_hand {P : Program} {w : World} {K : PySem.W.Frag} {mg : Str → Option Value} {base : Heap} {T : List (Addr × Str)} {f : Addr} {fd : FuncData} (fx : Fx K mg) (F : FunD K "_law_hand" "_law_hand" (defArgs (top 28)) (defBody (top 28)) (defScope (top 28)) [] [] f fd) (hx : mg "_law_hand" = some (.ref f))  : Dn P w K mg base T 1 "_law_hand" 1 F__law_hand := by
  refine dn_ofD (k := 0) (N := ["script", "cells", "cell"]) (ps := ["script"]) (g := S__law_hand) F hx (F.bindsN (ps := ["script"]) fun _ _ _ _ _ _ us hl => match us, hl with | [_], _ => rfl) sc__law_hand fun cdv A outer s H E hr => ?_
  exact (dss_cons (ds_setLc (i := 1) (own := [("cell", 2)]) rfl sc__law_hand.nd (di_seq (de_sl (de_var 0) do_none (do_some de_int))) (blkOk_by (by show blkC ["script", "cells", "cell"] (defScope (top 28)) _ _ = true; decide +kernel)) (fun _ _ _ _ _ => (pg_name (i := 2) sc__law_hand.nd rfl (by first | exact Or.inl rfl | exact Or.inr rfl))) (fun _ _ _ _ _ => dts_nil) (fun _ _ _ _ _ => (de_mod (de_BT bi_int (by rfl) fx.z_int bo_int (da_cons (de_B bi_abs (by rfl) fx.z_abs bo_abs (da_cons (de_BT bi_int (by rfl) fx.z_int bo_int (da_cons (de_var 2) da_nil)) da_nil)) da_nil)) (de_pow de_int de_int))) hn_dat (sw_true rfl rfl rfl rfl)) (dss_one (ds_ret (de_lst (da_cons (de_var 1) (da_cons de_int (da_cons de_int (da_cons (de_add de_int (de_mulA de_int (de_B bi_len (by rfl) fx.z_len bo_len (da_cons (de_var 1) da_nil)))) (da_cons de_int da_nil)))))))))
theorem ok__law_draw {P : Program} {w : World} {K : PySem.W.Frag} {mg : Str → Option Value} {base : Heap} {T : List (Addr × Str)} {f : Addr} {fd : FuncData} (fx : Fx K mg) (F : FunD K "_law_draw" "_law_draw" (defArgs (top 29)) (defBody (top 29)) (defScope (top 29)) [] [] f fd) (hx : mg "_law_draw" = some (.ref f))  : Dn P w K mg base T 1 "_law_draw" 2 F__law_draw := by
  refine dn_ofD (k := 0) (N := ["hand", "many", "cell", "digit", "number"]) (ps := ["hand", "many"]) (g := S__law_draw) F hx (F.bindsN (ps := ["hand", "many"]) fun _ _ _ _ _ _ us hl => match us, hl with | [_, _], _ => rfl) sc__law_draw fun cdv A outer s H E hr => ?_
  exact (dss_cons (ds_if ((dw_and (dt_cmp (ci_eq hr.units) (de_ix (de_var 0) de_int) de_int) (dw_and1 (dt_cmp (ci_lt hr.units) (de_ix (de_var 0) de_int) (de_B bi_len (by rfl) fx.z_len bo_len (da_cons (de_ix (de_var 0) de_int) da_nil)))))).pt (dss_cons (ds_set (i := 2) sc__law_draw.nd (de_ix (de_ix (de_var 0) de_int) (de_ix (de_var 0) de_int))) (dss_cons (ds_put (j := 0) (de_add (de_ix (de_var 0) de_int) de_int) de_int) (dss_cons (ds_put (j := 0) (de_mod (de_BT bi_int (by rfl) fx.z_int bo_int (da_cons (de_add (de_add (de_mulA (de_ix (de_var 0) de_int) de_int) (de_mulA (de_var 2) de_int)) de_int) da_nil)) de_int) de_int) (dss_one (ds_if (dt_cmp ci_ge (de_var 2) (de_pow de_int de_int)) (dss_one (ds_put (j := 0) (de_var 2) de_int)) dss_nil))))) dss_nil) (dss_cons (ds_if (dt_cmp ci_gt (de_ix (de_var 0) de_int) de_int) (dss_cons (ds_set (i := 3) sc__law_draw.nd (de_mod (de_BT bi_int (by rfl) fx.z_int bo_int (da_cons (de_ix (de_var 0) de_int) da_nil)) (de_var 1))) (dss_cons (ds_put (j := 0) (de_div (de_ix (de_var 0) de_int) (de_var 1)) de_int) (dss_one (ds_ret (de_var 3))))) dss_nil) (dss_cons (ds_put (j := 0) (de_add (de_ix (de_var 0) de_int) de_int) de_int) (dss_cons (ds_set (i := 4) sc__law_draw.nd (de_mod (de_BT bi_int (by rfl) fx.z_int bo_int (da_cons (de_mulA (de_BT bi_int (by rfl) fx.z_int bo_int (da_cons (de_add (de_ix (de_var 0) de_int) (de_mulA de_int (de_ix (de_var 0) de_int))) da_nil)) de_int) da_nil)) de_int)) (dss_cons (ds_set (i := 4) sc__law_draw.nd (de_mod (de_BT bi_int (by rfl) fx.z_int bo_int (da_cons (de_mulA (de_var 4) (de_add (de_div (de_var 4) de_int) de_int)) da_nil)) de_int)) (dss_cons (ds_set (i := 4) sc__law_draw.nd (de_mod (de_BT bi_int (by rfl) fx.z_int bo_int (da_cons (de_mulA (de_var 4) (de_add (de_div (de_var 4) de_int) de_int)) da_nil)) de_int)) (dss_one (ds_ret (de_mod (de_BT bi_int (by rfl) fx.z_int bo_int (da_cons (de_div (de_var 4) de_int) da_nil)) (de_var 1))))))))))
theorem ok__law_any {P : Program} {w : World} {K : PySem.W.Frag} {mg : Str → Option Value} {base : Heap} {T : List (Addr × Str)} {f : Addr} {fd : FuncData} (fx : Fx K mg) (F : FunD K "_law_any" "_law_any" (defArgs (top 30)) (defBody (top 30)) (defScope (top 30)) [] [] f fd) (hx : mg "_law_any" = some (.ref f)) (G__law_draw : Dn P w K mg base T 1 "_law_draw" 2 F__law_draw) : Dn P w K mg base T 2 "_law_any" 2 F__law_any := by
  refine dn_ofD (k := 1) (N := ["hand", "some"]) (ps := ["hand", "some"]) (g := S__law_any) F hx (F.bindsN (ps := ["hand", "some"]) fun _ _ _ _ _ _ us hl => match us, hl with | [_, _], _ => rfl) sc__law_any fun cdv A outer s H E hr => ?_
  exact (dss_one (ds_ret (de_ix (de_var 1) (de_call G__law_draw (hr.mono (by omega)) (by rfl) (takes_of rfl rfl rfl rfl) (da_cons (de_var 0) (da_cons (de_B bi_len (by rfl) fx.z_len bo_len (da_cons (de_var 1) da_nil)) da_nil))))))
theorem okr__law_is {P : Program} {w : World} {K : PySem.W.Frag} {mg : Str → Option Value} {base : Heap} {T : List (Addr × Str)} {f : Addr} {fd : FuncData} (fx : Fx K mg) (F : FunD K "_law_is" "_law_is" (defArgs (top 31)) (defBody (top 31)) (defScope (top 31)) [] [] f fd) (hx : mg "_law_is" = some (.ref f))  : ∀ n, Dn P w K mg base T (0 + n) "_law_is" 2 (R__law_is n)
  | 0 => dn_zeroD (ps := ["answer", "due"]) F hx (F.bindsN (ps := ["answer", "due"]) fun _ _ _ _ _ _ us hl => match us, hl with | [_, _], _ => rfl)
  | n + 1 => by
    have GR := okr__law_is (P := P) (w := w) (base := base) (T := T) fx F hx  n
    refine dn_ofD (N := ["answer", "due", "one", "other"]) (ps := ["answer", "due"]) (g := S__law_is (R__law_is n)) F hx (F.bindsN (ps := ["answer", "due"]) fun _ _ _ _ _ _ us hl => match us, hl with | [_, _], _ => rfl) sc__law_is fun cdv A outer s H E hr => ?_
    have hr : Room (0 + n) _ := hr
    exact (dss_cons (ds_if ((dw_or (dt_cmp ci_is (de_var 1) de_non) (dw_or1 (dt_cmp ci_is (de_var 0) de_non)))).pt (dss_one (ds_ret (de_and (de_cmp ci_is (de_var 1) de_non) (de_one (de_cmp ci_is (de_var 0) de_non))))) dss_nil) (dss_cons (ds_if (dt_val (de_B bi_isi (by rfl) fx.z_isinstance bo_isinstance (da_cons (de_var 1) (da_cons (de_tup (da_cons (de_ty (by rfl) fx.z_tuple bo_tuple) (da_cons (de_ty (by rfl) fx.z_list bo_list) da_nil))) da_nil)))) (dss_cons (ds_if ((dw_or (dt_cmp (ci_ne hr.units) (de_B bi_isi (by rfl) fx.z_isinstance bo_isinstance (da_cons (de_var 0) (da_cons (de_ty (by rfl) fx.z_tuple bo_tuple) da_nil))) (de_B bi_isi (by rfl) fx.z_isinstance bo_isinstance (da_cons (de_var 1) (da_cons (de_ty (by rfl) fx.z_tuple bo_tuple) da_nil)))) (dw_or1 (dt_cmp (ci_ne hr.units) (de_B bi_isi (by rfl) fx.z_isinstance bo_isinstance (da_cons (de_var 0) (da_cons (de_ty (by rfl) fx.z_list bo_list) da_nil))) (de_B bi_isi (by rfl) fx.z_isinstance bo_isinstance (da_cons (de_var 1) (da_cons (de_ty (by rfl) fx.z_list bo_list) da_nil))))))).pt (dss_one (ds_ret de_bl)) dss_nil) (dss_one (ds_ret (de_and (de_cmp (ci_eq hr.units) (de_B bi_len (by rfl) fx.z_len bo_len (da_cons (de_var 0) da_nil)) (de_B bi_len (by rfl) fx.z_len bo_len (da_cons (de_var 1) da_nil))) (de_one (de_B (bi_all rfl) (by rfl) fx.z_all bo_all (da_cons (de_F (df_lc (own := [("one", 2), ("other", 3)]) rfl sc__law_is.nd (di_zip (by rfl) fx.z_zip (da_cons (de_var 0) (da_cons (de_var 1) da_nil))) (blkOk_by (by show blkC ["answer", "due", "one", "other"] (defScope (top 31)) _ _ = true; decide +kernel)) (fun _ _ _ _ _ => (show PG _ _ (tgG _ (.many [2, 3])) from pg_tup rfl (pgs_cons (pg_name (i := 2) sc__law_is.nd rfl (by first | exact Or.inl rfl | exact Or.inr rfl)) (pgs_cons (pg_name (i := 3) sc__law_is.nd rfl (by first | exact Or.inl rfl | exact Or.inr rfl)) pgs_nil)))) (fun _ _ _ _ _ => dts_nil) (fun _ _ _ _ _ => (de_call GR (hr.mono (by omega)) (by rfl) takes0 (da_cons (de_var 2) (da_cons (de_var 3) da_nil)))))) da_nil))))))) dss_nil) (dss_cons (ds_if ((dw_or (dt_cmp (ci_ne hr.units) (de_B bi_isi (by rfl) fx.z_isinstance bo_isinstance (da_cons (de_var 0) (da_cons (de_ty (by rfl) fx.z_bool bo_bool) da_nil))) (de_B bi_isi (by rfl) fx.z_isinstance bo_isinstance (da_cons (de_var 1) (da_cons (de_ty (by rfl) fx.z_bool bo_bool) da_nil)))) (dw_or1 (dt_cmp (ci_ne hr.units) (de_B bi_isi (by rfl) fx.z_isinstance bo_isinstance (da_cons (de_var 0) (da_cons (de_ty (by rfl) fx.z_int bo_int) da_nil))) (de_B bi_isi (by rfl) fx.z_isinstance bo_isinstance (da_cons (de_var 1) (da_cons (de_ty (by rfl) fx.z_int bo_int) da_nil))))))).pt (dss_one (ds_ret de_bl)) dss_nil) (dss_one (ds_ret (de_and (de_cmp (ci_eq hr.units) (de_B bi_isi (by rfl) fx.z_isinstance bo_isinstance (da_cons (de_var 0) (da_cons (de_ty (by rfl) fx.z_str bo_str) da_nil))) (de_B bi_isi (by rfl) fx.z_isinstance bo_isinstance (da_cons (de_var 1) (da_cons (de_ty (by rfl) fx.z_str bo_str) da_nil)))) (de_one (de_cmp (ci_eq hr.units) (de_var 0) (de_var 1)))))))))
theorem ok__law_is {P : Program} {w : World} {K : PySem.W.Frag} {mg : Str → Option Value} {base : Heap} {T : List (Addr × Str)} {f : Addr} {fd : FuncData} (fx : Fx K mg) (F : FunD K "_law_is" "_law_is" (defArgs (top 31)) (defBody (top 31)) (defScope (top 31)) [] [] f fd) (hx : mg "_law_is" = some (.ref f))  : Dn P w K mg base T 5 "_law_is" 2 F__law_is := dn_mono (okr__law_is fx F hx  4) (by omega)
theorem ok__law_least_missing {P : Program} {w : World} {K : PySem.W.Frag} {mg : Str → Option Value} {base : Heap} {T : List (Addr × Str)} {f : Addr} {fd : FuncData} (fx : Fx K mg) (F : FunD K "_law_least_missing" "_law_least_missing" (defArgs (top 32)) (defBody (top 32)) (defScope (top 32)) [] [] f fd) (hx : mg "_law_least_missing" = some (.ref f))  : Dn P w K mg base T 1 "_law_least_missing" 1 F__law_least_missing := by
  refine dn_ofD (k := 0) (N := ["some", "found"]) (ps := ["some"]) (g := S__law_least_missing) F hx (F.bindsN (ps := ["some"]) fun _ _ _ _ _ _ us hl => match us, hl with | [_], _ => rfl) sc__law_least_missing fun cdv A outer s H E hr => ?_
  exact (dss_cons (ds_set (i := 1) sc__law_least_missing.nd de_int) (dss_cons (ds_while (n := 100) (passes_of rfl) (dt_cmp ci_in (de_var 1) (de_var 0) rfl) (dss_one (ds_set (i := 1) sc__law_least_missing.nd (de_add (de_var 1) de_int)))) (dss_one (ds_ret (de_var 1)))))
theorem ok__law_heap {P : Program} {w : World} {K : PySem.W.Frag} {mg : Str → Option Value} {base : Heap} {T : List (Addr × Str)} {f : Addr} {fd : FuncData} (fx : Fx K mg) (F : FunD K "_law_heap" "_law_heap" (defArgs (top 33)) (defBody (top 33)) (defScope (top 33)) [] [] f fd) (hx : mg "_law_heap" = some (.ref f)) (G__law_draw : Dn P w K mg base T 1 "_law_draw" 2 F__law_draw) (G__law_any : Dn P w K mg base T 2 "_law_any" 2 F__law_any) : Dn P w K mg base T 3 "_law_heap" 1 F__law_heap := by
  refine dn_ofD (k := 2) (N := ["hand"]) (ps := ["hand"]) (g := S__law_heap) F hx (F.bindsN (ps := ["hand"]) fun _ _ _ _ _ _ us hl => match us, hl with | [_], _ => rfl) sc__law_heap fun cdv A outer s H E hr => ?_
  exact (dss_one (ds_ret (de_call G__law_draw (hr.mono (by omega)) (by rfl) (takes_of rfl rfl rfl rfl) (da_cons (de_var 0) (da_cons (de_call G__law_any (hr.mono (by omega)) (by rfl) (takes_of rfl rfl rfl rfl) (da_cons (de_var 0) (da_cons (de_lst (da_cons de_int (da_cons (de_pow de_int de_int) (da_cons (de_pow de_int de_int) da_nil)))) da_nil))) da_nil)))))
theorem ok__law_all_to {P : Program} {w : World} {K : PySem.W.Frag} {mg : Str → Option Value} {base : Heap} {T : List (Addr × Str)} {f : Addr} {fd : FuncData} (fx : Fx K mg) (F : FunD K "_law_all_to" "_law_all_to" (defArgs (top 34)) (defBody (top 34)) (defScope (top 34)) [] [] f fd) (hx : mg "_law_all_to" = some (.ref f))  : Dn P w K mg base T 1 "_law_all_to" 2 F__law_all_to := by
  refine dn_ofD (k := 0) (N := ["hand", "most"]) (ps := ["hand", "most"]) (g := S__law_all_to) F hx (F.bindsN (ps := ["hand", "most"]) fun _ _ _ _ _ _ us hl => match us, hl with | [_, _], _ => rfl) sc__law_all_to fun cdv A outer s H E hr => ?_
  exact (dss_one (ds_ret (de_tup (da_cons (de_tupRg2 rfl (by rfl) fx.z_tuple (by rfl) fx.z_range de_int (de_add (de_var 1) de_int)) (da_cons (de_add (de_var 1) de_int) (da_cons (de_lstRg1 rfl (by rfl) fx.z_list (by rfl) fx.z_range (de_add (de_var 1) de_int)) da_nil))))))
theorem ok__law_known {P : Program} {w : World} {K : PySem.W.Frag} {mg : Str → Option Value} {base : Heap} {T : List (Addr × Str)} {f : Addr} {fd : FuncData} (fx : Fx K mg) (F : FunD K "_law_known" "_law_known" (defArgs (top 35)) (defBody (top 35)) (defScope (top 35)) [] [] f fd) (hx : mg "_law_known" = some (.ref f)) (G__law_draw : Dn P w K mg base T 1 "_law_draw" 2 F__law_draw) (G__law_all_to : Dn P w K mg base T 1 "_law_all_to" 2 F__law_all_to) : Dn P w K mg base T 2 "_law_known" 1 F__law_known := by
  refine dn_ofD (k := 1) (N := ["hand", "kind", "one", "odd", "even", "far", "few", "many", "lot", "period", "numbers", "rows", "number", "turn", "at", "take"]) (ps := ["hand"]) (g := S__law_known) F hx (F.bindsN (ps := ["hand"]) fun _ _ _ _ _ _ us hl => match us, hl with | [_], _ => rfl) sc__law_known fun cdv A outer s H E hr => ?_
  exact (dss_cons (ds_asg (de_tup (da_cons (de_call G__law_draw (hr.mono (by omega)) (by rfl) (takes_of rfl rfl rfl rfl) (da_cons (de_var 0) (da_cons de_int da_nil))) (da_cons (de_add de_int (de_call G__law_draw (hr.mono (by omega)) (by rfl) (takes_of rfl rfl rfl rfl) (da_cons (de_var 0) (da_cons de_int da_nil)))) da_nil))) (show PG _ _ (tgG _ (.many [1, 2])) from pg_tup rfl (pgs_cons (pg_name (i := 1) sc__law_known.nd rfl (by first | exact Or.inl rfl | exact Or.inr rfl)) (pgs_cons (pg_name (i := 2) sc__law_known.nd rfl (by first | exact Or.inl rfl | exact Or.inr rfl)) pgs_nil)))) (dss_cons (ds_if (dt_cmp (ci_eq hr.units) (de_var 1) de_int) (dss_one (ds_ret (de_call G__law_all_to (hr.mono (by omega)) (by rfl) (takes_of rfl rfl rfl rfl) (da_cons (de_var 0) (da_cons (de_add de_int (de_call G__law_draw (hr.mono (by omega)) (by rfl) (takes_of rfl rfl rfl rfl) (da_cons (de_var 0) (da_cons de_int da_nil)))) da_nil))))) dss_nil) (dss_cons (ds_if (dt_cmp (ci_eq hr.units) (de_var 1) de_int) (dss_one (ds_ret (de_tup (da_cons (de_tup (da_cons (de_var 2) da_nil)) (da_cons (de_mulA de_int (de_var 2)) (da_cons (de_add (de_mulA (de_lst (da_cons de_int da_nil)) (de_var 2)) (de_mulA (de_lst (da_cons de_int da_nil)) (de_var 2))) da_nil)))))) dss_nil) (dss_cons (ds_if (dt_cmp (ci_eq hr.units) (de_var 1) de_int) (dss_cons (ds_set (i := 3) sc__law_known.nd (de_sortS rfl (by rfl) fx.z_sorted (by rfl) fx.z_set (da_cons (de_add (de_lst (da_cons de_int da_nil)) (de_F (df_lc (own := [("turn", 13)]) rfl sc__law_known.nd (di_rng1 (by rfl) fx.z_range (da_cons de_int da_nil)) (blkOk_by (by show blkC ["hand", "kind", "one", "odd", "even", "far", "few", "many", "lot", "period", "numbers", "rows", "number", "turn", "at", "take"] (defScope (top 35)) _ _ = true; decide +kernel)) (fun _ _ _ _ _ => (pg_name (i := 13) sc__law_known.nd rfl (by first | exact Or.inl rfl | exact Or.inr rfl))) (fun _ _ _ _ _ => dts_nil) (fun _ _ _ _ _ => (de_add de_int (de_mulA de_int (de_call G__law_draw (hr.mono (by omega)) (by rfl) takes0 (da_cons (de_var 0) (da_cons de_int da_nil))))))))) da_nil))) (dss_one (ds_ret (de_tup (da_cons (de_BT bi_tup (by rfl) fx.z_tuple bo_tuple (da_cons (de_var 3) da_nil)) (da_cons de_int (da_cons (de_lst (da_cons de_int (da_cons de_int da_nil))) da_nil))))))) dss_nil) (dss_cons (ds_if (dt_cmp (ci_eq hr.units) (de_var 1) de_int) (dss_cons (ds_set (i := 4) sc__law_known.nd (de_mulA de_int (de_add de_int (de_call G__law_draw (hr.mono (by omega)) (by rfl) (takes_of rfl rfl rfl rfl) (da_cons (de_var 0) (da_cons de_int da_nil)))))) (dss_one (ds_ret (de_tup (da_cons (de_tup (da_cons de_int (da_cons (de_var 4) da_nil))) (da_cons (de_add (de_var 4) de_int) (da_cons (de_add (de_mulA (de_lst (da_cons de_int (da_cons de_int da_nil))) (de_div (de_var 4) de_int)) (de_lst (da_cons de_int da_nil))) da_nil))))))) dss_nil) (dss_cons (ds_if (dt_cmp (ci_eq hr.units) (de_var 1) de_int) (dss_cons (ds_set (i := 5) sc__law_known.nd (de_sub (de_mulA de_int (de_var 2)) (de_call G__law_draw (hr.mono (by omega)) (by rfl) (takes_of rfl rfl rfl rfl) (da_cons (de_var 0) (da_cons (de_var 2) da_nil))))) (dss_cons (ds_set (i := 5) sc__law_known.nd (de_B (bi_min3 rfl) (by rfl) fx.z_min bo_min (da_cons de_int (da_cons (de_add (de_var 2) de_int) (da_cons (de_B (bi_max rfl) (by rfl) fx.z_max bo_max (da_cons (de_var 5) (da_cons (de_var 2) da_nil))) da_nil))))) (dss_one (ds_ret (de_tup (da_cons (de_tupRg2 rfl (by rfl) fx.z_tuple (by rfl) fx.z_range (de_var 2) (de_add (de_var 5) de_int)) (da_cons (de_add (de_var 2) (de_var 5)) (da_cons (de_F (df_lc (own := [("at", 14)]) rfl sc__law_known.nd (di_rng1 (by rfl) fx.z_range (da_cons (de_add (de_var 2) (de_var 5)) da_nil)) (blkOk_by (by show blkC ["hand", "kind", "one", "odd", "even", "far", "few", "many", "lot", "period", "numbers", "rows", "number", "turn", "at", "take"] (defScope (top 35)) _ _ = true; decide +kernel)) (fun _ _ _ _ _ => (pg_name (i := 14) sc__law_known.nd rfl (by first | exact Or.inl rfl | exact Or.inr rfl))) (fun _ _ _ _ _ => dts_nil) (fun _ _ _ _ _ => (de_div (de_var 14) (de_var 2))))) da_nil)))))))) dss_nil) (dss_cons (ds_asg (de_tup (da_cons (de_add (de_call G__law_draw (hr.mono (by omega)) (by rfl) (takes_of rfl rfl rfl rfl) (da_cons (de_var 0) (da_cons de_int da_nil))) de_int) (da_cons (de_add de_int (de_call G__law_draw (hr.mono (by omega)) (by rfl) (takes_of rfl rfl rfl rfl) (da_cons (de_var 0) (da_cons de_int da_nil)))) da_nil))) (show PG _ _ (tgG _ (.many [6, 7])) from pg_tup rfl (pgs_cons (pg_name (i := 6) sc__law_known.nd rfl (by first | exact Or.inl rfl | exact Or.inr rfl)) (pgs_cons (pg_name (i := 7) sc__law_known.nd rfl (by first | exact Or.inl rfl | exact Or.inr rfl)) pgs_nil)))) (dss_cons (ds_asg (de_call G__law_all_to (hr.mono (by omega)) (by rfl) (takes_of rfl rfl rfl rfl) (da_cons (de_var 0) (da_cons (de_var 6) da_nil))) (show PG _ _ (tgG _ (.many [8, 9, 10])) from pg_tup rfl (pgs_cons (pg_name (i := 8) sc__law_known.nd rfl (by first | exact Or.inl rfl | exact Or.inr rfl)) (pgs_cons (pg_name (i := 9) sc__law_known.nd rfl (by first | exact Or.inl rfl | exact Or.inr rfl)) (pgs_cons (pg_name (i := 10) sc__law_known.nd rfl (by first | exact Or.inl rfl | exact Or.inr rfl)) pgs_nil))))) (dss_cons (ds_set (i := 11) sc__law_known.nd (de_lst da_nil)) (dss_cons (ds_for (passes_of rfl) rfl (di_seq (de_var 10)) (pg_name (i := 12) sc__law_known.nd rfl (by first | exact Or.inl rfl | exact Or.inr rfl)) (dss_one (ds_set (i := 11) sc__law_known.nd (de_add (de_var 11) (de_mulA (de_lst (da_cons (de_var 12) da_nil)) (de_var 7)))))) (dss_one (ds_ret (de_tup (da_cons (de_BT bi_tup (by rfl) fx.z_tuple bo_tuple (da_cons (de_F (df_lc (own := [("take", 15)]) rfl sc__law_known.nd (di_seq (de_var 8)) (blkOk_by (by show blkC ["hand", "kind", "one", "odd", "even", "far", "few", "many", "lot", "period", "numbers", "rows", "number", "turn", "at", "take"] (defScope (top 35)) _ _ = true; decide +kernel)) (fun _ _ _ _ _ => (pg_name (i := 15) sc__law_known.nd rfl (by first | exact Or.inl rfl | exact Or.inr rfl))) (fun _ _ _ _ _ => dts_nil) (fun _ _ _ _ _ => (de_mulA (de_var 7) (de_var 15))))) da_nil)) (da_cons (de_mulA (de_var 7) (de_var 9)) (da_cons (de_var 11) da_nil))))))))))))))))
theorem ok__law_is_known_right {P : Program} {w : World} {K : PySem.W.Frag} {mg : Str → Option Value} {base : Heap} {T : List (Addr × Str)} {f : Addr} {fd : FuncData} (fx : Fx K mg) (F : FunD K "_law_is_known_right" "_law_is_known_right" (defArgs (top 36)) (defBody (top 36)) (defScope (top 36)) [] [] f fd) (hx : mg "_law_is_known_right" = some (.ref f)) (G_taking_numbers : Dn P w K mg base T 6 "taking_numbers" 2 F_taking_numbers) (G_taking_period : Dn P w K mg base T 6 "taking_period" 1 F_taking_period) (G_taking_number : Dn P w K mg base T 7 "taking_number" 2 F_taking_number) (G_lost_below : Dn P w K mg base T 7 "lost_below" 2 F_lost_below) (G_takes : Dn P w K mg base T 8 "takes" 2 F_takes) (G_can_join : Dn P w K mg base T 7 "can_join" 2 F_can_join) (G__law_draw : Dn P w K mg base T 1 "_law_draw" 2 F__law_draw) (G__law_is : Dn P w K mg base T 5 "_law_is" 2 F__law_is) (G__law_heap : Dn P w K mg base T 3 "_law_heap" 1 F__law_heap) (G__law_known : Dn P w K mg base T 2 "_law_known" 1 F__law_known) : Dn P w K mg base T 9 "_law_is_known_right" 1 F__law_is_known_right := by
  refine dn_ofD (k := 8) (N := ["hand", "lot", "period", "numbers", "most", "turn", "heap", "rest", "below", "some", "told", "take", "other"]) (ps := ["hand"]) (g := S__law_is_known_right) F hx (F.bindsN (ps := ["hand"]) fun _ _ _ _ _ _ us hl => match us, hl with | [_], _ => rfl) sc__law_is_known_right fun cdv A outer s H E hr => ?_
  exact (dss_cons (ds_asg (de_call G__law_known (hr.mono (by omega)) (by rfl) (takes_of rfl rfl rfl rfl) (da_cons (de_var 0) da_nil)) (show PG _ _ (tgG _ (.many [1, 2, 3])) from pg_tup rfl (pgs_cons (pg_name (i := 1) sc__law_is_known_right.nd rfl (by first | exact Or.inl rfl | exact Or.inr rfl)) (pgs_cons (pg_name (i := 2) sc__law_is_known_right.nd rfl (by first | exact Or.inl rfl | exact Or.inr rfl)) (pgs_cons (pg_name (i := 3) sc__law_is_known_right.nd rfl (by first | exact Or.inl rfl | exact Or.inr rfl)) pgs_nil))))) (dss_cons (ds_if (dt_not (dt_val (de_call G__law_is (hr.mono (by omega)) (by rfl) (takes_of rfl rfl rfl rfl) (da_cons (de_call G_taking_period (hr.mono (by omega)) (by rfl) (takes_of rfl rfl rfl rfl) (da_cons (de_var 1) da_nil)) (da_cons (de_tup (da_cons de_int (da_cons (de_var 2) da_nil))) da_nil))))) (dss_one (ds_ret de_bl)) dss_nil) (dss_cons (ds_set (i := 4) sc__law_is_known_right.nd (de_call G__law_draw (hr.mono (by omega)) (by rfl) (takes_of rfl rfl rfl rfl) (da_cons (de_var 0) (da_cons de_int da_nil)))) (dss_cons (ds_if (dt_not (dt_val (de_call G__law_is (hr.mono (by omega)) (by rfl) (takes_of rfl rfl rfl rfl) (da_cons (de_call G_taking_numbers (hr.mono (by omega)) (by rfl) (takes_of rfl rfl rfl rfl) (da_cons (de_var 1) (da_cons (de_var 4) da_nil))) (da_cons (de_BT bi_tup (by rfl) fx.z_tuple bo_tuple (da_cons (de_F (df_lc (own := [("heap", 6)]) rfl sc__law_is_known_right.nd (di_rng1 (by rfl) fx.z_range (da_cons (de_add (de_var 4) de_int) da_nil)) (blkOk_by (by show blkC ["hand", "lot", "period", "numbers", "most", "turn", "heap", "rest", "below", "some", "told", "take", "other"] (defScope (top 36)) _ _ = true; decide +kernel)) (fun _ _ _ _ _ => (pg_name (i := 6) sc__law_is_known_right.nd rfl (by first | exact Or.inl rfl | exact Or.inr rfl))) (fun _ _ _ _ _ => dts_nil) (fun _ _ _ _ _ => (de_ix (de_var 3) (de_mod (de_BT bi_int (by rfl) fx.z_int bo_int (da_cons (de_var 6) da_nil)) (de_var 2)))))) da_nil)) da_nil))))) (dss_one (ds_ret de_bl)) dss_nil) (dss_cons (ds_for (passes_of rfl) rfl (di_rng1 (by rfl) fx.z_range (da_cons de_int da_nil)) (pg_name (i := 5) sc__law_is_known_right.nd rfl (by first | exact Or.inl rfl | exact Or.inr rfl)) (dss_cons (ds_set (i := 6) sc__law_is_known_right.nd (de_call G__law_heap (hr.mono (by omega)) (by rfl) (takes_of rfl rfl rfl rfl) (da_cons (de_var 0) da_nil))) (dss_cons (ds_set (i := 7) sc__law_is_known_right.nd (de_mod (de_BT bi_int (by rfl) fx.z_int bo_int (da_cons (de_var 6) da_nil)) (de_var 2))) (dss_cons (ds_set (i := 8) sc__law_is_known_right.nd (de_add (de_mulA (de_div (de_var 6) (de_var 2)) (de_cntI (k := 0) (de_var 3))) (de_cntI (k := 0) (de_sl (de_var 3) do_none (do_some (de_var 7)))))) (dss_cons (ds_set (i := 9) sc__law_is_known_right.nd (de_BT bi_tup (by rfl) fx.z_tuple bo_tuple (da_cons (de_F (df_lc (own := [("take", 11)]) rfl sc__law_is_known_right.nd (di_seq (de_var 1)) (blkOk_by (by show blkC ["hand", "lot", "period", "numbers", "most", "turn", "heap", "rest", "below", "some", "told", "take", "other"] (defScope (top 36)) _ _ = true; decide +kernel)) (fun _ _ _ _ _ => (pg_name (i := 11) sc__law_is_known_right.nd rfl (by first | exact Or.inl rfl | exact Or.inr rfl))) (fun _ _ _ _ _ => (dts_one ((dw_and (dt_cmp ci_le (de_var 11) (de_var 6)) (dw_and1 (dt_cmp (ci_eq hr.units) (de_ix (de_var 3) (de_mod (de_BT bi_int (by rfl) fx.z_int bo_int (da_cons (de_sub (de_var 6) (de_var 11)) da_nil)) (de_var 2))) de_int)))).pt)) (fun _ _ _ _ _ => (de_var 11)))) da_nil))) (dss_cons (ds_set (i := 10) sc__law_is_known_right.nd (de_lst (da_cons (de_call G_taking_number (hr.mono (by omega)) (by rfl) (takes_of rfl rfl rfl rfl) (da_cons (de_var 1) (da_cons (de_var 6) da_nil))) (da_cons (de_call G_lost_below (hr.mono (by omega)) (by rfl) (takes_of rfl rfl rfl rfl) (da_cons (de_var 1) (da_cons (de_var 6) da_nil))) (da_cons (de_call G_takes (hr.mono (by omega)) (by rfl) (takes_of rfl rfl rfl rfl) (da_cons (de_var 1) (da_cons (de_var 6) da_nil))) da_nil))))) (dss_cons (ds_if (dt_not (dt_val (de_call G__law_is (hr.mono (by omega)) (by rfl) (takes_of rfl rfl rfl rfl) (da_cons (de_var 10) (da_cons (de_lst (da_cons (de_ix (de_var 3) (de_var 7)) (da_cons (de_var 8) (da_cons (de_var 9) da_nil)))) da_nil))))) (dss_one (ds_ret de_bl)) dss_nil) (dss_cons (ds_set (i := 11) sc__law_is_known_right.nd (de_add (de_ix (de_var 1) (de_call G__law_draw (hr.mono (by omega)) (by rfl) (takes_of rfl rfl rfl rfl) (da_cons (de_var 0) (da_cons (de_B bi_len (by rfl) fx.z_len bo_len (da_cons (de_var 1) da_nil)) da_nil)))) (de_mulA (de_var 2) (de_add de_int (de_call G__law_draw (hr.mono (by omega)) (by rfl) (takes_of rfl rfl rfl rfl) (da_cons (de_var 0) (da_cons (de_pow de_int de_int) da_nil))))))) (dss_cons (ds_set (i := 12) sc__law_is_known_right.nd (de_mulA (de_var 2) (de_add de_int (de_call G__law_draw (hr.mono (by omega)) (by rfl) (takes_of rfl rfl rfl rfl) (da_cons (de_var 0) (da_cons (de_pow de_int de_int) da_nil)))))) (dss_one (ds_if (dt_not (dt_val (de_call G__law_is (hr.mono (by omega)) (by rfl) (takes_of rfl rfl rfl rfl) (da_cons (de_lst (da_cons (de_call G_can_join (hr.mono (by omega)) (by rfl) (takes_of rfl rfl rfl rfl) (da_cons (de_var 1) (da_cons (de_var 11) da_nil))) (da_cons (de_call G_can_join (hr.mono (by omega)) (by rfl) (takes_of rfl rfl rfl rfl) (da_cons (de_var 1) (da_cons (de_var 12) da_nil))) da_nil))) (da_cons (de_lst (da_cons de_bl (da_cons de_bl da_nil))) da_nil))))) (dss_one (ds_ret de_bl)) dss_nil))))))))))) (dss_one (ds_ret de_bl)))))))
theorem ok__law_are_great_right {P : Program} {w : World} {K : PySem.W.Frag} {mg : Str → Option Value} {base : Heap} {T : List (Addr × Str)} {f : Addr} {fd : FuncData} (fx : Fx K mg) (F : FunD K "_law_are_great_right" "_law_are_great_right" (defArgs (top 37)) (defBody (top 37)) (defScope (top 37)) [] [] f fd) (hx : mg "_law_are_great_right" = some (.ref f)) (G_taking_period : Dn P w K mg base T 6 "taking_period" 1 F_taking_period) (G_taking_number : Dn P w K mg base T 7 "taking_number" 2 F_taking_number) (G_lost_below : Dn P w K mg base T 7 "lost_below" 2 F_lost_below) (G_takes : Dn P w K mg base T 8 "takes" 2 F_takes) (G__law_draw : Dn P w K mg base T 1 "_law_draw" 2 F__law_draw) (G__law_least_missing : Dn P w K mg base T 1 "_law_least_missing" 1 F__law_least_missing) (G__law_heap : Dn P w K mg base T 3 "_law_heap" 1 F__law_heap) : Dn P w K mg base T 9 "_law_are_great_right" 1 F__law_are_great_right := by
  refine dn_ofD (k := 8) (N := ["hand", "lot", "before", "period", "turn", "heap", "some", "number", "far", "many", "wide", "take"]) (ps := ["hand"]) (g := S__law_are_great_right) F hx (F.bindsN (ps := ["hand"]) fun _ _ _ _ _ _ us hl => match us, hl with | [_], _ => rfl) sc__law_are_great_right fun cdv A outer s H E hr => ?_
  exact (dss_cons (ds_set (i := 1) sc__law_are_great_right.nd (de_BT bi_tup (by rfl) fx.z_tuple bo_tuple (da_cons (de_sortS rfl (by rfl) fx.z_sorted (by rfl) fx.z_set (da_cons (de_F (df_lc (own := [("turn", 4)]) rfl sc__law_are_great_right.nd (di_rng1 (by rfl) fx.z_range (da_cons (de_add de_int (de_call G__law_draw (hr.mono (by omega)) (by rfl) (takes_of rfl rfl rfl rfl) (da_cons (de_var 0) (da_cons de_int da_nil)))) da_nil)) (blkOk_by (by show blkC ["hand", "lot", "before", "period", "turn", "heap", "some", "number", "far", "many", "wide", "take"] (defScope (top 37)) _ _ = true; decide +kernel)) (fun _ _ _ _ _ => (pg_name (i := 4) sc__law_are_great_right.nd rfl (by first | exact Or.inl rfl | exact Or.inr rfl))) (fun _ _ _ _ _ => dts_nil) (fun _ _ _ _ _ => (de_add de_int (de_call G__law_draw (hr.mono (by omega)) (by rfl) takes0 (da_cons (de_var 0) (da_cons de_int da_nil))))))) da_nil)) da_nil))) (dss_cons (ds_asg (de_call G_taking_period (hr.mono (by omega)) (by rfl) (takes_of rfl rfl rfl rfl) (da_cons (de_var 1) da_nil)) (show PG _ _ (tgG _ (.many [2, 3])) from pg_tup rfl (pgs_cons (pg_name (i := 2) sc__law_are_great_right.nd rfl (by first | exact Or.inl rfl | exact Or.inr rfl)) (pgs_cons (pg_name (i := 3) sc__law_are_great_right.nd rfl (by first | exact Or.inl rfl | exact Or.inr rfl)) pgs_nil)))) (dss_cons (ds_for (passes_of rfl) rfl (di_rng1 (by rfl) fx.z_range (da_cons de_int da_nil)) (pg_name (i := 4) sc__law_are_great_right.nd rfl (by first | exact Or.inl rfl | exact Or.inr rfl)) (dss_cons (ds_set (i := 5) sc__law_are_great_right.nd (de_add (de_var 2) (de_call G__law_heap (hr.mono (by omega)) (by rfl) (takes_of rfl rfl rfl rfl) (da_cons (de_var 0) da_nil)))) (dss_cons (ds_setLc (i := 6) (own := [("take", 11)]) rfl sc__law_are_great_right.nd (di_seq (de_var 1)) (blkOk_by (by show blkC ["hand", "lot", "before", "period", "turn", "heap", "some", "number", "far", "many", "wide", "take"] (defScope (top 37)) _ _ = true; decide +kernel)) (fun _ _ _ _ _ => (pg_name (i := 11) sc__law_are_great_right.nd rfl (by first | exact Or.inl rfl | exact Or.inr rfl))) (fun _ _ _ _ _ => (dts_one (dt_cmp ci_le (de_var 11) (de_var 5)))) (fun _ _ _ _ _ => (de_call G_taking_number (hr.mono (by omega)) (by rfl) takes0 (da_cons (de_var 1) (da_cons (de_sub (de_var 5) (de_var 11)) da_nil)))) hn_dat (sw_true rfl rfl rfl rfl)) (dss_cons (ds_set (i := 7) sc__law_are_great_right.nd (de_call G_taking_number (hr.mono (by omega)) (by rfl) (takes_of rfl rfl rfl rfl) (da_cons (de_var 1) (da_cons (de_var 5) da_nil)))) (dss_cons (ds_if ((dw_or (dt_cmp (ci_ne hr.units) (de_var 7) (de_call G__law_least_missing (hr.mono (by omega)) (by rfl) (takes_of rfl rfl rfl rfl) (da_cons (de_var 6) da_nil))) (dw_or1 (dt_cmp (ci_ne hr.units) (de_call G_taking_number (hr.mono (by omega)) (by rfl) (takes_of rfl rfl rfl rfl) (da_cons (de_var 1) (da_cons (de_add (de_var 5) (de_var 3)) da_nil))) (de_var 7))))).pt (dss_one (ds_ret de_bl)) dss_nil) (dss_cons (ds_if (dt_cmp (ci_ne hr.units) (de_call G_takes (hr.mono (by omega)) (by rfl) (takes_of rfl rfl rfl rfl) (da_cons (de_var 1) (da_cons (de_var 5) da_nil))) (de_BT bi_tup (by rfl) fx.z_tuple bo_tuple (da_cons (de_F (df_lc (own := [("take", 11)]) rfl sc__law_are_great_right.nd (di_seq (de_var 1)) (blkOk_by (by show blkC ["hand", "lot", "before", "period", "turn", "heap", "some", "number", "far", "many", "wide", "take"] (defScope (top 37)) _ _ = true; decide +kernel)) (fun _ _ _ _ _ => (pg_name (i := 11) sc__law_are_great_right.nd rfl (by first | exact Or.inl rfl | exact Or.inr rfl))) (fun _ _ _ _ _ => (dts_one ((dw_and (dt_cmp ci_le (de_var 11) (de_var 5)) (dw_and1 (dt_cmp (ci_eq hr.units) (de_call G_taking_number (hr.mono (by omega)) (by rfl) takes0 (da_cons (de_var 1) (da_cons (de_sub (de_var 5) (de_var 11)) da_nil))) de_int)))).pt)) (fun _ _ _ _ _ => (de_var 11)))) da_nil))) (dss_one (ds_ret de_bl)) dss_nil) (dss_cons (ds_set (i := 8) sc__law_are_great_right.nd (de_sub (de_call G_lost_below (hr.mono (by omega)) (by rfl) (takes_of rfl rfl rfl rfl) (da_cons (de_var 1) (da_cons (de_add (de_var 5) de_int) da_nil))) (de_call G_lost_below (hr.mono (by omega)) (by rfl) (takes_of rfl rfl rfl rfl) (da_cons (de_var 1) (da_cons (de_var 5) da_nil))))) (dss_one (ds_if ((dw_or (dt_cmp (ci_ne hr.units) (de_var 8) (de_BT bi_int (by rfl) fx.z_int bo_int (da_cons (de_cmp (ci_eq hr.units) (de_var 7) de_int) da_nil))) (dw_or1 (dt_cmp (ci_lt hr.units) (de_sub (de_call G_lost_below (hr.mono (by omega)) (by rfl) (takes_of rfl rfl rfl rfl) (da_cons (de_var 1) (da_cons (de_add (de_var 5) (de_var 3)) da_nil))) (de_call G_lost_below (hr.mono (by omega)) (by rfl) (takes_of rfl rfl rfl rfl) (da_cons (de_var 1) (da_cons (de_var 5) da_nil)))) de_int)))).pt (dss_one (ds_ret de_bl)) dss_nil))))))))) (dss_cons (ds_set (i := 9) sc__law_are_great_right.nd (de_add de_int (de_call G__law_draw (hr.mono (by omega)) (by rfl) (takes_of rfl rfl rfl rfl) (da_cons (de_var 0) (da_cons de_int da_nil))))) (dss_cons (ds_set (i := 10) sc__law_are_great_right.nd (de_BT bi_tup (by rfl) fx.z_tuple bo_tuple (da_cons (de_F (df_lc (own := [("take", 11)]) rfl sc__law_are_great_right.nd (di_seq (de_var 1)) (blkOk_by (by show blkC ["hand", "lot", "before", "period", "turn", "heap", "some", "number", "far", "many", "wide", "take"] (defScope (top 37)) _ _ = true; decide +kernel)) (fun _ _ _ _ _ => (pg_name (i := 11) sc__law_are_great_right.nd rfl (by first | exact Or.inl rfl | exact Or.inr rfl))) (fun _ _ _ _ _ => (dts_one (dt_cmp ci_le (de_mulA (de_var 9) (de_var 11)) de_int))) (fun _ _ _ _ _ => (de_mulA (de_var 9) (de_var 11))))) da_nil))) (dss_cons (ds_set (i := 5) sc__law_are_great_right.nd (de_call G__law_heap (hr.mono (by omega)) (by rfl) (takes_of rfl rfl rfl rfl) (da_cons (de_var 0) da_nil))) (dss_one (ds_ret (de_or (de_cmp (ci_lt hr.units) (de_B bi_len (by rfl) fx.z_len bo_len (da_cons (de_var 10) da_nil)) (de_B bi_len (by rfl) fx.z_len bo_len (da_cons (de_var 1) da_nil))) (de_one (de_cmp (ci_eq hr.units) (de_call G_taking_number (hr.mono (by omega)) (by rfl) (takes_of rfl rfl rfl rfl) (da_cons (de_var 10) (da_cons (de_var 5) da_nil))) (de_call G_taking_number (hr.mono (by omega)) (by rfl) (takes_of rfl rfl rfl rfl) (da_cons (de_var 1) (da_cons (de_div (de_var 5) (de_var 9)) da_nil))))))))))))))
end K23

set_option Elab.async false
set_option linter.all false
set_option maxRecDepth 100000
set_option maxHeartbeats 4000000
/-! law 23: the law's own def. -/
namespace K23
open PySem PySem.Spec PyProof.Rows L2 DL
theorem ok_law {P : Program} {w : World} {K : PySem.W.Frag} {mg : Str → Option Value} {base : Heap} {f : Addr} {fd : FuncData} (fx : Fx K mg) (F : FunD K "law" "law" (defArgs (top 38)) (defBody (top 38)) (defScope (top 38)) [] [] f fd) (G_taking_period : Dn P w K mg base [] 6 "taking_period" 1 F_taking_period) (G_takes : Dn P w K mg base [] 8 "takes" 2 F_takes) (G__law_hand : Dn P w K mg base [] 1 "_law_hand" 1 F__law_hand) (G__law_is : Dn P w K mg base [] 5 "_law_is" 2 F__law_is) (G__law_is_known_right : Dn P w K mg base [] 9 "_law_is_known_right" 1 F__law_is_known_right) (G__law_are_great_right : Dn P w K mg base [] 9 "_law_are_great_right" 1 F__law_are_great_right)
    (plain : ∀ ns : List Int, ns.length ≤ 63 → (∀ z ∈ ns, Builtin.Int.intBits z ≤ 1048576) → ∃ (cells : List Int) (k : Int), (∀ d, (d = .sc ns ∨ d = .lst (ns.map D.int)) → S_law1 (some (.d d) :: List.replicate 2 none) [] = .ok (.d (.lst [.lst (cells.map D.int), .int 0, .int 0, .int k, .int 0])) []) ∧
      ∃ M', S_law (none :: some (.d (.ob 0)) :: List.replicate 1 none) [.lst [.ob 1, .int 0, .int 0, .int k, .int 0], .lst (cells.map D.int)] = .rt (.bl true) M') :
    FnOk P w K mg base (L2.CX P w) 10 f fd ["script"] (spLaw0 K) := by
  refine F.ok (k := 9) (N := ["script", "hand", "turn"]) sc_law (fun vs H Q E h => ?_) fun cdv A outer s H vs Q E hr h => ?_
  · obtain ⟨a, ns, rfl, _⟩ := h
    rfl
  · obtain ⟨a, ns, rfl, hS, hl, hz, hQ⟩ := h
    obtain ⟨cells, k, p1, p2⟩ := plain ns hl hz
    refine ⟨tSeq (tAsg (tE ⟨K, mg, [], wE E⟩ S_law1) (gName 1)) (tS ⟨K, mg, [], wE E⟩ S_law), ?_, law_runT (C := ⟨K, mg, [], wE E⟩) (n := 1) tabs0 hS p1 p2 hQ⟩
    exact (pss_cons (ps_set (i := 1) sc_law.nd rfl (by first | exact Or.inl rfl | exact Or.inr rfl) (de_call G__law_hand (hr.mono (by omega)) (by rfl) (takes_of rfl rfl rfl rfl) (da_cons (de_var 0) da_nil))) (dss_cons (ds_for (passes_of rfl) rfl (di_rng1 (by rfl) fx.z_range (da_cons de_int da_nil)) (pg_name (i := 2) sc_law.nd rfl (by first | exact Or.inl rfl | exact Or.inr rfl)) (dss_one (ds_if ((dw_or (dt_not (dt_val (de_call G__law_is_known_right (hr.mono (by omega)) (by rfl) (takes_of rfl rfl rfl rfl) (da_cons (de_var 1) da_nil)))) (dw_or1 (dt_not (dt_val (de_call G__law_are_great_right (hr.mono (by omega)) (by rfl) (takes_of rfl rfl rfl rfl) (da_cons (de_var 1) da_nil))))))).pt (dss_one (ds_ret de_bl)) dss_nil))) (dss_one (ds_ret (de_call G__law_is (hr.mono (by omega)) (by rfl) (takes_of rfl rfl rfl rfl) (da_cons (de_lst (da_cons (de_call G_taking_period (hr.mono (by omega)) (by rfl) (takes_of rfl rfl rfl rfl) (da_cons (de_tup (da_cons de_int (da_cons de_int (da_cons de_int da_nil)))) da_nil)) (da_cons (de_call G_takes (hr.mono (by omega)) (by rfl) (takes_of rfl rfl rfl rfl) (da_cons (de_tup (da_cons de_int (da_cons de_int (da_cons de_int da_nil)))) (da_cons (de_sub (de_pow de_int de_int) de_int) da_nil))) da_nil))) (da_cons (de_lst (da_cons (de_tup (da_cons de_int (da_cons de_int da_nil))) (da_cons (de_tup (da_cons de_int da_nil)) da_nil))) da_nil)))))))
end K23

set_option Elab.async false
set_option linter.all false
set_option maxRecDepth 100000
set_option maxHeartbeats 1000000
/-! law k23, plainly: any lot, and the law. -/
namespace K23
open PySem PySem.Spec PyProof.Rows L2 DL
open TK (Lot G rows zr opts)
theorem q_or2 {ρ : DL.Env} {M : Mem} {f g : Sm Ev} {a b : Bool} (h1 : f ρ M = .ok (bv a) M) (h2 : a = false → g ρ M = .ok (bv b) M) : eOr f g ρ M = .ok (bv (a || b)) M := by
  cases a with
  | true => simp only [eOr, h1, bnd]; rfl
  | false =>
    have := h2 rfl
    simp only [eOr, h1, bnd]
    exact this
section
variable {cells : List Int} {B : Nat} {M : Mem} {lot : List Nat} {s n b d : Nat}
/-- the last row: the lot made wider -/
theorem wide_ok (L : Lot lot s) {m0 n0 : Nat} (h0 : s ≤ m0) (h1 : m0 < n0) (hn0 : n0 ≤ 63) (W : TK.Win lot s m0 n0) (T : Tp lot s n b d) (hn : n ≤ 1000) {k h : Nat} (hk : k = 2 ∨ k = 3) (hh : h ≤ 10 ^ 60) (x4 x6 x7 x8 x11 : Option Ev) :
    T8__law_are_great_right (eG lot b d x4 (some (.d (nI h))) x6 x7 x8 (some (.d (nI k))) (some (.d (HL ((lot.filter fun t => decide (k * t ≤ 20)).map (k * ·))))) x11) M = .rt (.bl true) M := by
  have v10 : eVar 10 (eG lot b d x4 (some (.d (nI h))) x6 x7 x8 (some (.d (nI k))) (some (.d (HL ((lot.filter fun t => decide (k * t ≤ 20)).map (k * ·))))) x11) M = .ok (.d (HL ((lot.filter fun t => decide (k * t ≤ 20)).map (k * ·)))) M := rfl
  have v1 : eVar 1 (eG lot b d x4 (some (.d (nI h))) x6 x7 x8 (some (.d (nI k))) (some (.d (HL ((lot.filter fun t => decide (k * t ≤ 20)).map (k * ·))))) x11) M = .ok (.d (HL lot)) M := rfl
  have v5 : eVar 5 (eG lot b d x4 (some (.d (nI h))) x6 x7 x8 (some (.d (nI k))) (some (.d (HL ((lot.filter fun t => decide (k * t ≤ 20)).map (k * ·))))) x11) M = .ok (.d (nI h)) M := rfl
  have v9 : eVar 9 (eG lot b d x4 (some (.d (nI h))) x6 x7 x8 (some (.d (nI k))) (some (.d (HL ((lot.filter fun t => decide (k * t ≤ 20)).map (k * ·))))) x11) M = .ok (.d (nI k)) M := rfl
  have l1 := q_lenT (l := ((lot.filter fun t => decide (k * t ≤ 20)).map (k * ·)).map nI) v10
  have l2 := q_lenT (l := lot.map nI) v1
  rw [List.length_map, List.length_map] at l1
  rw [List.length_map] at l2
  have t1 := e_ltI l1 l2
  have t2 : ¬ (lot.filter fun t => decide (k * t ≤ 20)).length < lot.length → eBin (opEq false) (eCall 2 F_taking_number (aCons (eVar 10) (aCons (eVar 5) aNil))) (eCall 2 F_taking_number (aCons (eVar 1) (aCons (eBin opDiv (eVar 5) (eVar 9)) aNil))) (eG lot b d x4 (some (.d (nI h))) x6 x7 x8 (some (.d (nI k))) (some (.d (HL ((lot.filter fun t => decide (k * t ≤ 20)).map (k * ·))))) x11) M = .ok (bv true) M := fun c => by
    have fe : (lot.filter fun t => decide (k * t ≤ 20)) = lot := by
      have hs := List.filter_sublist (p := fun t => decide (k * t ≤ 20)) (l := lot)
      exact hs.eq_of_length_le (by omega)
    have fa : ∀ t ∈ lot, k * t ≤ 20 := fun t ht => by
      rw [← fe] at ht
      have := (List.mem_filter.mp ht).2
      exact of_decide_eq_true this
    have hk1 : 1 ≤ k := by omega
    have smem : s ∈ lot := List.mem_of_getLast? L.last
    rw [fe] at v10 v5 v1 v9 ⊢
    have LW : Lot (lot.map (k * ·)) (k * s) := by
      refine ⟨fun t ht => ?_, fun z => L.ne (List.map_eq_nil_iff.mp z), ⟨Nat.mul_pos hk1 L.s20.1, fa s smem⟩, by rw [List.length_map]; exact L.len, by rw [List.getLast?_map, L.last]; rfl, ?_⟩
      · obtain ⟨u, hu, rfl⟩ := List.mem_map.mp ht
        exact ⟨Nat.mul_pos hk1 (L.pos u hu), Nat.mul_le_mul_left _ (L.one u hu).2⟩
      · rw [List.pairwise_map]
        exact L.asc.imp fun hab => Nat.mul_lt_mul_of_pos_left hab hk1
    obtain ⟨b', d', T'⟩ := period_ok LW (Nat.mul_le_mul_left k h0) (Nat.mul_lt_mul_of_pos_left h1 hk1) (show k * n0 < 2900 by rcases hk with rfl | rfl <;> omega) (TK.wide_win L hk1 h0 (by omega) W)
    have q1 := q_number LW T' (show k * n0 ≤ 1000 by rcases hk with rfl | rfl <;> omega) hh v10 v5
    have q2 := q_number L T hn (Nat.le_trans (Nat.div_le_self h k) hh) v1 (n_div (a := h) (b := k) hk1 (by omega) v5 v9)
    rw [TK.wide_G L hk1] at q1
    rw [e_eqI q1 q2, decide_eq_true rfl]
  have r : eOr (eBin opLt (eB bLen (aCons (eVar 10) aNil)) (eB bLen (aCons (eVar 1) aNil))) (eBin (opEq false) (eCall 2 F_taking_number (aCons (eVar 10) (aCons (eVar 5) aNil))) (eCall 2 F_taking_number (aCons (eVar 1) (aCons (eBin opDiv (eVar 5) (eVar 9)) aNil)))) (eG lot b d x4 (some (.d (nI h))) x6 x7 x8 (some (.d (nI k))) (some (.d (HL ((lot.filter fun t => decide (k * t ≤ 20)).map (k * ·))))) x11) M = .ok (bv true) M := by
    rw [q_or2 t1 (b := true) (fun c => t2 (by have := of_decide_eq_false c; omega)), Bool.or_true]
  exact q_ret r rfl
theorem great_right_ok (hc : Cl cells) (hM : Hd cells B M) (hB : B + 400 ≤ 1000000) : ∃ M', F__law_are_great_right [.d (.ob 0)] M = .ok (.bl true) M' ∧ Hd cells (B + 100) M' := by
  unfold F__law_are_great_right; rw [fnOf_eq]
  obtain ⟨r, M1, e1, hr, h1⟩ := q_dr (ρ := [some (.d (.ob 0)), none, none, none, none, none, none, none, none, none, none, none]) (f := eVar 0) (g := eC (.int 5)) (many := 5) hc hM (by omega) (by decide) (by decide +kernel) rfl rfl
  have it := q_rng1 (n := 1 + r) (by omega) (n_add (k1 1 _ M) e1)
  obtain ⟨L0, M2, e2, hl, hP, h2⟩ := lc_draws (ρ := [some (.d (.ob 0)), none, none, none, none, none, none, none, none, none, none, none]) (M := M) (j := 4) (f := eBin opAdd (eC (.int 1)) (eCall 2 F__law_draw (aCons (eVar 0) (aCons (eC (.int 10)) aNil)))) (fun v => 1 ≤ v ∧ v ≤ 10) it (by omega) (show 4 < 12 by decide) h1 (by omega) (fun x C M' hC hM' => by
    obtain ⟨r, M2, e2, hr, h2⟩ := q_dr (ρ := ([some (.d (.ob 0)), none, none, none, none, none, none, none, none, none, none, none] : DL.Env).set 4 (some (.d x))) (f := eVar 0) (g := eC (.int 10)) (many := 10) hc hM' hC (by decide) (by decide +kernel) rfl rfl
    exact ⟨1 + r, M2, n_add (k1 1 _ M') e2, ⟨by omega, by omega⟩, h2⟩)
  obtain ⟨lot, e3, ha, hm, hl2⟩ := q_srt (l := L0) (by omega) (q_F e2)
  have hne : 1 ≤ lot.length := by
    cases L0 with
    | nil => rw [List.length_nil] at hl; omega
    | cons x l => exact List.length_pos_of_mem ((hm x).mpr List.mem_cons_self)
  obtain ⟨s, n, dd, L, hd1, hsd, hn63, W⟩ := TK.great_lot ha (fun t ht => hP t ((hm t).mp ht)) hne (by omega)
  obtain ⟨b, d, T⟩ := period_ok L (show s ≤ n - dd by omega) (show n - dd < n by omega) (by omega) W
  have s1 : T1__law_are_great_right [some (.d (.ob 0)), none, none, none, none, none, none, none, none, none, none, none] M = .nx [some (.d (.ob 0)), some (.d (HL lot)), none, none, none, none, none, none, none, none, none, none] M2 := q_set (q_tupL e3) rfl (show 1 < 12 by decide)
  have c2 := q_call (n := 1) (q_cons1 (show eVar 1 [some (.d (.ob 0)), some (.d (HL lot)), none, none, none, none, none, none, none, none, none, none] M2 = .ok (.d (HL lot)) M2 from rfl)) rfl rfl (T.ok M2)
  have s2 : T2__law_are_great_right [some (.d (.ob 0)), some (.d (HL lot)), none, none, none, none, none, none, none, none, none, none] M2 = .nx (eG lot b d none none none none none none none none) M2 := q_asgT c2 rfl
  have h2' : Hd cells (B + 10) M2 := h2.mono (by omega)
  obtain ⟨ρ', M3, e4, ⟨y4, y5, y6, y7, y8, rfl⟩, h3⟩ := forL_inv (g := .one 4) (f := B3__law_are_great_right) (fun j ρ M' => (∃ y4 y5 y6 y7 y8, ρ = eG lot b d y4 y5 y6 y7 y8 none none none) ∧ Hd cells (B + 10 + 2 * j) M') (rangeL 0 6 1) 0 (eG lot b d none none none none none none none none) M2 (fun j d0 ρ M3 hd hj => by
    obtain ⟨⟨y4, y5, y6, y7, y8, rfl⟩, hM3⟩ := hj
    obtain ⟨hj, rfl⟩ := rangeL_get hd
    rw [Nat.zero_add] at hM3 ⊢
    obtain ⟨z5, z6, z7, z8, M4, e4, h4⟩ := great_turn L T (by omega) hc hM3 (by omega) (some (.d (.int (0 + (j : Int) * 1)))) y5 y6 y7 y8 none none none
    exact ⟨_, _, M4, rfl, e4, ⟨_, _, _, _, _, rfl⟩, h4.mono (by omega)⟩) ⟨⟨_, _, _, _, _, rfl⟩, h2'⟩
  rw [rangeL_len, Nat.zero_add] at h3
  have s4 : T4__law_are_great_right (eG lot b d none none none none none none none none) M2 = .nx (eG lot b d y4 y5 y6 y7 y8 none none none) M3 := q_for (q_rng1 (n := 6) (by omega) (k1 6 _ M2)) e4
  obtain ⟨k0, M4, e5, hk0, h4⟩ := q_dr (ρ := eG lot b d y4 y5 y6 y7 y8 none none none) (f := eVar 0) (g := eC (.int 2)) (many := 2) hc h3 (by omega) (by decide) (by decide +kernel) rfl rfl
  obtain ⟨k, hk⟩ : ∃ k, k = 2 + k0 := ⟨_, rfl⟩
  have hk23 : k = 2 ∨ k = 3 := by omega
  have s5 : T5__law_are_great_right (eG lot b d y4 y5 y6 y7 y8 none none none) M3 = .nx (eG lot b d y4 y5 y6 y7 y8 (some (.d (nI k))) none none) M4 := by
    rw [hk]
    exact q_set (n_add (k1 2 _ M3) e5) rfl (show 9 < 12 by decide)
  have mul : ∀ t, t ∈ lot → eBin opMulA (eVar 9) (eVar 11) (eG lot b d y4 y5 y6 y7 y8 (some (.d (nI k))) none (some (.d (nI t)))) M4 = .ok (.d (nI (k * t))) M4 := fun t ht => by
    have := L.one t ht; have := L.s20
    exact n_mul (a := k) (b := t) (by omega) (by omega) rfl rfl
  have lc := lc_flt (i := iSeq true (eVar 1)) (g := .one 11) (vs := [11]) (t := tCmpE opLe (eBin opMulA (eVar 9) (eVar 11)) (eC (.int 20))) (f := eBin opMulA (eVar 9) (eVar 11)) (ρ := eG lot b d y4 y5 y6 y7 y8 (some (.d (nI k))) none none) (M := M4) (l := lot) nI (fun t => decide (k * t ≤ 20)) (fun t => nI (k * t)) rfl (by have := L.len; unfold most; omega) fun t ht => ⟨eG lot b d y4 y5 y6 y7 y8 (some (.d (nI k))) none (some (.d (nI t))), rfl, n_le (b := 20) (mul t ht) (k1 20 _ M4), fun _ => mul t ht⟩
  have em : ((lot.filter fun t => decide (k * t ≤ 20)).map fun t => nI (k * t)) = ((lot.filter fun t => decide (k * t ≤ 20)).map (k * ·)).map nI := by rw [List.map_map]; rfl
  rw [em] at lc
  have s6 : T6__law_are_great_right (eG lot b d y4 y5 y6 y7 y8 (some (.d (nI k))) none none) M4 = .nx (eG lot b d y4 y5 y6 y7 y8 (some (.d (nI k))) (some (.d (HL ((lot.filter fun t => decide (k * t ≤ 20)).map (k * ·))))) none) M4 := q_set (q_tupL (q_F lc)) rfl (show 10 < 12 by decide)
  obtain ⟨h, M5, e7, hh, h5⟩ := heap_ok hc h4 (by omega)
  have tenn : (10 : Nat) ^ 59 ≤ 10 ^ 60 := by decide +kernel
  have wd := wide_ok (M := M5) L (show s ≤ n - dd by omega) (show n - dd < n by omega) hn63 W T (by omega) hk23 (show h ≤ 10 ^ 60 by omega) y4 y6 y7 y8 none
  generalize (lot.filter fun t => decide (k * t ≤ 20)).map (k * ·) = wide at *
  have s7 : T7__law_are_great_right (eG lot b d y4 y5 y6 y7 y8 (some (.d (nI k))) (some (.d (HL wide))) none) M4 = .nx (eG lot b d y4 (some (.d (nI h))) y6 y7 y8 (some (.d (nI k))) (some (.d (HL wide))) none) M5 := q_set (q_call (n := 1) (q_cons1 (show eVar 0 (eG lot b d y4 y5 y6 y7 y8 (some (.d (nI k))) (some (.d (HL wide))) none) M4 = .ok (.d (.ob 0)) M4 from rfl)) rfl rfl e7) rfl (show 5 < 12 by decide)
  refine ⟨M5, ?_, h5.mono (by omega)⟩
  show fnEnd (S__law_are_great_right [some (.d (.ob 0)), none, none, none, none, none, none, none, none, none, none, none] M) = _
  rw [S__law_are_great_right, q_nx s1, q_nx s2, q_nx s4, q_nx s5, q_nx s6, q_nx s7, wd]
  rfl
/-- the last row of the law -/
theorem last_num : 3 * 1 = 3 ∧ (10 ^ 60 - 1 - 1) % 4 = 2 ∧ (10 ^ 60 - 1 - 2) % 4 = 1 ∧ (10 ^ 60 - 1 - 3) % 4 = 0 ∧ 3 ≤ 10 ^ 60 - 1 := by decide +kernel
theorem last_known : TK.Known [1, 2, 3] 3 4 [0, 1, 2, 3] := TK.chk_known (TK.known_all 2 (by decide))
theorem last_takes {h : Nat} (h1 : (h - 1) % 4 = 2) (h2 : (h - 2) % 4 = 1) (h3 : (h - 3) % 4 = 0) (hh : 3 ≤ h) : lostTo [1, 2, 3] h = [3] := by
  unfold lostTo
  have g := last_known.num
  have a1 : G [1, 2, 3] (h - 1) = 2 := by rw [g, h1]; rfl
  have a2 : G [1, 2, 3] (h - 2) = 1 := by rw [g, h2]; rfl
  have a3 : G [1, 2, 3] (h - 3) = 0 := by rw [g, h3]; rfl
  simp [List.filter_cons, a1, a2, a3, hh]
theorem last_ok {ρ : DL.Env} {M : Mem} : eCall 2 F__law_is (aCons (eLst (aCons (eCall 1 F_taking_period (aCons (eTup (aCons (eC (.int 1)) (aCons (eC (.int 2)) (aCons (eC (.int 3)) aNil)))) aNil)) (aCons (eCall 2 F_takes (aCons (eTup (aCons (eC (.int 1)) (aCons (eC (.int 2)) (aCons (eC (.int 3)) aNil)))) (aCons (eBin opSub (eBin opPow (eC (.int 10)) (eC (.int 60))) (eC (.int 1))) aNil))) aNil))) (aCons (eLst (aCons (eTup (aCons (eC (.int 0)) (aCons (eC (.int 4)) aNil))) (aCons (eTup (aCons (eC (.int 3)) aNil)) aNil))) aNil)) ρ M = .ok (bv true) M := by
  have L := last_known.L
  have T := period_known last_known
  have t3 : eTup (aCons (eC (.int 1)) (aCons (eC (.int 2)) (aCons (eC (.int 3)) aNil))) ρ M = .ok (.d (HL [1, 2, 3])) M := q_tup3 (k1 1 _ M) (k1 2 _ M) (k1 3 _ M)
  obtain ⟨_, n1, n2, n3, n4⟩ := last_num
  have p60 : eBin opPow (eC (.int 10)) (eC (.int 60)) ρ M = .ok (.d (.int ((10 ^ 60 : Nat) : Int))) M := q_pow10 (k := 60) (by omega)
  have sb := n_sub (b := 1) (show 1 ≤ 10 ^ 60 by decide +kernel) p60 (k1 1 _ M)
  have hle : 10 ^ 60 - 1 ≤ 10 ^ 60 := Nat.sub_le _ _
  generalize 10 ^ 60 - 1 = h at *
  have f2 : F_takes [.d (HL [1, 2, 3]), .d (nI h)] M = .ok (HL [3]) M := by rw [takes_ok L T (by omega) hle, last_takes n1 n2 n3 n4]
  have c1 := q_call (n := 1) (q_cons1 t3) rfl rfl (T.ok M)
  have c2 := q_call (n := 2) (q_cons2 t3 sb) rfl rfl f2
  exact q_is (q_lst2 c1 c2) (q_lst2 (q_tup2 (k1 0 ρ M) (k1 4 _ M)) (q_tup1 (k1 3 _ M))) (LN.Sf.lst (n := 3) (by unfold most; simp) fun d hd => by
    simp only [List.mem_cons, List.not_mem_nil, or_false] at hd
    rcases hd with rfl | rfl
    · exact sf_pair (a := 0) (b := 4) (n := 1)
    · exact sf_HL (l := [3]) (n := 1) (by simp))
theorem law_ok (hc : Cl cells) {M0 : Mem} (h0 : Hd cells 0 M0) : ∃ M', S_law [none, some (.d (.ob 0)), none] M0 = .rt (.bl true) M' := by
  obtain ⟨ρ', M1, e, ⟨x2, rfl⟩, h1⟩ := forL_inv (g := .one 2) (f := B1_law) (fun j ρ M' => (∃ x2, ρ = [none, some (.d (.ob 0)), x2]) ∧ Hd cells (200 * j) M') (rangeL 0 4 1) 0 [none, some (.d (.ob 0)), none] M0 (fun j d0 ρ M1 hd hj => by
    obtain ⟨⟨x2, rfl⟩, hM1⟩ := hj
    obtain ⟨hj, rfl⟩ := rangeL_get hd
    rw [Nat.zero_add] at hM1 ⊢
    obtain ⟨M2, e2, h2⟩ := known_right_ok hc hM1 (by omega)
    obtain ⟨M3, e3, h3⟩ := great_right_ok hc h2 (by omega)
    have v1 : ∀ M, eVar 1 [none, some (.d (.ob 0)), some (.d (.int (0 + (j : Int) * 1)))] M = .ok (.d (.ob 0)) M := fun _ => rfl
    have c2 := q_call (n := 1) (q_cons1 (v1 M1)) rfl rfl e2
    have c3 := q_call (n := 1) (q_cons1 (v1 M2)) rfl rfl e3
    have b : B1_law [none, some (.d (.ob 0)), some (.d (.int (0 + (j : Int) * 1)))] M1 = .nx [none, some (.d (.ob 0)), some (.d (.int (0 + (j : Int) * 1)))] M3 := q_skip ((q_or0 (q_not (b := true) (truV c2))).trans (q_not (b := true) (truV c3)))
    exact ⟨_, _, M3, rfl, b, ⟨_, rfl⟩, h3.mono (by omega)⟩) ⟨⟨_, rfl⟩, h0⟩
  have s2 : T2_law [none, some (.d (.ob 0)), none] M0 = .nx [none, some (.d (.ob 0)), x2] M1 := q_for (q_rng1 (n := 4) (by omega) (k1 4 _ M0)) e
  refine ⟨M1, ?_⟩
  rw [S_law, q_nx s2, T3_law]
  exact q_ret last_ok rfl
end
theorem plain_law (ns : List Int) (h : ns.length ≤ 63) (hb : ∀ z ∈ ns, Builtin.Int.intBits z ≤ 1048576) : ∃ (cells : List Int) (k : Int), (∀ d, (d = .sc ns ∨ d = .lst (ns.map D.int)) → S_law1 (some (.d d) :: List.replicate 2 none) [] = .ok (.d (.lst [.lst (cells.map D.int), .int 0, .int 0, .int k, .int 0])) []) ∧
      ∃ M', S_law (none :: some (.d (.ob 0)) :: List.replicate 1 none) [.lst [.ob 1, .int 0, .int 0, .int k, .int 0], .lst (cells.map D.int)] = .rt (.bl true) M' := by
  refine ⟨ns.map fun z => ((z.natAbs % 10 ^ 40 : Nat) : Int), 37 + 7 * (ns.length : Int), fun d hd => ?_, ?_⟩
  · have e := hand_ok23 ns h d hd
    have v : eVar 0 (some (.d d) :: List.replicate 2 none) [] = .ok (look (.d d)) [] := rfl
    have lk : look (.d d) = .d d := rfl
    rw [lk] at v
    exact q_call (n := 1) (q_cons1 v) (ys := [.d d]) rfl rfl e
  · have hc : Cl (ns.map fun z => ((z.natAbs % 10 ^ 40 : Nat) : Int)) := fun z hz => by
      obtain ⟨y, hy, rfl⟩ := List.mem_map.mp hz
      exact ⟨Int.natCast_nonneg _, bits_mod _⟩
    generalize (ns.map fun z => ((z.natAbs % 10 ^ 40 : Nat) : Int)) = cells at hc
    have h0 : Hd cells 0 [.lst [.ob 1, .int 0, .int 0, .int (37 + 7 * (ns.length : Int)), .int 0], .lst (cells.map D.int)] := ⟨0, 0, _, 0, rfl, by omega, by omega, by omega, by omega, by omega, by omega⟩
    generalize [O.lst [.ob 1, .int 0, .int 0, .int (37 + 7 * (ns.length : Int)), .int 0], .lst (cells.map D.int)] = M0 at h0
    exact law_ok hc h0
end K23

set_option Elab.async false
set_option linter.all false
set_option maxRecDepth 100000
set_option maxHeartbeats 0
/-! law 23: the head, the end. -/
namespace K23
open PySem PySem.Spec PyProof.Rows L2 DL
def dd (x : Str) (i : Nat) : He.DefD := ⟨(x, none), x, x, defArgs (top i), defBody (top i), defScope (top i), [], []⟩
def fn : List He.DefD := [dd "is_integer" 1, dd "is_within" 2, dd "are_integers" 3, dd "is_rising" 4, dd "least_missing" 5, dd "is_lot" 15, dd "check_lot" 16, dd "next_number" 17, dd "row_of" 18, dd "taking_numbers" 19, dd "taking_period" 20, dd "shortest" 21, dd "taking_number" 22, dd "lost_below" 23, dd "takes" 24, dd "can_join" 25, dd "number_in" 26, dd "_law_hand" 28, dd "_law_draw" 29, dd "_law_any" 30, dd "_law_is" 31, dd "_law_least_missing" 32, dd "_law_heap" 33, dd "_law_all_to" 34, dd "_law_known" 35, dd "_law_is_known_right" 36, dd "_law_are_great_right" 37, dd "law" 38]
def fa : List He.Fa := [.exc "BadLot", .exc "BadNumber", .glo "is_integer", .glo "is_within", .glo "are_integers", .glo "is_rising", .glo "least_missing", .glo "is_lot", .glo "check_lot", .glo "next_number", .glo "row_of", .glo "taking_numbers", .glo "taking_period", .glo "shortest", .glo "taking_number", .glo "lost_below", .glo "takes", .glo "can_join", .glo "number_in", .glo "_law_hand", .glo "_law_draw", .glo "_law_any", .glo "_law_is", .glo "_law_least_missing", .glo "_law_heap", .glo "_law_all_to", .glo "_law_known", .glo "_law_is_known_right", .glo "_law_are_great_right", .glo "law", .glo "BadLot", .glo "BadNumber", .free "abs", .free "all", .free "bool", .free "int", .free "isinstance", .free "len", .free "list", .free "max", .free "min", .free "range", .free "set", .free "sorted", .free "str", .free "tuple", .free "zip", .int "MOST_LOT" (12), .int "MOST_ROUND" (100000), .int "MOST_TAKE" (20)]
def exB (K : PySem.W.Frag) (c : Str) : Bool :=
  decide (PySem.W.findIn K (.ref (He.ga K c)) "__getattribute__" = some (some (.builtin "BaseException.__getattribute__"))) && (decide (PySem.W.findIn K (.ref (He.ga K c)) "__getattr__" = some none) && (decide (PySem.W.subIn K (.ref (He.ga K c)) (.type "BaseException") = some true)
  && (PySem.W.hasDictIn K (He.ga K c) && (decide (PySem.W.findIn K (.ref (He.ga K c)) "__class__" = some (some (.builtin "object.__class__"))) && (decide (PySem.W.specialIn K (.builtin "object.__class__") "__get__" = some (some (.builtin "getset_descriptor.__get__")))
  && (decide (PySem.W.takesIn K (.builtin "object.__class__") = some true) && decide (PySem.W.mroIn K (He.ga K c) (.type "object") = some true)))))))
theorem exB_ok {K : PySem.W.Frag} {c : Str} (h : exB K c = true) : ExcC K (He.ga K c) := by
  unfold exB at h
  simp only [Bool.and_eq_true, decide_eq_true_eq] at h
  obtain ⟨h1, h2, h3, h4, h5, h6, h7, h8⟩ := h
  exact ⟨h1, h2, h3, h4, h5, h6, h7, h8⟩
def flB (K : PySem.W.Frag) (c : Str) (fl : List (Str × Bool)) : Bool := decide (PySem.W.kitOne K (.ref (He.ga K c)) (.type "ValueError") = some true) && fl.all fun p => decide (PySem.W.kitOne K (.ref (He.ga K c)) (.ref (He.ga K p.1)) = some p.2)
def ex (K : PySem.W.Frag) : Bool := true
abbrev R : PySem.W.OpenRow := PySem.W.OpenLaw.row LW
abbrev hk : PySem.W.Hook := He.hookX 5 fa fn [] [] ex
def ob (s : PySem.W.SharedT) : He.AlX := He.obsX 5 fa fn [] [] ex (HandSHeadRun.getT s)
theorem ob_eq (s : PySem.W.SharedT) : ob s = hk.obs s.abs := He.obsX_eq (HandSHeadRun.getT_eq s)
def loose : List Str := [("is_integer" : Str), ("is_within" : Str), ("are_integers" : Str), ("is_rising" : Str), ("least_missing" : Str), ("PlayError" : Str), ("BadLot" : Str), ("BadNumber" : Str), ("TooMany" : Str), ("MOST_TAKE" : Str), ("MOST_LOT" : Str), ("MOST_ROUND" : Str), ("is_lot" : Str), ("check_lot" : Str), ("next_number" : Str), ("row_of" : Str), ("taking_numbers" : Str), ("taking_period" : Str), ("shortest" : Str), ("taking_number" : Str), ("lost_below" : Str), ("takes" : Str), ("can_join" : Str), ("number_in" : Str), ("_law_hand" : Str), ("_law_draw" : Str), ("_law_any" : Str), ("_law_is" : Str), ("_law_least_missing" : Str), ("_law_heap" : Str), ("_law_all_to" : Str), ("_law_known" : Str), ("_law_is_known_right" : Str), ("_law_are_great_right" : Str)]
theorem run (w : World) : HandSHeadRun.RunEq R (PySem.W.view R.prog [38]) hk ob 8000 loose w := by
  intro os
  kernel_rfl
theorem lawAt (w : World) (K : PySem.W.Frag) (h : Heap) (mg : Str → Option Value) (fa' : Addr) (KX : K.In h) (c : He.SaysX fa fn [] [] ex w h K) (G : h.Ns mainGlobals mg) (hmg : mg ("law" : Str) = some (.ref fa')) : LamX.LawAtS LW w K (L2.CX LW.prog w) 10 63 "script" mg fa' h := by
  have cd := c.t.d
  obtain ⟨fd0, F0⟩ := cd.def_ 0 (d := dd "is_integer" 1) rfl
  have m0 : mg "is_integer" = some (.ref (He.ga K "is_integer")) := He.glo_ok KX G (cd.fact 2 (f := .glo "is_integer") rfl)
  obtain ⟨fd1, F1⟩ := cd.def_ 1 (d := dd "is_within" 2) rfl
  have m1 : mg "is_within" = some (.ref (He.ga K "is_within")) := He.glo_ok KX G (cd.fact 3 (f := .glo "is_within") rfl)
  obtain ⟨fd2, F2⟩ := cd.def_ 2 (d := dd "are_integers" 3) rfl
  have m2 : mg "are_integers" = some (.ref (He.ga K "are_integers")) := He.glo_ok KX G (cd.fact 4 (f := .glo "are_integers") rfl)
  obtain ⟨fd3, F3⟩ := cd.def_ 3 (d := dd "is_rising" 4) rfl
  have m3 : mg "is_rising" = some (.ref (He.ga K "is_rising")) := He.glo_ok KX G (cd.fact 5 (f := .glo "is_rising") rfl)
  obtain ⟨fd4, F4⟩ := cd.def_ 4 (d := dd "least_missing" 5) rfl
  have m4 : mg "least_missing" = some (.ref (He.ga K "least_missing")) := He.glo_ok KX G (cd.fact 6 (f := .glo "least_missing") rfl)
  obtain ⟨fd5, F5⟩ := cd.def_ 5 (d := dd "is_lot" 15) rfl
  have m5 : mg "is_lot" = some (.ref (He.ga K "is_lot")) := He.glo_ok KX G (cd.fact 7 (f := .glo "is_lot") rfl)
  obtain ⟨fd6, F6⟩ := cd.def_ 6 (d := dd "check_lot" 16) rfl
  have m6 : mg "check_lot" = some (.ref (He.ga K "check_lot")) := He.glo_ok KX G (cd.fact 8 (f := .glo "check_lot") rfl)
  obtain ⟨fd7, F7⟩ := cd.def_ 7 (d := dd "next_number" 17) rfl
  have m7 : mg "next_number" = some (.ref (He.ga K "next_number")) := He.glo_ok KX G (cd.fact 9 (f := .glo "next_number") rfl)
  obtain ⟨fd8, F8⟩ := cd.def_ 8 (d := dd "row_of" 18) rfl
  have m8 : mg "row_of" = some (.ref (He.ga K "row_of")) := He.glo_ok KX G (cd.fact 10 (f := .glo "row_of") rfl)
  obtain ⟨fd9, F9⟩ := cd.def_ 9 (d := dd "taking_numbers" 19) rfl
  have m9 : mg "taking_numbers" = some (.ref (He.ga K "taking_numbers")) := He.glo_ok KX G (cd.fact 11 (f := .glo "taking_numbers") rfl)
  obtain ⟨fd10, F10⟩ := cd.def_ 10 (d := dd "taking_period" 20) rfl
  have m10 : mg "taking_period" = some (.ref (He.ga K "taking_period")) := He.glo_ok KX G (cd.fact 12 (f := .glo "taking_period") rfl)
  obtain ⟨fd11, F11⟩ := cd.def_ 11 (d := dd "shortest" 21) rfl
  have m11 : mg "shortest" = some (.ref (He.ga K "shortest")) := He.glo_ok KX G (cd.fact 13 (f := .glo "shortest") rfl)
  obtain ⟨fd12, F12⟩ := cd.def_ 12 (d := dd "taking_number" 22) rfl
  have m12 : mg "taking_number" = some (.ref (He.ga K "taking_number")) := He.glo_ok KX G (cd.fact 14 (f := .glo "taking_number") rfl)
  obtain ⟨fd13, F13⟩ := cd.def_ 13 (d := dd "lost_below" 23) rfl
  have m13 : mg "lost_below" = some (.ref (He.ga K "lost_below")) := He.glo_ok KX G (cd.fact 15 (f := .glo "lost_below") rfl)
  obtain ⟨fd14, F14⟩ := cd.def_ 14 (d := dd "takes" 24) rfl
  have m14 : mg "takes" = some (.ref (He.ga K "takes")) := He.glo_ok KX G (cd.fact 16 (f := .glo "takes") rfl)
  obtain ⟨fd15, F15⟩ := cd.def_ 15 (d := dd "can_join" 25) rfl
  have m15 : mg "can_join" = some (.ref (He.ga K "can_join")) := He.glo_ok KX G (cd.fact 17 (f := .glo "can_join") rfl)
  obtain ⟨fd16, F16⟩ := cd.def_ 16 (d := dd "number_in" 26) rfl
  have m16 : mg "number_in" = some (.ref (He.ga K "number_in")) := He.glo_ok KX G (cd.fact 18 (f := .glo "number_in") rfl)
  obtain ⟨fd17, F17⟩ := cd.def_ 17 (d := dd "_law_hand" 28) rfl
  have m17 : mg "_law_hand" = some (.ref (He.ga K "_law_hand")) := He.glo_ok KX G (cd.fact 19 (f := .glo "_law_hand") rfl)
  obtain ⟨fd18, F18⟩ := cd.def_ 18 (d := dd "_law_draw" 29) rfl
  have m18 : mg "_law_draw" = some (.ref (He.ga K "_law_draw")) := He.glo_ok KX G (cd.fact 20 (f := .glo "_law_draw") rfl)
  obtain ⟨fd19, F19⟩ := cd.def_ 19 (d := dd "_law_any" 30) rfl
  have m19 : mg "_law_any" = some (.ref (He.ga K "_law_any")) := He.glo_ok KX G (cd.fact 21 (f := .glo "_law_any") rfl)
  obtain ⟨fd20, F20⟩ := cd.def_ 20 (d := dd "_law_is" 31) rfl
  have m20 : mg "_law_is" = some (.ref (He.ga K "_law_is")) := He.glo_ok KX G (cd.fact 22 (f := .glo "_law_is") rfl)
  obtain ⟨fd21, F21⟩ := cd.def_ 21 (d := dd "_law_least_missing" 32) rfl
  have m21 : mg "_law_least_missing" = some (.ref (He.ga K "_law_least_missing")) := He.glo_ok KX G (cd.fact 23 (f := .glo "_law_least_missing") rfl)
  obtain ⟨fd22, F22⟩ := cd.def_ 22 (d := dd "_law_heap" 33) rfl
  have m22 : mg "_law_heap" = some (.ref (He.ga K "_law_heap")) := He.glo_ok KX G (cd.fact 24 (f := .glo "_law_heap") rfl)
  obtain ⟨fd23, F23⟩ := cd.def_ 23 (d := dd "_law_all_to" 34) rfl
  have m23 : mg "_law_all_to" = some (.ref (He.ga K "_law_all_to")) := He.glo_ok KX G (cd.fact 25 (f := .glo "_law_all_to") rfl)
  obtain ⟨fd24, F24⟩ := cd.def_ 24 (d := dd "_law_known" 35) rfl
  have m24 : mg "_law_known" = some (.ref (He.ga K "_law_known")) := He.glo_ok KX G (cd.fact 26 (f := .glo "_law_known") rfl)
  obtain ⟨fd25, F25⟩ := cd.def_ 25 (d := dd "_law_is_known_right" 36) rfl
  have m25 : mg "_law_is_known_right" = some (.ref (He.ga K "_law_is_known_right")) := He.glo_ok KX G (cd.fact 27 (f := .glo "_law_is_known_right") rfl)
  obtain ⟨fd26, F26⟩ := cd.def_ 26 (d := dd "_law_are_great_right" 37) rfl
  have m26 : mg "_law_are_great_right" = some (.ref (He.ga K "_law_are_great_right")) := He.glo_ok KX G (cd.fact 28 (f := .glo "_law_are_great_right") rfl)
  obtain ⟨fd27, F27⟩ := cd.def_ 27 (d := dd "law" 38) rfl
  have m27 : mg "law" = some (.ref (He.ga K "law")) := He.glo_ok KX G (cd.fact 29 (f := .glo "law") rfl)
  have c_BadLot : mg "BadLot" = some (.ref (He.ga K "BadLot")) := He.glo_ok KX G (cd.fact 30 (f := .glo "BadLot") rfl)
  have c_BadNumber : mg "BadNumber" = some (.ref (He.ga K "BadNumber")) := He.glo_ok KX G (cd.fact 31 (f := .glo "BadNumber") rfl)
  have fx : Fx K mg := ⟨He.free_ok KX G (cd.fact 32 (f := .free "abs") rfl), He.free_ok KX G (cd.fact 33 (f := .free "all") rfl), He.free_ok KX G (cd.fact 34 (f := .free "bool") rfl), He.free_ok KX G (cd.fact 35 (f := .free "int") rfl), He.free_ok KX G (cd.fact 36 (f := .free "isinstance") rfl), He.free_ok KX G (cd.fact 37 (f := .free "len") rfl), He.free_ok KX G (cd.fact 38 (f := .free "list") rfl), He.free_ok KX G (cd.fact 39 (f := .free "max") rfl), He.free_ok KX G (cd.fact 40 (f := .free "min") rfl), He.free_ok KX G (cd.fact 41 (f := .free "range") rfl), He.free_ok KX G (cd.fact 42 (f := .free "set") rfl), He.free_ok KX G (cd.fact 43 (f := .free "sorted") rfl), He.free_ok KX G (cd.fact 44 (f := .free "str") rfl), He.free_ok KX G (cd.fact 45 (f := .free "tuple") rfl), He.free_ok KX G (cd.fact 46 (f := .free "zip") rfl), ⟨_, c_BadLot, He.exc_ok (cd.fact 0 (f := .exc "BadLot") rfl)⟩, ⟨_, c_BadNumber, He.exc_ok (cd.fact 1 (f := .exc "BadNumber") rfl)⟩, He.int_ok KX G (cd.fact 47 (f := .int "MOST_LOT" (12)) rfl), He.int_ok KX G (cd.fact 48 (f := .int "MOST_ROUND" (100000)) rfl), He.int_ok KX G (cd.fact 49 (f := .int "MOST_TAKE" (20)) rfl)⟩
  have e := hmg.symm.trans m27
  cases e
  refine ⟨fd27, [], spLaw0 K, fun p hp => (nomatch hp), fun p hp => (nomatch hp), fun p hp => (nomatch hp), ?_, fun H a ns hl hb hT hS => ⟨a, ns, rfl, hS, hl, hb, fun _ => rfl⟩, fun base hK hG TB => ?_⟩
  · have b := FunD.bindsA (ps := ["script"]) F27 fun _ _ _ _ _ _ us hl => match us, hl with | [_], _ => rfl
    exact fun s v => b s [v] rfl
  · skip
    have G_is_integer := ok_is_integer (P := LW.prog) (w := w) (base := base) (T := []) fx F0 m0 
    have G_is_within := ok_is_within (P := LW.prog) (w := w) (base := base) (T := []) fx F1 m1 G_is_integer
    have G_are_integers := ok_are_integers (P := LW.prog) (w := w) (base := base) (T := []) fx F2 m2 G_is_integer
    have G_is_rising := ok_is_rising (P := LW.prog) (w := w) (base := base) (T := []) fx F3 m3 G_are_integers
    have G_least_missing := ok_least_missing (P := LW.prog) (w := w) (base := base) (T := []) fx F4 m4 
    have G_is_lot := ok_is_lot (P := LW.prog) (w := w) (base := base) (T := []) fx F5 m5 G_is_rising
    have G_check_lot := ok_check_lot (P := LW.prog) (w := w) (base := base) (T := []) fx F6 m6 G_is_lot
    have G_next_number := ok_next_number (P := LW.prog) (w := w) (base := base) (T := []) fx F7 m7 G_least_missing
    have G_row_of := ok_row_of (P := LW.prog) (w := w) (base := base) (T := []) fx F8 m8 G_next_number
    have G_taking_numbers := ok_taking_numbers (P := LW.prog) (w := w) (base := base) (T := []) fx F9 m9 G_is_within G_check_lot G_row_of
    have G_shortest := ok_shortest (P := LW.prog) (w := w) (base := base) (T := []) fx F11 m11 
    have G_taking_period := ok_taking_period (P := LW.prog) (w := w) (base := base) (T := []) fx F10 m10 G_check_lot G_next_number G_shortest
    have G_taking_number := ok_taking_number (P := LW.prog) (w := w) (base := base) (T := []) fx F12 m12 G_is_integer G_check_lot G_row_of G_taking_period
    have G_lost_below := ok_lost_below (P := LW.prog) (w := w) (base := base) (T := []) fx F13 m13 G_is_integer G_check_lot G_row_of G_taking_period
    have G_takes := ok_takes (P := LW.prog) (w := w) (base := base) (T := []) fx F14 m14 G_is_integer G_check_lot G_taking_number
    have G_number_in := ok_number_in (P := LW.prog) (w := w) (base := base) (T := []) fx F16 m16 
    have G_can_join := ok_can_join (P := LW.prog) (w := w) (base := base) (T := []) fx F15 m15 G_is_within G_check_lot G_row_of G_taking_period G_number_in
    have G__law_hand := ok__law_hand (P := LW.prog) (w := w) (base := base) (T := []) fx F17 m17 
    have G__law_draw := ok__law_draw (P := LW.prog) (w := w) (base := base) (T := []) fx F18 m18 
    have G__law_any := ok__law_any (P := LW.prog) (w := w) (base := base) (T := []) fx F19 m19 G__law_draw
    have G__law_is := ok__law_is (P := LW.prog) (w := w) (base := base) (T := []) fx F20 m20 
    have G__law_least_missing := ok__law_least_missing (P := LW.prog) (w := w) (base := base) (T := []) fx F21 m21 
    have G__law_heap := ok__law_heap (P := LW.prog) (w := w) (base := base) (T := []) fx F22 m22 G__law_draw G__law_any
    have G__law_all_to := ok__law_all_to (P := LW.prog) (w := w) (base := base) (T := []) fx F23 m23 
    have G__law_known := ok__law_known (P := LW.prog) (w := w) (base := base) (T := []) fx F24 m24 G__law_draw G__law_all_to
    have G__law_is_known_right := ok__law_is_known_right (P := LW.prog) (w := w) (base := base) (T := []) fx F25 m25 G_taking_numbers G_taking_period G_taking_number G_lost_below G_takes G_can_join G__law_draw G__law_is G__law_heap G__law_known
    have G__law_are_great_right := ok__law_are_great_right (P := LW.prog) (w := w) (base := base) (T := []) fx F26 m26 G_taking_period G_taking_number G_lost_below G_takes G__law_draw G__law_least_missing G__law_heap
    exact ok_law fx F27 G_taking_period G_takes G__law_hand G__law_is G__law_is_known_right G__law_are_great_right plain_law
end K23
open PySem PySem.W PySem.Calls PyProof.Rows
theorem PySem.Challenge.cw_stuckloses_k23_whole_great_takings_holds : PySem.Challenge.rw_stuckloses_k23_whole_great_takings.Holds := by
  w_on; o_law
  refine HandSHeadRun.head_any (r := OpenLaw.row K23.LW) (q := view (OpenLaw.row K23.LW).prog [38]) (H := K23.hk) (ob := K23.ob) (M := 8000) (loose := K23.loose)
    (d := HandSHeadRun.topDef (OpenLaw.row K23.LW).prog 38) (kwd := []) K23.ob_eq
    (by kernel_rfl) (fun s => by kernel_rfl) K23.run (by kernel_rfl) (by kernel_rfl) (by kernel_rfl) (by rfl) (by first | assumption | decide +kernel) (by decide +kernel) ⟨rfl, rfl, rfl, rfl, rfl, by decide +kernel⟩ ?hw ?hc
  case hw => w_witness2
  case hc =>
    refine LamX.walk_ofTsE (l := K23.LW) (n := 63) (k := 10) (x := "script") (CX := fun w => L2.CX K23.LW.prog w) rfl (by decide) (by kernel_rfl) ⟨rfl, by decide, by decide⟩ ?F ?X
    · intro w mg fa h Y G hmg0
      obtain ⟨K, KX, c⟩ := Y
      have hmg : mg ("law" : PySem.Str) = some (.ref fa) := by
        have e : (HandSHeadRun.topDef (OpenLaw.row K23.LW).prog 38).name = ("law" : PySem.Str) := by kernel_rfl
        rw [← e]
        exact hmg0
      exact ⟨K, KX, K23.lawAt w K h mg fa KX c G hmg⟩
    · intro w H s e s' z
      obtain ⟨_, _, _, _, _, _, _, _, _, _, _, _, z⟩ := z
      exact z

