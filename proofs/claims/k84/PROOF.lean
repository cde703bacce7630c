import PyProof.Rows.All
import Wide.All
import OpenK.AllK
import Wide.FinOn
import HandS.ForMost
import HandS.Wide
import HandS.Exc
import HandS.TryOnly
import HandS.ExcOwn
import HandS.WordsExc
import HandS.IsInst
import HandS.HotCalls
import HandS.ExcIs
import HandS.More
import HandS.Style
import HandS.Rev
import HandS.SetFor
import HandS.Iter
import KE.DataEq
import HandS.Deep
import HandS.Small
import HandS.SortInts
import HandS.WideBits
import HandS.Text
import KE.DatumOrd
import KE.SortData
import HandS.List
import PySem.Challenge.RW_fractionroads_k84_walks_written
set_option Elab.async false
set_option linter.all false
set_option maxRecDepth 100000
set_option maxHeartbeats 4000000
/-! Sim: values without addresses, slots that share or own, and how a reading follows such a run. -/
namespace Sim
open PySem PySem.Spec PyProof.Rows L2

/-! ### the levels, as plain data -/
def putP (ps : List (List Int × Int)) (k : List Int) (v : Int) : List (List Int × Int) :=
  if (ps.any fun p => decide (p.1 = k)) = true then ps.map (fun p => if p.1 = k then (p.1, v) else p) else ps ++ [(k, v)]
def takeP (n : Int) (T : List Int) (i u v : Int) (ps : List (List Int × Int)) : List (List Int × Int) := T.foldl (fun ps k => putP ps [k * u % n, k * v % n] i) ps
def lvOk (n u v : Int) (ps : List (List Int × Int)) : Bool := decide (Int.gcd (Int.gcd u v : Nat) n = 1) && !(ps.any fun p => decide (p.1 = [u, v]))
def lvStep (n : Int) (T : List Int) (s : List (Int × Int) × List (List Int × Int)) (u v : Int) : List (Int × Int) × List (List Int × Int) :=
  if lvOk n u v s.2 = true then (s.1 ++ [(u, v)], takeP n T s.1.length u v s.2) else s
def lvRow (n : Int) (T : List Int) (s : List (Int × Int) × List (List Int × Int)) (u : Int) (m : Nat) : List (Int × Int) × List (List Int × Int) := (List.range m).foldl (fun s (v : Nat) => lvStep n T s u v) s
def lvAll (n : Int) (T : List Int) (m : Nat) : List (Int × Int) × List (List Int × Int) := (List.range m).foldl (fun s (u : Nat) => lvRow n T s u n.toNat) ([], [])
def lvT (n : Int) : List Int := ((List.range n.toNat).map fun (k : Nat) => 1 + (k : Int)).filter fun k => decide (Int.gcd k n = 1)
def lvEnd (n : Int) : List (Int × Int) × List (List Int × Int) := lvAll n (lvT n) n.toNat
def lvNames : List Str := ["n", "kinds", "numbers", "times"]
/-! ### data -/
inductive D where
  | non
  | bl (b : Bool)
  | int (i : Int)
  | str (s : Str)
  | tup (l : List D)
  | lst (l : List D)
  | scr (l : List Int)
  | dct (ks : List (List Int)) (vs : List D)
  | dck (ks : List L2.Key) (vs : List D)
  | ob (c : Str) (ns : List Str) (fs : List D)
  | adr (a : Addr)
  | lv (n : Int)

/-- a tuple that is there: tracked, or the module's own -/
def TpAt (K : PySem.W.Frag) (H : Hp) (a : Addr) (xs : List V) : Prop :=
  H a = some (.tup xs) ∨ ∃ (o : Obj) (its : Array Value) (n : Nat), K.lookup a = some o ∧ o.cls = .type "tuple" ∧ o.data = .seq its n ∧ its.size ≤ sizeLine ∧ Vals xs its.toList
theorem TpAt.sq {K : PySem.W.Frag} {H : Hp} {a : Addr} {xs : List V} (h : TpAt K H a xs) : SqT K H a xs := by
  rcases h with h | h
  · exact .inl (.inl h)
  · exact .inr h
theorem TpAt.mono {K : PySem.W.Frag} {H H' : Hp} {a : Addr} {xs : List V} (e : ∀ a xs, H a = some (.tup xs) → H' a = some (.tup xs)) (h : TpAt K H a xs) : TpAt K H' a xs := by
  rcases h with h | h
  · exact .inl (e _ _ h)
  · exact .inr h
def keyL (k : List Int) : List L2.Key := k.map Sum.inl
def lvFull (n : Int) : D := .ob "Level" lvNames [.int n, .lst ((lvEnd n).1.map fun q => .tup [.int q.1, .int q.2]), .dct ((lvEnd n).2.map (·.1)) ((lvEnd n).2.map fun p => .int p.2), .lst ((lvT n).map .int)]
abbrev lvOb (n : Int) : D := .lv n
inductive PairsAt (K : PySem.W.Frag) (H : Hp) : List V → List (Int × Int) → Prop
  | nil : PairsAt K H [] []
  | cons {a : Addr} {p : Int × Int} {vs : List V} {ps : List (Int × Int)} (h : TpAt K H a [.int p.1, .int p.2]) (t : PairsAt K H vs ps) : PairsAt K H (.ref a :: vs) (p :: ps)
theorem PairsAt.mono {K : PySem.W.Frag} {H H' : Hp} (e : ∀ a xs, H a = some (.tup xs) → H' a = some (.tup xs)) {vs : List V} {ps : List (Int × Int)} (h : PairsAt K H vs ps) : PairsAt K H' vs ps := by
  induction h with
  | nil => exact .nil
  | cons h _ ih => exact .cons (h.mono e) ih
/-- a level's object -/
structure LvAt (K : PySem.W.Frag) (H : Hp) (a : Addr) (n : Int) : Prop where
  ex : ∃ (C dx kA nA tA : Addr) (xs : List V), PySem.W.nsIn K mainGlobals "Level" = some (some (.ref C)) ∧ H a = some (.ins C dx (lvNames.zip [.int n, .ref kA, .ref nA, .ref tA])) ∧ H kA = some (.lst xs) ∧ PairsAt K H xs (lvEnd n).1 ∧
    H nA = some (.dT ((((lvEnd n).2.map (·.1)).map keyL).zip ((lvEnd n).2.map fun p => V.int p.2))) ∧ H tA = some (.lst ((lvT n).map V.int))
theorem LvAt.mono {K : PySem.W.Frag} {H H' : Hp} {a : Addr} {n : Int} (e : Same H H') (h : LvAt K H a n) : LvAt K H' a n := by
  obtain ⟨C, dx, kA, nA, tA, xs, h1, h2, h3, h4, h5, h6⟩ := h.ex
  exact ⟨C, dx, kA, nA, tA, xs, h1, e _ _ h2, e _ _ h3, h4.mono fun a xs q => e a _ q, e _ _ h5, e _ _ h6⟩
mutual
inductive Rep (K : PySem.W.Frag) (H : Hp) : V → D → Prop
  | non : Rep K H .non .non
  | bl (b : Bool) : Rep K H (.bl b) (.bl b)
  | int (i : Int) : Rep K H (.int i) (.int i)
  | str (s : Str) : Rep K H (.str s) (.str s)
  | tup {a : Addr} {xs : List V} {ds : List D} (h : TpAt K H a xs) (r : RepL K H xs ds) : Rep K H (.ref a) (.tup ds)
  | lst {a : Addr} {xs : List V} {ds : List D} (h : H a = some (.lst xs)) (r : RepL K H xs ds) : Rep K H (.ref a) (.lst ds)
  | scr {a : Addr} {ns : List Int} (h : SqL K H a (ns.map V.int)) : Rep K H (.ref a) (.scr ns)
  | dct {a : Addr} {ks : List (List Int)} {xs : List V} {ds : List D} (h : H a = some (.dT ((ks.map keyL).zip xs))) (hl : ks.length = ds.length) (r : RepL K H xs ds) : Rep K H (.ref a) (.dct ks ds)
  | dck {a : Addr} {ks : List L2.Key} {xs : List V} {ds : List D} (h : H a = some (.dK (ks.zip xs))) (hl : ks.length = ds.length) (r : RepL K H xs ds) : Rep K H (.ref a) (.dck ks ds)
  | ob {a C dx : Addr} {c : Str} {ns : List Str} {xs : List V} {ds : List D} (hc : PySem.W.nsIn K mainGlobals c = some (some (.ref C))) (h : H a = some (.ins C dx (ns.zip xs))) (hl : ns.length = ds.length) (r : RepL K H xs ds) : Rep K H (.ref a) (.ob c ns ds)
  | adr (a : Addr) : Rep K H (.ref a) (.adr a)
  | lv {a : Addr} {n : Int} (h : LvAt K H a n) : Rep K H (.ref a) (.lv n)
inductive RepL (K : PySem.W.Frag) (H : Hp) : List V → List D → Prop
  | nil : RepL K H [] []
  | cons {v : V} {d : D} {vs : List V} {ds : List D} (h : Rep K H v d) (t : RepL K H vs ds) : RepL K H (v :: vs) (d :: ds)
end

mutual
def isT : D → Bool
  | .lst _ => false
  | .scr _ => false
  | .tup l => isTL l
  | .non => true
  | .bl _ => true
  | .int _ => true
  | .str _ => true
  | .dct _ _ => false
  | .dck _ _ => false
  | .ob _ _ _ => false
  | .adr _ => true
  | .lv _ => false
def isTL : List D → Bool
  | [] => true
  | d :: ds => isT d && isTL ds
end

mutual
def isL : D → Bool
  | .lst l => isLL l
  | .tup l => isLL l
  | .scr _ => false
  | .non => true
  | .bl _ => true
  | .int _ => true
  | .str _ => true
  | .dct _ _ => false
  | .dck _ _ => false
  | .ob _ _ _ => false
  | .adr _ => true
  | .lv _ => false
def isLL : List D → Bool
  | [] => true
  | d :: ds => isL d && isLL ds
end
section
variable {K : PySem.W.Frag} {H H' : Hp}
mutual
theorem Rep.mono (e : Same H H') : ∀ (d : D) (v : V), Rep K H v d → Rep K H' v d
  | .non, _, .non => .non
  | .bl _, _, .bl b => .bl b
  | .int _, _, .int i => .int i
  | .str _, _, .str s => .str s
  | .tup ds, _, .tup h r => .tup (h.mono fun a xs q => e a _ q) (RepL.mono e ds _ r)
  | .lst ds, _, .lst h r => .lst (e _ _ h) (RepL.mono e ds _ r)
  | .scr _, _, .scr h => .scr (e.seq h)
  | .dct _ ds, _, .dct h hl r => .dct (e _ _ h) hl (RepL.mono e ds _ r)
  | .dck _ ds, _, .dck h hl r => .dck (e _ _ h) hl (RepL.mono e ds _ r)
  | .ob _ _ ds, _, .ob hc h hl r => .ob hc (e _ _ h) hl (RepL.mono e ds _ r)
  | .adr _, _, .adr a => .adr a
  | .lv _, _, .lv h => .lv (h.mono e)
theorem RepL.mono (e : Same H H') : ∀ (ds : List D) (vs : List V), RepL K H vs ds → RepL K H' vs ds
  | [], _, .nil => .nil
  | d :: ds, _, .cons h t => .cons (Rep.mono e d _ h) (RepL.mono e ds _ t)
end
mutual
theorem Rep.tmono (e : ∀ a xs, H a = some (.tup xs) → H' a = some (.tup xs)) : ∀ (d : D) (v : V), isT d = true → Rep K H v d → Rep K H' v d
  | .non, _, _, .non => .non
  | .bl _, _, _, .bl b => .bl b
  | .int _, _, _, .int i => .int i
  | .str _, _, _, .str s => .str s
  | .tup ds, _, ht, .tup h r => .tup (h.mono e) (RepL.tmono e ds _ (by unfold isT at ht; exact ht) r)
  | .lst _, _, ht, _ => by unfold isT at ht; cases ht
  | .scr _, _, ht, _ => by unfold isT at ht; cases ht
  | .dct _ _, _, ht, _ => by unfold isT at ht; cases ht
  | .dck _ _, _, ht, _ => by unfold isT at ht; cases ht
  | .ob _ _ _, _, ht, _ => by unfold isT at ht; cases ht
  | .adr _, _, _, .adr a => .adr a
  | .lv _, _, ht, _ => by unfold isT at ht; cases ht
theorem RepL.tmono (e : ∀ a xs, H a = some (.tup xs) → H' a = some (.tup xs)) : ∀ (ds : List D) (vs : List V), isTL ds = true → RepL K H vs ds → RepL K H' vs ds
  | [], _, _, .nil => .nil
  | d :: ds, _, ht, .cons h t => by
    unfold isTL at ht
    rw [Bool.and_eq_true] at ht
    exact .cons (Rep.tmono e d _ ht.1 h) (RepL.tmono e ds _ ht.2 t)
end
mutual
theorem Rep.lmono (e : ∀ a xs, H a = some (.tup xs) → H' a = some (.tup xs)) (e' : ∀ a xs, H a = some (.lst xs) → H' a = some (.lst xs)) : ∀ (d : D) (v : V), isL d = true → Rep K H v d → Rep K H' v d
  | .non, _, _, .non => .non
  | .bl _, _, _, .bl b => .bl b
  | .int _, _, _, .int i => .int i
  | .str _, _, _, .str s => .str s
  | .tup ds, _, ht, .tup h r => .tup (h.mono e) (RepL.lmono e e' ds _ (by unfold isL at ht; exact ht) r)
  | .lst ds, _, ht, .lst h r => .lst (e' _ _ h) (RepL.lmono e e' ds _ (by unfold isL at ht; exact ht) r)
  | .scr _, _, ht, _ => by unfold isL at ht; cases ht
  | .dct _ _, _, ht, _ => by unfold isL at ht; cases ht
  | .dck _ _, _, ht, _ => by unfold isL at ht; cases ht
  | .ob _ _ _, _, ht, _ => by unfold isL at ht; cases ht
  | .adr _, _, _, .adr a => .adr a
  | .lv _, _, ht, _ => by unfold isL at ht; cases ht
theorem RepL.lmono (e : ∀ a xs, H a = some (.tup xs) → H' a = some (.tup xs)) (e' : ∀ a xs, H a = some (.lst xs) → H' a = some (.lst xs)) : ∀ (ds : List D) (vs : List V), isLL ds = true → RepL K H vs ds → RepL K H' vs ds
  | [], _, _, .nil => .nil
  | d :: ds, _, ht, .cons h t => by
    unfold isLL at ht
    rw [Bool.and_eq_true] at ht
    exact .cons (Rep.lmono e e' d _ ht.1 h) (RepL.lmono e e' ds _ ht.2 t)
end
theorem RepL.length : ∀ {vs : List V} {ds : List D}, RepL K H vs ds → vs.length = ds.length
  | _, _, .nil => rfl
  | _, _, .cons _ t => by rw [List.length_cons, List.length_cons, RepL.length t]
theorem RepL.get : ∀ {vs : List V} {ds : List D} {i : Nat} {d : D}, RepL K H vs ds → ds[i]? = some d → ∃ v, vs[i]? = some v ∧ Rep K H v d
  | _, _, _, _, .nil, h => by simp at h
  | _, _, 0, _, .cons r _, h => by simp at h; subst h; exact ⟨_, rfl, r⟩
  | _, _, i + 1, d, .cons _ t, h => by
    obtain ⟨v, h1, h2⟩ := RepL.get (i := i) (d := d) t (by simpa using h)
    exact ⟨v, by simpa using h1, h2⟩
theorem RepL.get' : ∀ {vs : List V} {ds : List D} {i : Nat} {v : V}, RepL K H vs ds → vs[i]? = some v → ∃ d, ds[i]? = some d ∧ Rep K H v d
  | _, _, _, _, .nil, h => by simp at h
  | _, _, 0, _, .cons r _, h => by simp at h; subst h; exact ⟨_, rfl, r⟩
  | _, _, i + 1, d, .cons _ t, h => by
    obtain ⟨v, h1, h2⟩ := RepL.get' (i := i) (v := d) t (by simpa using h)
    exact ⟨v, by simpa using h1, h2⟩
theorem RepL.append : ∀ {vs ws : List V} {ds es : List D}, RepL K H vs ds → RepL K H ws es → RepL K H (vs ++ ws) (ds ++ es)
  | _, _, _, _, .nil, s => s
  | _, _, _, _, .cons r t, s => .cons r (RepL.append t s)
theorem RepL.set {v : V} {d : D} (r : Rep K H v d) : ∀ {vs : List V} {ds : List D} (i : Nat), RepL K H vs ds → RepL K H (vs.set i v) (ds.set i d)
  | _, _, _, .nil => .nil
  | _, _, 0, .cons _ t => .cons r t
  | _, _, i + 1, .cons q t => .cons q (RepL.set r i t)
theorem RepL.take : ∀ {vs : List V} {ds : List D} (n : Nat), RepL K H vs ds → RepL K H (vs.take n) (ds.take n)
  | _, _, 0, _ => .nil
  | _, _, _ + 1, .nil => .nil
  | _, _, n + 1, .cons r t => .cons r (RepL.take n t)
theorem RepL.drop : ∀ {vs : List V} {ds : List D} (n : Nat), RepL K H vs ds → RepL K H (vs.drop n) (ds.drop n)
  | _, _, 0, r => r
  | _, _, _ + 1, .nil => .nil
  | _, _, n + 1, .cons _ t => RepL.drop n t
theorem RepL.reverse : ∀ {vs : List V} {ds : List D}, RepL K H vs ds → RepL K H vs.reverse ds.reverse
  | _, _, .nil => .nil
  | _, _, .cons r t => by
    rw [List.reverse_cons, List.reverse_cons]
    exact RepL.append (RepL.reverse t) (.cons r .nil)
theorem RepL.ints : ∀ (ns : List Int), RepL K H (ns.map V.int) (ns.map D.int)
  | [] => .nil
  | n :: ns => .cons (.int n) (RepL.ints ns)
end

/-! ### a level's object, in full -/
section
variable {K : PySem.W.Frag} {H : Hp}
theorem PairsAt.rep : ∀ {vs : List V} {ps : List (Int × Int)}, PairsAt K H vs ps → RepL K H vs (ps.map fun q => .tup [.int q.1, .int q.2])
  | _, _, .nil => .nil
  | _, _, .cons h t => .cons (.tup h (.cons (.int _) (.cons (.int _) .nil))) (PairsAt.rep t)
theorem PairsAt.of : ∀ {ps : List (Int × Int)} {vs : List V}, RepL K H vs (ps.map fun q => .tup [.int q.1, .int q.2]) → PairsAt K H vs ps
  | [], _, .nil => .nil
  | p :: ps, _, .cons r t => by
    cases r with
    | tup h r =>
      cases r with
      | cons r1 r =>
        cases r with
        | cons r2 r =>
          cases r
          cases r1
          cases r2
          exact .cons h (PairsAt.of t)
theorem reps_ints : ∀ ps : List (List Int × Int), RepL K H (ps.map fun p => V.int p.2) (ps.map fun p => D.int p.2)
  | [] => .nil
  | p :: ps => .cons (.int _) (reps_ints ps)
theorem RepL.ints_of : ∀ {ns : List Int} {vs : List V}, RepL K H vs (ns.map D.int) → vs = ns.map V.int
  | [], _, .nil => rfl
  | n :: ns, _, .cons r t => by
    cases r
    rw [RepL.ints_of t]
    rfl
theorem Rep.full {v : V} {n : Int} (h : Rep K H v (.lv n)) : Rep K H v (lvFull n) := by
  cases h with
  | lv h =>
    obtain ⟨C, dx, kA, nA, tA, xs, h1, h2, h3, h4, h5, h6⟩ := h.ex
    exact .ob h1 h2 rfl (.cons (.int n) (.cons (.lst h3 h4.rep) (.cons (.dct h5 (by rw [List.length_map, List.length_map]) (reps_ints _)) (.cons (.lst h6 (RepL.ints _)) .nil))))
theorem Rep.lv_of {v : V} {n : Int} (h : Rep K H v (lvFull n)) : Rep K H v (.lv n) := by
  unfold lvFull at h
  cases h with
  | ob hc h hl r =>
    cases r with
    | cons r1 r =>
      cases r with
      | cons r2 r =>
        cases r with
        | cons r3 r =>
          cases r with
          | cons r4 r =>
            cases r
            cases r1
            cases r2 with
            | lst e2 q2 =>
              cases r3 with
              | @dct _ _ xs3 _ e3 l3 q3 =>
                cases r4 with
                | lst e4 q4 =>
                  have z3 : RepL K H xs3 (((lvEnd n).2.map (·.2)).map D.int) := by
                    rw [List.map_map]
                    exact q3
                  have z3 := z3.ints_of
                  rw [List.map_map] at z3
                  have z4 := q4.ints_of
                  subst z3
                  subst z4
                  exact .lv ⟨_, _, _, _, _, _, hc, h, e2, PairsAt.of q2, e3, e4⟩
end
/-! ### slots -/
/-- what a slot can own -/
inductive OC where
  | lst (l : List D)
  | dk (ks : List L2.Key) (vs : List D)
  | dt (ks : List (List Int)) (vs : List D)
  | ob (c : Str) (ns : List Str) (fs : List D)
def OC.d : OC → D
  | .lst l => .lst l
  | .dk ks vs => .dck ks vs
  | .dt ks vs => .dct ks vs
  | .ob c ns fs => .ob c ns fs
def OC.ds : OC → List D
  | .lst l => l
  | .dk _ vs => vs
  | .dt _ vs => vs
  | .ob _ _ fs => fs
/-- the object that stands for it, its items' values told -/
def OC.At (K : PySem.W.Frag) : OC → HO → List V → Prop
  | .lst _, o, xs => o = .lst xs
  | .dk ks vs, o, xs => o = .dK (ks.zip xs) ∧ ks.length = vs.length
  | .dt ks vs, o, xs => o = .dT ((ks.map keyL).zip xs) ∧ ks.length = vs.length
  | .ob c ns fs, o, xs => ∃ C dx, PySem.W.nsIn K mainGlobals c = some (some (.ref C)) ∧ o = .ins C dx (ns.zip xs) ∧ ns.length = fs.length
theorem OC.rep {K : PySem.W.Frag} {H : Hp} {a : Addr} {o : HO} {xs : List V} : ∀ {c : OC}, H a = some o → c.At K o xs → RepL K H xs c.ds → Rep K H (.ref a) c.d
  | .lst _, h, e, r => by
    have e : o = .lst xs := e
    subst e
    exact .lst h r
  | .dk _ _, h, e, r => by
    obtain ⟨rfl, hl⟩ := e
    exact .dck h hl r
  | .dt _ _, h, e, r => by
    obtain ⟨rfl, hl⟩ := e
    exact .dct h hl r
  | .ob _ _ _, h, e, r => by
    obtain ⟨C, dx, hc, rfl, hl⟩ := e
    exact .ob hc h hl r
inductive SV where
  | sh (d : D)
  | ow (c : OC)
abbrev SV.fr (l : List D) : SV := .ow (.lst l)
def SV.d : SV → D
  | .sh d => d
  | .ow c => c.d
abbrev Sl := List (Option SV)

inductive SlotOk (K : PySem.W.Frag) (F B H : Hp) : Option (Option V) → SV → Prop
  | sh {v : V} {d : D} (r : Rep K B v d) : SlotOk K F B H (some (some v)) (.sh d)
  | fr {a : Addr} {o : HO} {xs : List V} {c : OC} (hF : F a = none) (hB : B a = none) (hH : H a = some o) (hO : c.At K o xs) (r : RepL K B xs c.ds) : SlotOk K F B H (some (some (.ref a))) (.ow c)
def Owns (σ : L2.St) (ρ : Sl) (i : Nat) (a : Addr) : Prop := (∃ c, ρ[i]? = some (some (.ow c))) ∧ σ[i]? = some (some (.ref a))

structure Rel (K : PySem.W.Frag) (F B H : Hp) (σ : L2.St) (ρ : Sl) : Prop where
  exB : Same B H
  exF : Same F H
  dis : ∀ a o, F a = some o → B a = none
  len : ρ.length = σ.length
  slot : ∀ (i : Nat) (sv : SV), ρ[i]? = some (some sv) → SlotOk K F B H σ[i]? sv
  sep : ∀ i j a, Owns σ ρ i a → Owns σ ρ j a → i = j

inductive RV (K : PySem.W.Frag) (F B H : Hp) (σ : L2.St) (ρ : Sl) : V → SV → Prop
  | sh {v : V} {d : D} (r : Rep K B v d) : RV K F B H σ ρ v (.sh d)
  | fr {a : Addr} {o : HO} {xs : List V} {c : OC} (hF : F a = none) (hB : B a = none) (hH : H a = some o) (hO : c.At K o xs) (r : RepL K B xs c.ds) (no : ∀ i, ¬ Owns σ ρ i a) : RV K F B H σ ρ (.ref a) (.ow c)

/-- what an operand stands for: a value that is shared, or the list that a slot owns -/
inductive OpRep (K : PySem.W.Frag) (B H : Hp) : V → D → Prop
  | sh {v : V} {d : D} (r : Rep K B v d) : OpRep K B H v d
  | own {a : Addr} {o : HO} {xs : List V} {c : OC} {d : D} (hB : B a = none) (hH : H a = some o) (hO : c.At K o xs) (r : RepL K B xs c.ds) (e : c.d = d) : OpRep K B H (.ref a) d
inductive OpReps (K : PySem.W.Frag) (B H : Hp) : List V → List D → Prop
  | nil : OpReps K B H [] []
  | cons {v : V} {d : D} {vs : List V} {ds : List D} (h : OpRep K B H v d) (t : OpReps K B H vs ds) : OpReps K B H (v :: vs) (d :: ds)

section
variable {K : PySem.W.Frag} {F B B' H H' : Hp} {σ : L2.St} {ρ : Sl} {v : V} {d : D} {sv : SV}
theorem free_of (e : Same B H) {p : Addr} (h : H p = none) : B p = none := e.free h
theorem SlotOk.mono {o : Option (Option V)} (h : SlotOk K F B H o sv) (eB : Same B B') (hb : ∀ a, F a = none → B a = none → H a ≠ none → B' a = none) (eH : Same H H') : SlotOk K F B' H' o sv := by
  cases h with
  | sh r => exact .sh (r.mono eB _ _)
  | fr hF hB hH hO r => exact .fr hF (hb _ hF hB (by rw [hH]; exact Option.some_ne_none _)) (eH _ _ hH) hO (r.mono eB _ _)
/-- a new object that is nobody's yet -/
theorem Rel.new (R : Rel K F B H σ ρ) {p : Addr} {o : HO} (hp : H p = none) : Rel K F B (upd H p o) σ ρ where
  exB := fun a u e => by
    have e' := R.exB a u e
    rw [upd_ne (ne_of_none e' hp)]
    exact e'
  exF := fun a u e => by
    have e' := R.exF a u e
    rw [upd_ne (ne_of_none e' hp)]
    exact e'
  dis := R.dis
  len := R.len
  slot := fun i sv h => (R.slot i sv h).mono (Same.refl _) (fun _ _ h _ => h) fun a u e => by
    rw [upd_ne (ne_of_none e hp)]
    exact e
  sep := R.sep
/-- .. and is shared from now on -/
theorem Rel.share (R : Rel K F B H σ ρ) {p : Addr} {o : HO} (hF : F p = none) (hB : B p = none) (hH : H p = some o) (no : ∀ i, ¬ Owns σ ρ i p) : Rel K F (upd B p o) H σ ρ ∧ Same B (upd B p o) := by
  have sm : Same B (upd B p o) := fun a u e => by
    rw [upd_ne (ne_of_none e hB)]
    exact e
  refine ⟨⟨fun a u e => ?_, R.exF, fun a u e => ?_, R.len, fun i sv h => ?_, R.sep⟩, sm⟩
  · by_cases h : a = p
    · subst h
      rw [upd_same] at e
      cases e
      exact hH
    · rw [upd_ne h] at e
      exact R.exB a u e
  · have h : a ≠ p := fun z => by
      rw [z, hF] at e
      cases e
    rw [upd_ne h]
    exact R.dis a u e
  · have s := R.slot i sv h
    generalize hg : σ[i]? = w at s
    cases s with
    | sh r => exact .sh (r.mono sm _ _)
    | fr hF' hB' hH' hO' r =>
      refine .fr hF' ?_ hH' hO' (r.mono sm _ _)
      rw [upd_ne fun z => ?_]
      · exact hB'
      · subst z
        exact no i ⟨⟨_, h⟩, hg⟩
theorem Owns.at (R : Rel K F B H σ ρ) {i : Nat} {a : Addr} (o : Owns σ ρ i a) : ∃ ho xs c, ρ[i]? = some (some (.ow c)) ∧ F a = none ∧ B a = none ∧ H a = some ho ∧ c.At K ho xs ∧ RepL K B xs c.ds := by
  obtain ⟨⟨ds, h⟩, h2⟩ := o
  have s := R.slot i _ h
  rw [h2] at s
  cases s with
  | fr hF hB hH hO r => exact ⟨_, _, _, h, hF, hB, hH, hO, r⟩
theorem Rel.noOwn (R : Rel K F B H σ ρ) {p : Addr} (hp : H p = none) : ∀ i, ¬ Owns σ ρ i p := fun i o => by
  obtain ⟨_, _, _, _, _, _, h, _⟩ := o.at R
  rw [hp] at h
  cases h
/-- a new shared object -/
theorem Rel.newB (R : Rel K F B H σ ρ) {p : Addr} {o : HO} (hp : H p = none) : Rel K F (upd B p o) (upd H p o) σ ρ ∧ Same B (upd B p o) :=
  (R.new (o := o) hp).share (R.exF.free hp) (R.exB.free hp) upd_same fun i w => R.noOwn hp i w
theorem RV.freeze (R : Rel K F B H σ ρ) (r : RV K F B H σ ρ v sv) : ∃ B', Rel K F B' H σ ρ ∧ Same B B' ∧ Rep K B' v sv.d := by
  cases r with
  | sh r => exact ⟨B, R, Same.refl _, r⟩
  | fr hF hB hH hO r no =>
    obtain ⟨R', sm⟩ := R.share hF hB hH no
    exact ⟨_, R', sm, OC.rep upd_same hO (r.mono sm _ _)⟩
theorem RV.newL (R : Rel K F B H σ ρ) {p : Addr} {xs : List V} {ds : List D} (hp : H p = none) (r : RepL K B xs ds) : RV K F B (upd H p (.lst xs)) σ ρ (.ref p) (.fr ds) :=
  .fr (R.exF.free hp) (R.exB.free hp) upd_same rfl r fun i w => R.noOwn hp i w
theorem RV.newO (R : Rel K F B H σ ρ) {p : Addr} {o : HO} {xs : List V} {c : OC} (hp : H p = none) (hO : c.At K o xs) (r : RepL K B xs c.ds) : RV K F B (upd H p o) σ ρ (.ref p) (.ow c) :=
  .fr (R.exF.free hp) (R.exB.free hp) upd_same hO r fun i w => R.noOwn hp i w
theorem OpRep.lst (e : Same B H) {l : List D} (h : OpRep K B H v (.lst l)) : ∃ a xs, v = .ref a ∧ H a = some (.lst xs) ∧ RepL K B xs l := by
  cases h with
  | sh r =>
    cases r with
    | lst h r => exact ⟨_, _, rfl, e _ _ h, r⟩
  | @own a o xs c _ hB hH hO r e =>
    cases c with
    | lst l' =>
      cases e
      have hO : o = .lst xs := hO
      subst hO
      exact ⟨_, _, rfl, hH, r⟩
    | dk _ _ => cases e
    | dt _ _ => cases e
    | ob _ _ _ => cases e
theorem OpRep.tup (e : Same B H) {l : List D} (h : OpRep K B H v (.tup l)) : ∃ a xs, v = .ref a ∧ SqT K H a xs ∧ RepL K B xs l := by
  cases h with
  | sh r =>
    cases r with
    | tup h r => exact ⟨_, _, rfl, (h.mono fun a xs q => e a _ q).sq, r⟩
  | @own a o xs c _ hB hH hO r e => cases c <;> cases e
theorem OpRep.int {i : Int} (h : OpRep K B H v (.int i)) : v = .int i := by
  cases h with
  | sh r =>
    cases r
    rfl
  | @own a o xs c _ hB hH hO r e => cases c <;> cases e
theorem OpRep.bl {b : Bool} (h : OpRep K B H v (.bl b)) : v = .bl b := by
  cases h with
  | sh r =>
    cases r
    rfl
  | @own a o xs c _ hB hH hO r e => cases c <;> cases e
theorem OpRep.str {s : Str} (h : OpRep K B H v (.str s)) : v = .str s := by
  cases h with
  | sh r =>
    cases r
    rfl
  | @own a o xs c _ hB hH hO r e => cases c <;> cases e
theorem OpRep.non (h : OpRep K B H v .non) : v = .non := by
  cases h with
  | sh r =>
    cases r
    rfl
  | @own a o xs c _ hB hH hO r e => cases c <;> cases e
theorem OpRep.scr (e : Same B H) {ns : List Int} (h : OpRep K B H v (.scr ns)) : ∃ a, v = .ref a ∧ SqL K H a (ns.map V.int) := by
  cases h with
  | sh r =>
    cases r with
    | scr h => exact ⟨_, rfl, e.seq h⟩
  | @own a o xs c _ hB hH hO r e => cases c <;> cases e
theorem OpRep.rep (e : Same B H) (h : OpRep K B H v d) : Rep K H v d := by
  cases h with
  | sh r => exact r.mono e _ _
  | own hB hH hO r ed =>
    subst ed
    exact OC.rep hH hO (r.mono e _ _)
theorem OpReps.get {vs : List V} {ds : List D} (h : OpReps K B H vs ds) : vs.length = ds.length := by
  induction h with
  | nil => rfl
  | cons _ _ ih => rw [List.length_cons, List.length_cons, ih]
end

/-! ### runs of expressions -/
inductive Out (α : Type) where
  | ok (a : α) (ρ : Sl)
  | ex (c : Nat) (ρ : Sl)
abbrev M (α : Type) := Sl → Option (Out α)
def wpm {α : Type} (m : M α) (ρ : Sl) (Q : α → Sl → Prop) (X : Nat → Sl → Prop) : Prop :=
  match m ρ with
  | none => False
  | some (.ok a ρ') => Q a ρ'
  | some (.ex c ρ') => X c ρ'
def bnd {α β : Type} (m : M α) (k : α → M β) : M β := fun ρ =>
  match m ρ with
  | none => none
  | some (.ex c ρ') => some (.ex c ρ')
  | some (.ok a ρ') => k a ρ'
def ret {α : Type} (a : α) : M α := fun ρ => some (.ok a ρ)
theorem wpm_bnd {α β : Type} {m : M α} {k : α → M β} {ρ : Sl} {Q : β → Sl → Prop} {X : Nat → Sl → Prop} (h : wpm (bnd m k) ρ Q X) : wpm m ρ (fun a ρ' => wpm (k a) ρ' Q X) X := by
  unfold wpm bnd at h
  unfold wpm
  cases e : m ρ with
  | none =>
    rw [e] at h
    exact h
  | some o =>
    rw [e] at h
    cases o with
    | ok a ρ' => exact h
    | ex c ρ' => exact h
theorem wpm_mono {α : Type} {m : M α} {ρ : Sl} {Q Q' : α → Sl → Prop} {X X' : Nat → Sl → Prop} (h : wpm m ρ Q X) (hQ : ∀ a ρ', Q a ρ' → Q' a ρ') (hX : ∀ c ρ', X c ρ' → X' c ρ') : wpm m ρ Q' X' := by
  unfold wpm at *
  cases e : m ρ with
  | none =>
    rw [e] at h
    exact h
  | some o =>
    rw [e] at h
    cases o with
    | ok a ρ' => exact hQ _ _ h
    | ex c ρ' => exact hX _ _ h

/-- a reading follows a run; cv: the classes of errors; W: what is wished of an error -/
def Adm {β α : Type} (cv : Nat → Value) (W : WX) (K : PySem.W.Frag) (t : L2.St → Hp → (β → Hp → Prop) → Prop) (m : M α) (R : Hp → Hp → Hp → L2.St → Sl → β → α → Prop) : Prop :=
  ∀ (F B H : Hp) (σ : L2.St) (ρ : Sl) (Q : β → Hp → Prop), Rel K F B H σ ρ →
    wpm m ρ (fun a ρ' => ∀ v B' H', Rel K F B' H' σ ρ' → Same B B' → R F B' H' σ ρ' v a → Q v H')
      (fun c ρ' => ∀ B' H', Rel K F B' H' σ ρ' → Same B B' → W (cv c) none σ H') → t σ H Q

inductive Op where
  | val (d : D)
  | slot (i : Nat)
def slotD (ρ : Sl) (i : Nat) : Option D := match ρ[i]? with
  | some (some sv) => some sv.d
  | _ => none
def get (ρ : Sl) : Op → Option D
  | .val d => some d
  | .slot i => slotD ρ i
inductive OpV (K : PySem.W.Frag) (B : Hp) (σ : L2.St) : V → Op → Prop
  | val {v : V} {d : D} (r : Rep K B v d) : OpV K B σ v (.val d)
  | slot {v : V} {i : Nat} (h : σ[i]? = some (some v)) : OpV K B σ v (.slot i)
inductive OpVs (K : PySem.W.Frag) (B : Hp) (σ : L2.St) : List V → List Op → Prop
  | nil : OpVs K B σ [] []
  | cons {v : V} {o : Op} {vs : List V} {os : List Op} (h : OpV K B σ v o) (t : OpVs K B σ vs os) : OpVs K B σ (v :: vs) (o :: os)
def gets (ρ : Sl) : List Op → Option (List D)
  | [] => some []
  | o :: os => match get ρ o, gets ρ os with
    | some d, some ds => some (d :: ds)
    | _, _ => none
section
variable {K : PySem.W.Frag} {F B B' H H' : Hp} {σ : L2.St} {ρ : Sl} {v : V} {d : D} {sv : SV} {o : Op}
theorem OpV.mono (h : OpV K B σ v o) (e : Same B B') : OpV K B' σ v o := by
  cases h with
  | val r => exact .val (r.mono e _ _)
  | slot h => exact .slot h
theorem OpVs.mono {vs : List V} {os : List Op} (h : OpVs K B σ vs os) (e : Same B B') : OpVs K B' σ vs os := by
  induction h with
  | nil => exact .nil
  | cons h _ ih => exact .cons (h.mono e) ih
theorem OpV.rep (R : Rel K F B H σ ρ) (h : OpV K B σ v o) (hg : get ρ o = some d) : OpRep K B H v d := by
  cases h with
  | val r =>
    cases hg
    exact .sh r
  | @slot i h =>
    have hg : slotD ρ i = some d := hg
    unfold slotD at hg
    cases e : ρ[i]? with
    | none =>
      rw [e] at hg
      cases hg
    | some q =>
      rw [e] at hg
      cases q with
      | none => cases hg
      | some sv =>
        cases hg
        have s := R.slot i sv e
        rw [h] at s
        cases s with
        | sh r => exact .sh r
        | fr hF hB hH hO r => exact .own hB hH hO r rfl
theorem OpVs.rep (R : Rel K F B H σ ρ) : ∀ {vs : List V} {os : List Op} {ds : List D}, OpVs K B σ vs os → gets ρ os = some ds → OpReps K B H vs ds
  | _, _, _, .nil, hg => by
    cases hg
    exact .nil
  | _, _, ds, .cons (o := o) (os := os) h t, hg => by
    unfold gets at hg
    cases e1 : get ρ o with
    | none =>
      rw [e1] at hg
      cases hg
    | some d =>
      cases e2 : gets ρ os with
      | none =>
        rw [e1, e2] at hg
        cases hg
      | some ds' =>
        rw [e1, e2] at hg
        cases hg
        exact .cons (h.rep R e1) (OpVs.rep R t e2)
end

structure SndE (cv : Nat → Value) (X : Cx) (W : WX) (e : Expr) (t : TE) (f : M SV) : Prop where
  pe : PE X e t
  ad : Adm cv W X.K t f (RV X.K)
structure SndO (cv : Nat → Value) (X : Cx) (W : WX) (e : Expr) (t : TE) (f : M Op) : Prop where
  pe : PE X e t
  ad : Adm cv W X.K t f (fun _ B _ σ _ v o => OpV X.K B σ v o)
structure SndA (cv : Nat → Value) (X : Cx) (W : WX) (es : List Expr) (t : TA) (f : M (List Op)) : Prop where
  pa : PA X es t
  ad : Adm cv W X.K t f (fun _ B _ σ _ vs os => OpVs X.K B σ vs os)
structure SndT (cv : Nat → Value) (X : Cx) (W : WX) (e : Expr) (t : TT) (f : M SV) : Prop where
  pt : PT X e t
  ad : Adm cv W X.K t f (fun _ _ _ _ _ b sv => sv = .sh (.bl b))
structure SndW (cv : Nat → Value) (X : Cx) (W : WX) (e : Expr) (t : TT) (f : M SV) : Prop where
  pw : PW X e t
  ad : Adm cv W X.K t f (fun _ _ _ _ _ b sv => sv = .sh (.bl b))

end Sim

namespace Sim
open PySem PySem.Spec PyProof.Rows L2

section
variable {K : PySem.W.Frag} {F B B' H H' : Hp} {σ : L2.St} {ρ : Sl} {v : V} {d : D} {sv : SV} {o : Op}
theorem get_set_self {i : Nat} {x : Option SV} {y : SV} (h : ρ[i]? = some x) : (ρ.set i (some y))[i]? = some (some y) := by
  obtain ⟨hl, _⟩ := List.getElem?_eq_some_iff.mp h
  rw [List.getElem?_set_self hl]
theorem owns_set_none {i j : Nat} {a : Addr} (h : Owns σ (ρ.set i none) j a) : j ≠ i ∧ Owns σ ρ j a := by
  obtain ⟨⟨ds, h1⟩, h2⟩ := h
  by_cases e : i = j
  · subst e
    by_cases hl : i < ρ.length
    · rw [List.getElem?_set_self hl] at h1
      cases h1
    · rw [List.getElem?_eq_none (by simpa using hl)] at h1
      cases h1
  · rw [List.getElem?_set_ne e] at h1
    exact ⟨fun z => e z.symm, ⟨ds, h1⟩, h2⟩
/-- a slot is forgotten -/
theorem Rel.drop (R : Rel K F B H σ ρ) (i : Nat) : Rel K F B H σ (ρ.set i none) where
  exB := R.exB
  exF := R.exF
  dis := R.dis
  len := by rw [List.length_set]; exact R.len
  slot := fun j sv h => by
    by_cases e : i = j
    · subst e
      by_cases hl : i < ρ.length
      · rw [List.getElem?_set_self hl] at h
        cases h
      · rw [List.getElem?_eq_none (by simpa using hl)] at h
        cases h
    · rw [List.getElem?_set_ne e] at h
      exact R.slot j sv h
  sep := fun j k a h1 h2 => R.sep j k a (owns_set_none h1).2 (owns_set_none h2).2
/-- a slot is known as what stands in it -/
theorem Rel.put (R : Rel K F B H σ ρ) {i : Nat} (hs : σ[i]? = some (some v)) (r : RV K F B H σ (ρ.set i none) v sv) : Rel K F B H σ (ρ.set i (some sv)) where
  exB := R.exB
  exF := R.exF
  dis := R.dis
  len := by rw [List.length_set]; exact R.len
  slot := fun j s h => by
    by_cases e : i = j
    · subst e
      obtain ⟨hl, _⟩ := List.getElem?_eq_some_iff.mp h
      rw [List.length_set] at hl
      rw [List.getElem?_set_self hl] at h
      cases h
      rw [hs]
      cases r with
      | sh r => exact .sh r
      | fr hF hB hH hO r no => exact .fr hF hB hH hO r
    · rw [List.getElem?_set_ne e] at h
      exact R.slot j s h
  sep := fun j k a h1 h2 => by
    have key : ∀ j, Owns σ (ρ.set i (some sv)) j a → j = i ∨ (j ≠ i ∧ Owns σ (ρ.set i none) j a) := fun j h => by
      by_cases e : j = i
      · exact .inl e
      · obtain ⟨⟨ds, q1⟩, q2⟩ := h
        rw [List.getElem?_set_ne (Ne.symm e)] at q1
        exact .inr ⟨e, ⟨ds, by rw [List.getElem?_set_ne (Ne.symm e)]; exact q1⟩, q2⟩
    have at_i : Owns σ (ρ.set i (some sv)) i a → ∀ k, ¬ Owns σ (ρ.set i none) k a := fun h k hk => by
      obtain ⟨⟨ds, q1⟩, q2⟩ := h
      obtain ⟨hl, _⟩ := List.getElem?_eq_some_iff.mp q1
      rw [List.length_set] at hl
      rw [List.getElem?_set_self hl] at q1
      cases q1
      rw [hs] at q2
      cases q2
      cases r with
      | fr hF hB hH hO r no => exact no k hk
    rcases key j h1 with rfl | ⟨n1, o1⟩
    · rcases key k h2 with rfl | ⟨n2, o2⟩
      · rfl
      · exact (at_i h1 k o2).elim
    · rcases key k h2 with rfl | ⟨n2, o2⟩
      · exact (at_i h2 j o1).elim
      · exact R.sep j k a (owns_set_none o1).2 (owns_set_none o2).2
theorem Rel.freeze (R : Rel K F B H σ ρ) {i : Nat} {c : OC} (h : ρ[i]? = some (some (.ow c))) :
    ∃ a B', σ[i]? = some (some (.ref a)) ∧ Rel K F B' H σ (ρ.set i (some (.sh c.d))) ∧ Same B B' ∧ Rep K B' (.ref a) c.d := by
  have s := R.slot i _ h
  generalize hg : σ[i]? = w at s
  cases s with
  | @fr a o xs _ hF hB hH hO r =>
    have no : ∀ j, ¬ Owns σ (ρ.set i none) j a := fun j hj => by
      obtain ⟨n, oj⟩ := owns_set_none hj
      exact n (R.sep j i a oj ⟨⟨_, h⟩, hg⟩)
    obtain ⟨R', sm⟩ := (R.drop i).share hF hB hH no
    have rep : Rep K (upd B a o) (.ref a) c.d := OC.rep upd_same hO (r.mono sm _ _)
    refine ⟨a, _, rfl, ?_, sm, rep⟩
    have R2 := R'.put (i := i) (sv := .sh c.d) hg (.sh rep)
    rw [List.set_set] at R2
    exact R2
theorem Rel.move (R : Rel K F B H σ ρ) {i : Nat} {c : OC} (h : ρ[i]? = some (some (.ow c))) :
    ∃ a, σ[i]? = some (some (.ref a)) ∧ Rel K F B H σ (ρ.set i none) ∧ RV K F B H σ (ρ.set i none) (.ref a) (.ow c) := by
  have s := R.slot i _ h
  generalize hg : σ[i]? = w at s
  cases s with
  | @fr a o xs _ hF hB hH hO r =>
    refine ⟨a, rfl, R.drop i, .fr hF hB hH hO r fun j hj => ?_⟩
    obtain ⟨n, oj⟩ := owns_set_none hj
    exact n (R.sep j i a oj ⟨⟨_, h⟩, hg⟩)
end

/-! ### names, constants, operands -/
def vVar (i : Nat) : M SV := fun ρ => match ρ[i]? with
  | some (some (.sh d)) => some (.ok (.sh d) ρ)
  | some (some (.ow c)) => some (.ok (.sh c.d) (ρ.set i (some (.sh c.d))))
  | _ => none
def vMv (i : Nat) : M SV := fun ρ => match ρ[i]? with
  | some (some (.sh d)) => some (.ok (.sh d) ρ)
  | some (some (.ow c)) => some (.ok (.ow c) (ρ.set i none))
  | _ => none
def oPk (i : Nat) : M Op := fun ρ => match ρ[i]? with
  | some (some _) => some (.ok (.slot i) ρ)
  | _ => none
def vC (d : D) : M SV := ret (.sh d)
def oOf (f : M SV) : M Op := bnd f fun sv => ret (.val sv.d)
def aNil : M (List Op) := ret []
def aCons (a : M Op) (as : M (List Op)) : M (List Op) := bnd a fun o => bnd as fun os => ret (o :: os)
section
variable {cv : Nat → Value} {X : Cx} {W : WX} {e : Expr} {es : List Expr} {t : TE} {f : M SV}
theorem slot_val {K : PySem.W.Frag} {F B H : Hp} {o : Option (Option V)} {sv : SV} (s : SlotOk K F B H o sv) : ∃ v, o = some (some v) := by
  cases s with
  | sh r => exact ⟨_, rfl⟩
  | fr _ _ _ _ _ => exact ⟨_, rfl⟩
theorem snd_var {x : Str} {i : Nat} (p : PE X e (tVar i)) : SndE cv X W e (tVar i) (vVar i) := by
  refine ⟨p, fun F B H σ ρ Q R h => ?_⟩
  unfold wpm vVar at h
  cases e1 : ρ[i]? with
  | none =>
    rw [e1] at h
    exact h.elim
  | some q =>
    rw [e1] at h
    cases q with
    | none => exact h.elim
    | some sv =>
      cases sv with
      | sh d =>
        have s := R.slot i _ e1
        generalize hg : σ[i]? = w at s
        cases s with
        | sh r => exact ⟨_, hg, h _ B H R (Same.refl _) (.sh r)⟩
      | ow l =>
        obtain ⟨a, B', hs, R', sm, rep⟩ := R.freeze e1
        exact ⟨_, hs, h _ B' H R' sm (.sh rep)⟩
theorem snd_mv {i : Nat} (p : PE X e (tVar i)) : SndE cv X W e (tVar i) (vMv i) := by
  refine ⟨p, fun F B H σ ρ Q R h => ?_⟩
  unfold wpm vMv at h
  cases e1 : ρ[i]? with
  | none =>
    rw [e1] at h
    exact h.elim
  | some q =>
    rw [e1] at h
    cases q with
    | none => exact h.elim
    | some sv =>
      cases sv with
      | sh d =>
        have s := R.slot i _ e1
        generalize hg : σ[i]? = w at s
        cases s with
        | sh r => exact ⟨_, hg, h _ B H R (Same.refl _) (.sh r)⟩
      | ow l =>
        obtain ⟨a, hs, R', rv⟩ := R.move e1
        exact ⟨_, hs, h _ B H R' (Same.refl _) rv⟩
theorem snd_pk {i : Nat} (p : PE X e (tVar i)) : SndO cv X W e (tVar i) (oPk i) := by
  refine ⟨p, fun F B H σ ρ Q R h => ?_⟩
  unfold wpm oPk at h
  cases e1 : ρ[i]? with
  | none =>
    rw [e1] at h
    exact h.elim
  | some q =>
    rw [e1] at h
    cases q with
    | none => exact h.elim
    | some sv =>
      obtain ⟨v, hv⟩ := slot_val (R.slot i _ e1)
      exact ⟨v, hv, h v B H R (Same.refl _) (.slot hv)⟩
theorem snd_c {d : D} {v : V} (p : PE X e (tC v)) (r : ∀ H, Rep X.K H v d) : SndE cv X W e (tC v) (vC d) :=
  ⟨p, fun F B H σ ρ Q R h => h v B H R (Same.refl _) (.sh (r _))⟩
theorem snd_int {i : Int} {j : Nat} {pos : Pos} : SndE cv X W (.Constant (.int i) j pos) (tC (.int i)) (vC (.int i)) := snd_c pe_int fun _ => .int i
theorem snd_bl {b : Bool} {j : Nat} {pos : Pos} : SndE cv X W (.Constant (.bool b) j pos) (tC (.bl b)) (vC (.bl b)) := snd_c pe_bl fun _ => .bl b
theorem snd_non {j : Nat} {pos : Pos} : SndE cv X W (.Constant .none j pos) (tC .non) (vC .non) := snd_c pe_non fun _ => .non
theorem snd_str {s : Str} {j : Nat} {pos : Pos} : SndE cv X W (.Constant (.str s) j pos) (tC (.str s)) (vC (.str s)) := snd_c pe_str fun _ => .str s
theorem snd_o (h : SndE cv X W e t f) : SndO cv X W e t (oOf f) := by
  refine ⟨h.pe, fun F B H σ ρ Q R q => ?_⟩
  refine h.ad F B H σ ρ Q R (wpm_mono (wpm_bnd q) (fun sv ρ' q v B' H' R' sm rv => ?_) fun _ _ q => q)
  obtain ⟨B2, R2, sm2, rep⟩ := rv.freeze R'
  exact q v B2 H' R2 (sm.trans sm2) (.val rep)
theorem snd_anil : SndA cv X W [] tNil aNil := ⟨pa_nil, fun F B H σ ρ Q R h => h [] B H R (Same.refl _) .nil⟩
theorem snd_acons {ta : TE} {ts : TA} {a : M Op} {as : M (List Op)} (ha : SndO cv X W e ta a) (hs : SndA cv X W es ts as) (hst : starEach (e :: es) X.env = (false, eval e X.env) :: starEach es X.env := by rfl) :
    SndA cv X W (e :: es) (tCons ta ts) (aCons a as) := by
  refine ⟨pa_cons ha.pe hs.pa hst, fun F B H σ ρ Q R q => ?_⟩
  refine ha.ad F B H σ ρ _ R (wpm_mono (wpm_bnd q) (fun o ρ1 q v B1 H1 R1 sm1 ov => ?_) fun _ _ q => q)
  refine hs.ad F B1 H1 σ ρ1 _ R1 (wpm_mono (wpm_bnd q) (fun os ρ2 q vs B2 H2 R2 sm2 ovs => ?_) fun c ρ2 q B2 H2 R2 sm2 => q B2 H2 R2 (sm1.trans sm2))
  exact q (v :: vs) B2 H2 R2 (sm1.trans sm2) (.cons (ov.mono sm2) ovs)
end

/-! ### operators -/
def lift1 (g : D → Option SV) (o : Op) : M SV := fun ρ => match get ρ o with
  | some x => (g x).map fun sv => .ok sv ρ
  | none => none
def lift2 (g : D → D → Option SV) (o p : Op) : M SV := fun ρ => match get ρ o, get ρ p with
  | some x, some y => (g x y).map fun sv => .ok sv ρ
  | _, _ => none
def liftA (g : List D → Option SV) (os : List Op) : M SV := fun ρ => match gets ρ os with
  | some xs => (g xs).map fun sv => .ok sv ρ
  | none => none
def vOp1 (g : D → Option SV) (a : M Op) : M SV := bnd a (lift1 g)
def vOp2 (g : D → D → Option SV) (a b : M Op) : M SV := bnd a fun o => bnd b (lift2 g o)
def vBi (g : List D → Option SV) (as : M (List Op)) : M SV := bnd as (liftA g)
/-- what a rule by values asks is met -/
def Ok1 (K : PySem.W.Frag) (r : V → Hp → VK → Prop) (g : D → Option SV) : Prop :=
  ∀ (F B H : Hp) (σ : L2.St) (ρ : Sl) (x : V) (dx : D) (sv : SV) (Q : VK), Rel K F B H σ ρ → OpRep K B H x dx → g dx = some sv →
    (∀ v B' H', Rel K F B' H' σ ρ → Same B B' → RV K F B' H' σ ρ v sv → Q v H') → r x H Q
def Ok2 (K : PySem.W.Frag) (r : R2) (g : D → D → Option SV) : Prop :=
  ∀ (F B H : Hp) (σ : L2.St) (ρ : Sl) (x y : V) (dx dy : D) (sv : SV) (Q : VK), Rel K F B H σ ρ → OpRep K B H x dx → OpRep K B H y dy → g dx dy = some sv →
    (∀ v B' H', Rel K F B' H' σ ρ → Same B B' → RV K F B' H' σ ρ v sv → Q v H') → r x y H Q
def OkA (K : PySem.W.Frag) (r : List V → Hp → VK → Prop) (g : List D → Option SV) : Prop :=
  ∀ (F B H : Hp) (σ : L2.St) (ρ : Sl) (xs : List V) (ds : List D) (sv : SV) (Q : VK), Rel K F B H σ ρ → OpReps K B H xs ds → g ds = some sv →
    (∀ v B' H', Rel K F B' H' σ ρ → Same B B' → RV K F B' H' σ ρ v sv → Q v H') → r xs H Q
section
variable {cv : Nat → Value} {X : Cx} {W : WX} {e a b : Expr} {es : List Expr} {ta tb : TE} {ts : TA} {fa fb : M Op} {fs : M (List Op)}
theorem adm_op2 {r : R2} {g : D → D → Option SV} (ok : Ok2 X.K r g) (ha : SndO cv X W a ta fa) (hb : SndO cv X W b tb fb) : Adm cv W X.K (tOp r ta tb) (vOp2 g fa fb) (RV X.K) := by
  intro F B H σ ρ Q R q
  refine ha.ad F B H σ ρ _ R (wpm_mono (wpm_bnd q) (fun o ρ1 q v B1 H1 R1 sm1 ov => ?_) fun _ _ q => q)
  refine hb.ad F B1 H1 σ ρ1 _ R1 (wpm_mono (wpm_bnd q) (fun p ρ2 q w B2 H2 R2 sm2 ow => ?_) fun c ρ2 q B2 H2 R2 sm2 => q B2 H2 R2 (sm1.trans sm2))
  unfold wpm lift2 at q
  cases e1 : get ρ2 o with
  | none =>
    rw [e1] at q
    exact q.elim
  | some x =>
    cases e2 : get ρ2 p with
    | none =>
      rw [e1, e2] at q
      exact q.elim
    | some y =>
      rw [e1, e2] at q
      cases e3 : g x y with
      | none =>
        simp only [e3, Option.map_none] at q
      | some sv =>
        simp only [e3, Option.map_some] at q
        exact ok F B2 H2 σ ρ2 v w x y sv Q R2 ((ov.mono sm2).rep R2 e1) (ow.rep R2 e2) e3 fun u B3 H3 R3 sm3 rv => q u B3 H3 R3 ((sm1.trans sm2).trans sm3) rv
theorem adm_op1 {r : V → Hp → VK → Prop} {g : D → Option SV} (ok : Ok1 X.K r g) (ha : SndO cv X W a ta fa) : Adm cv W X.K (tUn r ta) (vOp1 g fa) (RV X.K) := by
  intro F B H σ ρ Q R q
  refine ha.ad F B H σ ρ _ R (wpm_mono (wpm_bnd q) (fun o ρ1 q v B1 H1 R1 sm1 ov => ?_) fun _ _ q => q)
  unfold wpm lift1 at q
  cases e1 : get ρ1 o with
  | none =>
    rw [e1] at q
    exact q.elim
  | some x =>
    rw [e1] at q
    cases e3 : g x with
    | none => simp only [e3, Option.map_none] at q
    | some sv =>
      simp only [e3, Option.map_some] at q
      exact ok F B1 H1 σ ρ1 v x sv Q R1 (ov.rep R1 e1) e3 fun u B3 H3 R3 sm3 rv => q u B3 H3 R3 (sm1.trans sm3) rv
theorem adm_bi {r : List V → Hp → VK → Prop} {g : List D → Option SV} (ok : OkA X.K r g) (ha : SndA cv X W es ts fs) : Adm cv W X.K (tCB r ts) (vBi g fs) (RV X.K) := by
  intro F B H σ ρ Q R q
  refine ha.ad F B H σ ρ _ R (wpm_mono (wpm_bnd q) (fun o ρ1 q v B1 H1 R1 sm1 ov => ?_) fun _ _ q => q)
  unfold wpm liftA at q
  cases e1 : gets ρ1 o with
  | none =>
    rw [e1] at q
    exact q.elim
  | some x =>
    rw [e1] at q
    cases e3 : g x with
    | none => simp only [e3, Option.map_none] at q
    | some sv =>
      simp only [e3, Option.map_some] at q
      exact ok F B1 H1 σ ρ1 v x sv Q R1 (ov.rep R1 e1) e3 fun u B3 H3 R3 sm3 rv => q u B3 H3 R3 (sm1.trans sm3) rv
theorem snd_bin {op : Operator} {r : R2} {g : D → D → Option SV} {pos : Pos} (ho : OpR X (binaryOp op) r) (ok : Ok2 X.K r g) (ha : SndO cv X W a ta fa) (hb : SndO cv X W b tb fb) :
    SndE cv X W (.BinOp a op b pos) (tOp r ta tb) (vOp2 g fa fb) := ⟨pe_op ho ha.pe hb.pe, adm_op2 ok ha hb⟩
theorem snd_un {op : UnaryOp} {r : V → Hp → VK → Prop} {g : D → Option SV} {pos : Pos} (ho : UnR X (unaryOp op) r) (ok : Ok1 X.K r g) (ha : SndO cv X W a ta fa) :
    SndE cv X W (.UnaryOp op a pos) (tUn r ta) (vOp1 g fa) := ⟨pe_un ho ha.pe, adm_op1 ok ha⟩
end

/-! ### arithmetic -/
/-- the factors' sizes together -/
def MulOk (i j : Int) : Prop := (-(2 ^ 64) < i ∧ i < 2 ^ 64) ∨ (-(2 ^ 64) < j ∧ j < 2 ^ 64) ∨ i.natAbs.log2 + j.natAbs.log2 < 1000000
instance (i j : Int) : Decidable (MulOk i j) := by unfold MulOk; infer_instance
theorem MulOk.ok {i j : Int} (h : MulOk i j) : IntMulOk i j := by
  rcases h with h | h | h
  · exact CMul.ok (.inl h)
  · exact CMul.ok (.inr h)
  · exact CMulW.ok h
def DivOk (_ j : Int) : Prop := j ≠ 0 ∧ j.natAbs.log2 < 9000
instance (i j : Int) : Decidable (DivOk i j) := by unfold DivOk; infer_instance
def PowOk (i j : Int) : Prop := 0 ≤ j ∧ j ≤ 1000000 ∧ i.natAbs < 2 ^ 64
instance (i j : Int) : Decidable (PowOk i j) := by unfold PowOk; infer_instance
def gAdd : D → D → Option SV
  | .int i, .int j => some (.sh (.int (i + j)))
  | .lst l, .lst m => if l.length + m.length ≤ 1000000 then some (.fr (l ++ m)) else none
  | .str s, .str u => if s.length + u.length ≤ 1000000 then some (.sh (.str (s ++ u))) else none
  | _, _ => none
def gSub : D → D → Option SV
  | .int i, .int j => some (.sh (.int (i - j)))
  | _, _ => none
def gMul : D → D → Option SV
  | .int i, .int j => if MulOk i j then some (.sh (.int (i * j))) else none
  | _, _ => none
def gDiv : D → D → Option SV
  | .int i, .int j => if DivOk i j then some (.sh (.int (i.fdiv j))) else none
  | _, _ => none
def gMod : D → D → Option SV
  | .int i, .int j => if j ≠ 0 then some (.sh (.int (i.fmod j))) else none
  | _, _ => none
def gPow : D → D → Option SV
  | .int i, .int j => if PowOk i j then some (.sh (.int (i ^ j.toNat))) else none
  | _, _ => none
def gNeg : D → Option SV
  | .int i => some (.sh (.int (-i)))
  | _ => none
def rAdd3 : R2 := fun x y H Q => (∃ i j, x = .int i ∧ y = .int j ∧ Q (.int (i + j)) H) ∨ (rCat x y H Q ∨ (∃ i j, x = .str i ∧ y = .str j ∧ i.length + j.length ≤ sizeLine ∧ Q (.str (i ++ j)) H))
theorem mill_le {n : Nat} (h : n ≤ 1000000) : n ≤ sizeLine := Nat.le_trans h (by decide)
theorem mill_lt {n : Nat} (h : n < 1000000) : n < sizeLine := Nat.lt_of_lt_of_le h (by decide)
section
variable {X : Cx} {K : PySem.W.Frag}
theorem op_add3 : OpR X (binaryOp .Add) rAdd3 := OpR.or op_add (OpR.or op_cat op_add_str)
theorem op_mul3 : OpR X (binaryOp .Mult) (rI MulOk fun i j => .int (i * j)) := opI fun _ _ _ _ _ _ _ hc q => mul_int q hc.ok
theorem op_div3 : OpR X (binaryOp .FloorDiv) (rI DivOk fun i j => .int (i.fdiv j)) := opI fun i j _ _ _ _ _ hc q =>
  floordiv_int hc.1 q (.inl (PyProof.noPylong_of_log2 hc.2))
theorem ok_add : Ok2 K rAdd3 gAdd := by
  intro F B H σ ρ x y dx dy sv Q R hx hy hg q
  unfold gAdd at hg
  split at hg
  · cases hg
    exact .inl ⟨_, _, hx.int, hy.int, q _ B H R (Same.refl _) (.sh (.int _))⟩
  · rename_i l m
    split at hg
    · rename_i hl
      cases hg
      obtain ⟨a, xs, rfl, h1, r1⟩ := hx.lst R.exB
      obtain ⟨b, ys, rfl, h2, r2⟩ := hy.lst R.exB
      refine .inr (.inl ⟨a, b, xs, ys, rfl, rfl, h1, h2, ?_, fun p hp => q _ B _ (R.new hp) (Same.refl _) (RV.newL R hp (r1.append r2))⟩)
      rw [r1.length, r2.length]
      exact mill_le hl
    · cases hg
  · split at hg
    · rename_i hl
      cases hg
      exact .inr (.inr ⟨_, _, hx.str, hy.str, mill_le hl, q _ B H R (Same.refl _) (.sh (.str _))⟩)
    · cases hg
  · cases hg
theorem ok_sub : Ok2 K (rI0 fun i j => .int (i - j)) gSub := by
  intro F B H σ ρ x y dx dy sv Q R hx hy hg q
  unfold gSub at hg
  split at hg
  · cases hg
    exact ⟨_, _, hx.int, hy.int, q _ B H R (Same.refl _) (.sh (.int _))⟩
  · cases hg
theorem ok_mul : Ok2 K (rI MulOk fun i j => .int (i * j)) gMul := by
  intro F B H σ ρ x y dx dy sv Q R hx hy hg q
  unfold gMul at hg
  split at hg
  · split at hg
    · rename_i hc
      cases hg
      exact ⟨_, _, hx.int, hy.int, hc, q _ B H R (Same.refl _) (.sh (.int _))⟩
    · cases hg
  · cases hg
theorem ok_div : Ok2 K (rI DivOk fun i j => .int (i.fdiv j)) gDiv := by
  intro F B H σ ρ x y dx dy sv Q R hx hy hg q
  unfold gDiv at hg
  split at hg
  · split at hg
    · rename_i hc
      cases hg
      exact ⟨_, _, hx.int, hy.int, hc, q _ B H R (Same.refl _) (.sh (.int _))⟩
    · cases hg
  · cases hg
theorem ok_mod : Ok2 K (rI (fun _ j => j ≠ 0) fun i j => .int (i.fmod j)) gMod := by
  intro F B H σ ρ x y dx dy sv Q R hx hy hg q
  unfold gMod at hg
  split at hg
  · split at hg
    · rename_i hc
      cases hg
      exact ⟨_, _, hx.int, hy.int, hc, q _ B H R (Same.refl _) (.sh (.int _))⟩
    · cases hg
  · cases hg
theorem ok_pow : Ok2 K (rI CPow fun i j => .int (i ^ j.toNat)) gPow := by
  intro F B H σ ρ x y dx dy sv Q R hx hy hg q
  unfold gPow at hg
  split at hg
  · split at hg
    · rename_i hc
      cases hg
      exact ⟨_, _, hx.int, hy.int, hc, q _ B H R (Same.refl _) (.sh (.int _))⟩
    · cases hg
  · cases hg
theorem ok_neg : Ok1 K (rU fun i => .int (-i)) gNeg := by
  intro F B H σ ρ x dx sv Q R hx hg q
  unfold gNeg at hg
  split at hg
  · cases hg
    exact ⟨_, hx.int, q _ B H R (Same.refl _) (.sh (.int _))⟩
  · cases hg
end
section
variable {cv : Nat → Value} {X : Cx} {W : WX} {a b : Expr} {ta tb : TE} {fa fb : M Op} {pos : Pos}
theorem snd_add (ha : SndO cv X W a ta fa) (hb : SndO cv X W b tb fb) : SndE cv X W (.BinOp a .Add b pos) (tOp rAdd3 ta tb) (vOp2 gAdd fa fb) := snd_bin op_add3 ok_add ha hb
theorem snd_sub (ha : SndO cv X W a ta fa) (hb : SndO cv X W b tb fb) : SndE cv X W (.BinOp a .Sub b pos) (tOp (rI0 fun i j => .int (i - j)) ta tb) (vOp2 gSub fa fb) := snd_bin op_sub ok_sub ha hb
theorem snd_mul (ha : SndO cv X W a ta fa) (hb : SndO cv X W b tb fb) : SndE cv X W (.BinOp a .Mult b pos) (tOp (rI MulOk fun i j => .int (i * j)) ta tb) (vOp2 gMul fa fb) := snd_bin op_mul3 ok_mul ha hb
theorem snd_div (ha : SndO cv X W a ta fa) (hb : SndO cv X W b tb fb) : SndE cv X W (.BinOp a .FloorDiv b pos) (tOp (rI DivOk fun i j => .int (i.fdiv j)) ta tb) (vOp2 gDiv fa fb) := snd_bin op_div3 ok_div ha hb
theorem snd_mod (ha : SndO cv X W a ta fa) (hb : SndO cv X W b tb fb) : SndE cv X W (.BinOp a .Mod b pos) (tOp (rI (fun _ j => j ≠ 0) fun i j => .int (i.fmod j)) ta tb) (vOp2 gMod fa fb) := snd_bin op_modN ok_mod ha hb
theorem snd_pow (ha : SndO cv X W a ta fa) (hb : SndO cv X W b tb fb) : SndE cv X W (.BinOp a .Pow b pos) (tOp (rI CPow fun i j => .int (i ^ j.toNat)) ta tb) (vOp2 gPow fa fb) := snd_bin op_pow ok_pow ha hb
theorem snd_neg (ha : SndO cv X W a ta fa) : SndE cv X W (.UnaryOp .USub a pos) (tUn (rU fun i => .int (-i)) ta) (vOp1 gNeg fa) := snd_un un_neg ok_neg ha
end

/-! ### comparisons -/
mutual
def toPy : D → PyData
  | .non => .none
  | .bl b => .bool b
  | .int i => .int i
  | .str s => .str s
  | .tup l => .tuple (toPyL l)
  | .lst l => .list (toPyL l)
  | .scr l => .list (l.map PyData.int)
  | .dct _ _ => .dict []
  | .dck _ _ => .dict []
  | .ob _ _ _ => .dict []
  | .adr _ => .dict []
  | .lv _ => .dict []
def toPyL : List D → List PyData
  | [] => []
  | d :: ds => toPy d :: toPyL ds
end
theorem dp_ints {K : PySem.W.Frag} {H : Hp} : ∀ ns : List Int, DpAll K H (ns.map V.int) (ns.map PyData.int)
  | [] => .nil
  | n :: ns => .cons (.int n) (dp_ints ns)
mutual
theorem Rep.dp {K : PySem.W.Frag} {H : Hp} : ∀ (d : D) (v : V), (toPy d).canLay0 = true → Rep K H v d → Dp K H v (toPy d)
  | .non, _, _, .non => .non
  | .bl _, _, _, .bl b => .bl b
  | .int _, _, _, .int i => .int i
  | .str _, _, _, .str s => .str s
  | .tup ds, _, hc, .tup h r => by
    unfold toPy at hc ⊢
    exact .tup h.sq (RepL.dp ds _ hc r)
  | .lst ds, _, hc, .lst h r => by
    unfold toPy at hc ⊢
    exact .lst (SqL.of h) (RepL.dp ds _ hc r)
  | .scr _, _, _, .scr h => by
    unfold toPy
    exact .lst h (dp_ints _)
  | .dct _ _, _, hc, _ => by
    unfold toPy at hc
    exact nomatch hc
  | .dck _ _, _, hc, _ => by
    unfold toPy at hc
    exact nomatch hc
  | .ob _ _ _, _, hc, _ => by
    unfold toPy at hc
    exact nomatch hc
  | .adr _, _, hc, _ => by
    unfold toPy at hc
    exact nomatch hc
  | .lv _, _, hc, _ => by
    unfold toPy at hc
    exact nomatch hc
theorem RepL.dp {K : PySem.W.Frag} {H : Hp} : ∀ (ds : List D) (vs : List V), PyData.canLayAll0 (toPyL ds) = true → RepL K H vs ds → DpAll K H vs (toPyL ds)
  | [], _, _, .nil => by
    unfold toPyL
    exact .nil
  | d :: ds, _, hc, .cons h t => by
    unfold toPyL at hc ⊢
    have hc2 : (toPy d).canLay0 = true ∧ PyData.canLayAll0 (toPyL ds) = true := Bool.and_eq_true_iff.mp hc
    exact .cons (Rep.dp d _ hc2.1 h) (RepL.dp ds _ hc2.2 t)
end
def okPy (d : D) : Bool := SeqAt.shaped (toPy d)
def eqD (a b : D) : Bool := PyData.eqv (toPy a) (toPy b)
def gEq (x y : D) : Option SV := if okPy x = true ∧ okPy y = true then some (.sh (.bl (eqD x y))) else none
def gNe (x y : D) : Option SV := if okPy x = true ∧ okPy y = true then some (.sh (.bl (!eqD x y))) else none
def gCmp (p : Int → Int → Bool) : D → D → Option SV
  | .int i, .int j => some (.sh (.bl (p i j)))
  | _, _ => none
def tst (f : M SV) : M Bool := bnd f fun sv ρ => match sv with
  | .sh (.bl b) => some (.ok b ρ)
  | _ => none
def vBl (m : M Bool) : M SV := bnd m fun b => ret (.sh (.bl b))
section
variable {X : Cx} {K : PySem.W.Frag}
theorem ok_eq : Ok2 K (rEqD K) gEq := by
  intro F B H σ ρ x y dx dy sv Q R hx hy hg q
  unfold gEq at hg
  split at hg
  · rename_i hc
    cases hg
    exact ⟨_, _, Rep.dp _ _ (SeqAt.canLay_of_shaped hc.1) (hx.rep R.exB), Rep.dp _ _ (SeqAt.canLay_of_shaped hc.2) (hy.rep R.exB), hc.1, hc.2, q _ B H R (Same.refl _) (.sh (.bl _))⟩
  · cases hg
theorem ok_ne : Ok2 K (rNeD K) gNe := by
  intro F B H σ ρ x y dx dy sv Q R hx hy hg q
  unfold gNe at hg
  split at hg
  · rename_i hc
    cases hg
    exact ⟨_, _, Rep.dp _ _ (SeqAt.canLay_of_shaped hc.1) (hx.rep R.exB), Rep.dp _ _ (SeqAt.canLay_of_shaped hc.2) (hy.rep R.exB), hc.1, hc.2, q _ B H R (Same.refl _) (.sh (.bl _))⟩
  · cases hg
theorem ok_cmp {p : Int → Int → Bool} : Ok2 K (rI0 fun i j => .bl (p i j)) (gCmp p) := by
  intro F B H σ ρ x y dx dy sv Q R hx hy hg q
  unfold gCmp at hg
  split at hg
  · cases hg
    exact ⟨_, _, hx.int, hy.int, q _ B H R (Same.refl _) (.sh (.bl _))⟩
  · cases hg
end
structure SndB (cv : Nat → Value) (X : Cx) (W : WX) (e : Expr) (t : TT) (f : M Bool) : Prop where
  pt : PT X e t
  ad : Adm cv W X.K t f (fun _ _ _ _ _ b b' => b = b')
structure SndV (cv : Nat → Value) (X : Cx) (W : WX) (e : Expr) (t : TT) (f : M Bool) : Prop where
  pw : PW X e t
  ad : Adm cv W X.K t f (fun _ _ _ _ _ b b' => b = b')
theorem adm_tst {cv : Nat → Value} {K : PySem.W.Frag} {W : WX} {t : TE} {f : M SV} (h : Adm cv W K t f (RV K)) : Adm cv W K (fun σ H Q => t σ H fun x H' => ∃ k, x = .bl k ∧ Q k H') (tst f) (fun _ _ _ _ _ b b' => b = b') := by
  intro F B H σ ρ Q R q
  refine h F B H σ ρ _ R (wpm_mono (wpm_bnd q) (fun sv ρ1 q v B1 H1 R1 sm1 rv => ?_) fun _ _ q => q)
  unfold wpm at q
  split at q
  · exact q.elim
  · rename_i e1
    split at e1
    · cases e1
      cases rv with
      | sh r =>
        cases r
        exact ⟨_, rfl, q _ B1 H1 R1 sm1 rfl⟩
    · cases e1
  · rename_i e1
    split at e1 <;> cases e1
def tand (a b : M Bool) : M Bool := bnd a fun x => if x = true then b else ret false
def tor (a b : M Bool) : M Bool := bnd a fun x => if x = true then ret true else b
def tnot (a : M Bool) : M Bool := bnd a fun x => ret (!x)
def vand (a : M SV) (b : M SV) : M SV := bnd (tst a) fun x => if x = true then b else ret (.sh (.bl false))
def vor (a : M SV) (b : M SV) : M SV := bnd (tst a) fun x => if x = true then ret (.sh (.bl true)) else b
def vnot (a : M SV) : M SV := bnd (tst a) fun x => ret (.sh (.bl (!x)))
def vif (c : M Bool) (a b : M SV) : M SV := bnd c fun x => if x = true then a else b
section
variable {cv : Nat → Value} {X : Cx} {W : WX} {e a b : Expr} {rest : List Expr} {ta tb : TE} {t u : TT} {fa fb : M Op} {f g : M SV} {m n : M Bool} {pos : Pos}
theorem snd_cmp {op : CmpOp} {r : R2} {g : D → D → Option SV} (ho : OpR X (compareOp op) r) (ok : Ok2 X.K r g) (ha : SndO cv X W a ta fa) (hb : SndO cv X W b tb fb) (hm : behindInMarks op b = false) :
    SndE cv X W (.Compare a [op] [b] pos) (tOp r ta tb) (vOp2 g fa fb) := ⟨pe_cmpR ho ha.pe hb.pe hm, adm_op2 ok ha hb⟩
theorem snb_cmp {op : CmpOp} {r : R2} {g : D → D → Option SV} (ho : OpR X (compareOp op) r) (ok : Ok2 X.K r g) (ha : SndO cv X W a ta fa) (hb : SndO cv X W b tb fb) (hm : behindInMarks op b = false) :
    SndB cv X W (.Compare a [op] [b] pos) (tTest (tOp r ta tb)) (tst (vOp2 g fa fb)) := ⟨pt_cmpR ho ha.pe hb.pe hm, adm_tst (adm_op2 ok ha hb)⟩
theorem snb_val (h : SndE cv X W e ta f) (he : ∀ whole, isTrue e X.env whole = (do let v ← whole; standAt e.pos; holding [v] (truthy v)) := by intro _; rfl) : SndB cv X W e (tB ta) (tst f) := ⟨pt_val h.pe he, adm_tst h.ad⟩
theorem snb_v (h : SndV cv X W e t m) : SndB cv X W e t m := ⟨h.pw.pt, h.ad⟩
theorem snv_and1 (h : SndB cv X W a t m) : SndV cv X W (.BoolOp .And [a] pos) t m := ⟨pw_and1 h.pt, h.ad⟩
theorem snv_or1 (h : SndB cv X W a t m) : SndV cv X W (.BoolOp .Or [a] pos) t m := ⟨pw_or1 h.pt, h.ad⟩
theorem snv_and (ha : SndB cv X W a t m) (hb : SndV cv X W (.BoolOp .And (b :: rest) pos) u n) : SndV cv X W (.BoolOp .And (a :: b :: rest) pos) (tAnd t u) (tand m n) := by
  refine ⟨pw_and ha.pt hb.pw, fun F B H σ ρ Q R q => ?_⟩
  refine ha.ad F B H σ ρ _ R (wpm_mono (wpm_bnd q) (fun x ρ1 q b' B1 H1 R1 sm1 e1 => ?_) fun _ _ q => q)
  subst e1
  cases b' with
  | true => exact hb.ad F B1 H1 σ ρ1 Q R1 (wpm_mono q (fun x ρ2 q v B2 H2 R2 sm2 e2 => q v B2 H2 R2 (sm1.trans sm2) e2) fun c ρ2 q B2 H2 R2 sm2 => q B2 H2 R2 (sm1.trans sm2))
  | false => exact q false B1 H1 R1 sm1 rfl
theorem snv_or (ha : SndB cv X W a t m) (hb : SndV cv X W (.BoolOp .Or (b :: rest) pos) u n) : SndV cv X W (.BoolOp .Or (a :: b :: rest) pos) (tOr t u) (tor m n) := by
  refine ⟨pw_or ha.pt hb.pw, fun F B H σ ρ Q R q => ?_⟩
  refine ha.ad F B H σ ρ _ R (wpm_mono (wpm_bnd q) (fun x ρ1 q b' B1 H1 R1 sm1 e1 => ?_) fun _ _ q => q)
  subst e1
  cases b' with
  | false => exact hb.ad F B1 H1 σ ρ1 Q R1 (wpm_mono q (fun x ρ2 q v B2 H2 R2 sm2 e2 => q v B2 H2 R2 (sm1.trans sm2) e2) fun c ρ2 q B2 H2 R2 sm2 => q B2 H2 R2 (sm1.trans sm2))
  | true => exact q true B1 H1 R1 sm1 rfl
theorem snb_not (ha : SndB cv X W a t m) : SndB cv X W (.UnaryOp .Not a pos) (tNot t) (tnot m) := by
  refine ⟨pt_not ha.pt, fun F B H σ ρ Q R q => ?_⟩
  refine ha.ad F B H σ ρ _ R (wpm_mono (wpm_bnd q) (fun x ρ1 q b' B1 H1 R1 sm1 e1 => ?_) fun _ _ q => q)
  subst e1
  exact q _ B1 H1 R1 sm1 rfl
theorem snd_one {op : BoolOp} (h : SndE cv X W a ta f) : SndE cv X W (.BoolOp op [a] pos) ta f := ⟨pe_one h.pe, h.ad⟩
theorem snd_and (ha : SndE cv X W a ta f) (hb : SndE cv X W (.BoolOp .And (b :: rest) pos) tb g) : SndE cv X W (.BoolOp .And (a :: b :: rest) pos) (tAndV ta tb) (vand f g) := by
  refine ⟨pe_and ha.pe hb.pe, fun F B H σ ρ Q R q => ?_⟩
  have k := adm_tst ha.ad F B H σ ρ (fun c H1 => if c = true then tb σ H1 Q else Q (.bl false) H1) R (wpm_mono (wpm_bnd q) (fun x ρ1 q b' B1 H1 R1 sm1 e1 => ?_) fun _ _ q => q)
  · exact k
  · subst e1
    cases b' with
    | true => exact hb.ad F B1 H1 σ ρ1 Q R1 (wpm_mono q (fun x ρ2 q v B2 H2 R2 sm2 e2 => q v B2 H2 R2 (sm1.trans sm2) e2) fun c ρ2 q B2 H2 R2 sm2 => q B2 H2 R2 (sm1.trans sm2))
    | false => exact q _ B1 H1 R1 sm1 (.sh (.bl false))
theorem snd_or (ha : SndE cv X W a ta f) (hb : SndE cv X W (.BoolOp .Or (b :: rest) pos) tb g) : SndE cv X W (.BoolOp .Or (a :: b :: rest) pos) (tOrV ta tb) (vor f g) := by
  refine ⟨pe_or ha.pe hb.pe, fun F B H σ ρ Q R q => ?_⟩
  have k := adm_tst ha.ad F B H σ ρ (fun c H1 => if c = true then Q (.bl true) H1 else tb σ H1 Q) R (wpm_mono (wpm_bnd q) (fun x ρ1 q b' B1 H1 R1 sm1 e1 => ?_) fun _ _ q => q)
  · exact k
  · subst e1
    cases b' with
    | false => exact hb.ad F B1 H1 σ ρ1 Q R1 (wpm_mono q (fun x ρ2 q v B2 H2 R2 sm2 e2 => q v B2 H2 R2 (sm1.trans sm2) e2) fun c ρ2 q B2 H2 R2 sm2 => q B2 H2 R2 (sm1.trans sm2))
    | true => exact q _ B1 H1 R1 sm1 (.sh (.bl true))
theorem snd_not (ha : SndE cv X W a ta f) : SndE cv X W (.UnaryOp .Not a pos) (tNotV ta) (vnot f) := by
  refine ⟨pe_not ha.pe, fun F B H σ ρ Q R q => ?_⟩
  exact adm_tst ha.ad F B H σ ρ (fun c H1 => Q (.bl (!c)) H1) R (wpm_mono (wpm_bnd q) (fun x ρ1 q b' B1 H1 R1 sm1 e1 => by
    subst e1
    exact q _ B1 H1 R1 sm1 (.sh (.bl _))) fun _ _ q => q)
theorem snd_if {c : Expr} (hc : SndB cv X W c t m) (ha : SndE cv X W a ta f) (hb : SndE cv X W b tb g) : SndE cv X W (.IfExp c a b pos) (tIf t ta tb) (vif m f g) := by
  refine ⟨pe_ifExp hc.pt ha.pe hb.pe, fun F B H σ ρ Q R q => ?_⟩
  refine hc.ad F B H σ ρ _ R (wpm_mono (wpm_bnd q) (fun x ρ1 q b' B1 H1 R1 sm1 e1 => ?_) fun _ _ q => q)
  subst e1
  cases b' with
  | true => exact ha.ad F B1 H1 σ ρ1 Q R1 (wpm_mono q (fun x ρ2 q v B2 H2 R2 sm2 e2 => q v B2 H2 R2 (sm1.trans sm2) e2) fun c ρ2 q B2 H2 R2 sm2 => q B2 H2 R2 (sm1.trans sm2))
  | false => exact hb.ad F B1 H1 σ ρ1 Q R1 (wpm_mono q (fun x ρ2 q v B2 H2 R2 sm2 e2 => q v B2 H2 R2 (sm1.trans sm2) e2) fun c ρ2 q B2 H2 R2 sm2 => q B2 H2 R2 (sm1.trans sm2))
end
theorem wpm_lift2 {g : D → D → Option SV} {o p : Op} {ρ : Sl} {Q : SV → Sl → Prop} {E : Nat → Sl → Prop} (q : wpm (lift2 g o p) ρ Q E) : ∃ x y sv, get ρ o = some x ∧ get ρ p = some y ∧ g x y = some sv ∧ Q sv ρ := by
  unfold wpm lift2 at q
  cases e1 : get ρ o with
  | none =>
    rw [e1] at q
    exact q.elim
  | some x =>
    cases e2 : get ρ p with
    | none =>
      rw [e1, e2] at q
      exact q.elim
    | some y =>
      rw [e1, e2] at q
      cases e3 : g x y with
      | none => simp only [e3, Option.map_none] at q
      | some sv =>
        simp only [e3, Option.map_some] at q
        exact ⟨x, y, sv, rfl, rfl, e3, q⟩
theorem wpm_lift1 {g : D → Option SV} {o : Op} {ρ : Sl} {Q : SV → Sl → Prop} {E : Nat → Sl → Prop} (q : wpm (lift1 g o) ρ Q E) : ∃ x sv, get ρ o = some x ∧ g x = some sv ∧ Q sv ρ := by
  unfold wpm lift1 at q
  cases e1 : get ρ o with
  | none =>
    rw [e1] at q
    exact q.elim
  | some x =>
    rw [e1] at q
    cases e3 : g x with
    | none => simp only [e3, Option.map_none] at q
    | some sv =>
      simp only [e3, Option.map_some] at q
      exact ⟨x, sv, rfl, e3, q⟩
theorem wpm_tst {f : M SV} {ρ : Sl} {Q : Bool → Sl → Prop} {E : Nat → Sl → Prop} (q : wpm (tst f) ρ Q E) : wpm f ρ (fun sv ρ' => ∃ b, sv = .sh (.bl b) ∧ Q b ρ') E := by
  refine wpm_mono (wpm_bnd q) (fun sv ρ' q => ?_) fun _ _ q => q
  unfold wpm at q
  split at q
  · exact q.elim
  · rename_i e1
    split at e1
    · cases e1
      exact ⟨_, rfl, q⟩
    · cases e1
  · rename_i e1
    split at e1 <;> cases e1
/-- a op b op' c -/
def vChain (g g' : D → D → Option SV) (a b c : M Op) : M SV := bnd a fun x => bnd b fun y => bnd (tst (lift2 g x y)) fun k => if k = true then bnd c fun z => lift2 g' y z else ret (.sh (.bl false))
section
variable {cv : Nat → Value} {X : Cx} {W : WX} {a b c : Expr} {ta tb tc : TE} {fa fb fc : M Op} {pos : Pos}
theorem adm_chain {r r' : R2} {g g' : D → D → Option SV} (ok : Ok2 X.K r g) (ok' : Ok2 X.K r' g') (ha : SndO cv X W a ta fa) (hb : SndO cv X W b tb fb) (hc : SndO cv X W c tc fc) :
    Adm cv W X.K (tChain r r' ta tb tc) (vChain g g' fa fb fc) (RV X.K) := by
  intro F B H σ ρ Q R q
  refine ha.ad F B H σ ρ _ R (wpm_mono (wpm_bnd q) (fun x ρ1 q v B1 H1 R1 sm1 ov => ?_) fun _ _ q => q)
  refine hb.ad F B1 H1 σ ρ1 _ R1 (wpm_mono (wpm_bnd q) (fun y ρ2 q w B2 H2 R2 sm2 ow => ?_) fun c ρ2 q B2 H2 R2 sm2 => q B2 H2 R2 (sm1.trans sm2))
  obtain ⟨dx, dy, sv, e1, e2, e3, k, rfl, q⟩ := wpm_lift2 (wpm_tst (wpm_bnd q))
  refine ok F B2 H2 σ ρ2 v w dx dy _ _ R2 ((ov.mono sm2).rep R2 e1) (ow.rep R2 e2) e3 fun u B3 H3 R3 sm3 rv => ?_
  cases rv with
  | sh r =>
    cases r
    refine ⟨k, rfl, ?_⟩
    cases k with
    | false => exact q _ B3 H3 R3 ((sm1.trans sm2).trans sm3) (.sh (.bl false))
    | true =>
      refine hc.ad F B3 H3 σ ρ2 _ R3 (wpm_mono (wpm_bnd q) (fun z ρ4 q w4 B4 H4 R4 sm4 oz => ?_) fun c ρ2 q B2 H2 R2 sm4 => q B2 H2 R2 (((sm1.trans sm2).trans sm3).trans sm4))
      obtain ⟨dy', dz, sv, f1, f2, f3, q⟩ := wpm_lift2 q
      exact ok' F B4 H4 σ ρ4 w w4 dy' dz sv Q R4 ((ow.mono (sm3.trans sm4)).rep R4 f1) (oz.rep R4 f2) f3 fun u B5 H5 R5 sm5 rv => q u B5 H5 R5 ((((sm1.trans sm2).trans sm3).trans sm4).trans sm5) rv
theorem snd_chain {op op' : CmpOp} {r r' : R2} {g g' : D → D → Option SV} (ho : OpR X (compareOp op) r) (ho' : OpR X (compareOp op') r') (ok : Ok2 X.K r g) (ok' : Ok2 X.K r' g') (ha : SndO cv X W a ta fa) (hb : SndO cv X W b tb fb) (hc : SndO cv X W c tc fc)
    (hm : lastMarks [op, op'] [b, c] = false := by with_unfolding_all rfl) : SndE cv X W (.Compare a [op, op'] [b, c] pos) (tChain r r' ta tb tc) (vChain g g' fa fb fc) := ⟨pe_chain ho ho' ha.pe hb.pe hc.pe hm, adm_chain ok ok' ha hb hc⟩
theorem snb_chain {op op' : CmpOp} {r r' : R2} {g g' : D → D → Option SV} (ho : OpR X (compareOp op) r) (ho' : OpR X (compareOp op') r') (ok : Ok2 X.K r g) (ok' : Ok2 X.K r' g') (ha : SndO cv X W a ta fa) (hb : SndO cv X W b tb fb) (hc : SndO cv X W c tc fc)
    (hm : lastMarks [op, op'] [b, c] = false := by with_unfolding_all rfl) : SndB cv X W (.Compare a [op, op'] [b, c] pos) (tTest (tChain r r' ta tb tc)) (tst (vChain g g' fa fb fc)) := ⟨pt_chain ho ho' ha.pe hb.pe hc.pe hm, adm_tst (adm_chain ok ok' ha hb hc)⟩
end
end Sim

namespace Sim
open PySem PySem.Spec PyProof.Rows L2

/-! ### displays -/
def vals : List Op → Option (List D)
  | [] => some []
  | .val d :: os => (vals os).map (d :: ·)
  | .slot _ :: _ => none
theorem OpVs.vals {K : PySem.W.Frag} {B : Hp} {σ : L2.St} : ∀ {vs : List V} {os : List Op} {ds : List D}, OpVs K B σ vs os → Sim.vals os = some ds → RepL K B vs ds
  | _, _, _, .nil, h => by
    cases h
    exact .nil
  | _, _, ds, .cons (os := os) (.val r) t, h => by
    unfold Sim.vals at h
    cases e : Sim.vals os with
    | none =>
      rw [e] at h
      cases h
    | some es =>
      rw [e] at h
      cases h
      exact .cons r (OpVs.vals t e)
  | _, _, _, .cons (.slot _) _, h => by
    unfold Sim.vals at h
    cases h
def vTup (as : M (List Op)) : M SV := bnd as fun os ρ => match vals os with
  | some ds => if ds.length ≤ 1000000 then some (.ok (.sh (.tup ds)) ρ) else none
  | none => none
def vLst (as : M (List Op)) : M SV := bnd as fun os ρ => match vals os with
  | some ds => if ds.length ≤ 1000000 then some (.ok (.fr ds) ρ) else none
  | none => none
section
variable {cv : Nat → Value} {X : Cx} {W : WX} {es : List Expr} {ts : TA} {fs : M (List Op)} {pos : Pos}
theorem snd_tup {k : Nat} (ha : SndA cv X W es ts fs) : SndE cv X W (.Tuple es k pos) (tTup ts) (vTup fs) := by
  refine ⟨pe_tup ha.pa, fun F B H σ ρ Q R q => ?_⟩
  refine ha.ad F B H σ ρ _ R (wpm_mono (wpm_bnd q) (fun os ρ1 q vs B1 H1 R1 sm1 ov => ?_) fun _ _ q => q)
  unfold wpm at q
  cases e : vals os with
  | none =>
    rw [e] at q
    exact q.elim
  | some ds =>
    simp only [e] at q
    by_cases hl : ds.length ≤ 1000000
    · rw [if_pos hl] at q
      have rl := ov.vals e
      refine ⟨by rw [rl.length]; exact mill_le hl, fun p hp => ?_⟩
      obtain ⟨R2, sm2⟩ := R1.newB (o := .tup vs) hp
      exact q _ _ _ R2 (sm1.trans sm2) (.sh (.tup (.inl upd_same) (rl.mono sm2 _ _)))
    · rw [if_neg hl] at q
      exact q.elim
theorem snd_lst (ha : SndA cv X W es ts fs) : SndE cv X W (.List es pos) (tLst ts) (vLst fs) := by
  refine ⟨pe_lst ha.pa, fun F B H σ ρ Q R q => ?_⟩
  refine ha.ad F B H σ ρ _ R (wpm_mono (wpm_bnd q) (fun os ρ1 q vs B1 H1 R1 sm1 ov => ?_) fun _ _ q => q)
  unfold wpm at q
  cases e : vals os with
  | none =>
    rw [e] at q
    exact q.elim
  | some ds =>
    simp only [e] at q
    by_cases hl : ds.length ≤ 1000000
    · rw [if_pos hl] at q
      have rl := ov.vals e
      refine ⟨by rw [rl.length]; exact mill_le hl, fun p hp => ?_⟩
      exact q _ _ _ (R1.new hp) sm1 (RV.newL R1 hp rl)
    · rw [if_neg hl] at q
      exact q.elim
end

/-! ### items -/
def gIx : D → D → Option SV
  | .lst l, .int i => (atI l i).map .sh
  | .tup l, .int i => (atI l i).map .sh
  | .scr l, .int i => (atI l i).map fun n => .sh (.int n)
  | .str s, .int i => if s.length ≤ 1000000 then (atI s.cps.toList i).map fun c => .sh (.str ⟨#[c]⟩) else none
  | _, _ => none
section
variable {K : PySem.W.Frag} {H : Hp}
theorem RepL.atI {xs : List V} {ds : List D} {i : Int} {d : D} (r : RepL K H xs ds) (h : L2.atI ds i = some d) : ∃ v, L2.atI xs i = some v ∧ Rep K H v d := by
  unfold L2.atI at *
  rw [r.length]
  cases e : ixN ds.length i with
  | none =>
    rw [e] at h
    cases h
  | some j =>
    rw [e] at h
    exact r.get h
theorem atI_ints {ns : List Int} {i n : Int} (h : L2.atI ns i = some n) : L2.atI (ns.map V.int) i = some (.int n) := by
  unfold L2.atI at *
  rw [List.length_map]
  cases e : ixN ns.length i with
  | none =>
    rw [e] at h
    cases h
  | some j =>
    rw [e] at h
    have h' : ns[j]? = some n := h
    show (ns.map V.int)[j]? = _
    rw [List.getElem?_map, h']
    rfl
theorem ok_ix : Ok2 K (rIx K) gIx := by
  intro F B H σ ρ x y dx dy sv Q R hx hy hg q
  unfold gIx at hg
  split at hg
  · rename_i l i
    obtain ⟨a, xs, rfl, h1, r1⟩ := hx.lst R.exB
    cases e : atI l i with
    | none =>
      rw [e] at hg
      cases hg
    | some d =>
      rw [e] at hg
      cases hg
      obtain ⟨v, hv, rv⟩ := r1.atI e
      exact .inl ⟨a, xs, i, v, rfl, hy.int, SqL.of h1, hv, q v B H R (Same.refl _) (.sh rv)⟩
  · rename_i l i
    obtain ⟨a, xs, rfl, h1, r1⟩ := hx.tup R.exB
    cases e : atI l i with
    | none =>
      rw [e] at hg
      cases hg
    | some d =>
      rw [e] at hg
      cases hg
      obtain ⟨v, hv, rv⟩ := r1.atI e
      exact .inr (.inl ⟨a, xs, i, v, rfl, hy.int, h1, hv, q v B H R (Same.refl _) (.sh rv)⟩)
  · rename_i l i
    obtain ⟨a, rfl, h1⟩ := hx.scr R.exB
    cases e : atI l i with
    | none =>
      rw [e] at hg
      cases hg
    | some d =>
      rw [e] at hg
      cases hg
      exact .inl ⟨a, _, i, _, rfl, hy.int, h1, atI_ints e, q _ B H R (Same.refl _) (.sh (.int _))⟩
  · rename_i s i
    split at hg
    · rename_i hl
      cases e : atI s.cps.toList i with
      | none =>
        rw [e] at hg
        cases hg
      | some c =>
        rw [e] at hg
        cases hg
        exact .inr (.inr ⟨s, i, c, hx.str, hy.int, mill_le hl, e, q _ B H R (Same.refl _) (.sh (.str _))⟩)
    · cases hg
  · cases hg
end
section
variable {cv : Nat → Value} {X : Cx} {W : WX} {a b e : Expr} {es : List Expr} {ta tb te : TE} {ts : TA} {fa fb : M Op} {fs : M (List Op)} {f : M SV} {pos p p2 : Pos}
theorem snd_ix (ha : SndO cv X W a ta fa) (hb : SndO cv X W b tb fb) (hs : PlainIx b) : SndE cv X W (.Subscript a b pos) (tOp (rIx X.K) ta tb) (vOp2 gIx fa fb) := ⟨pe_ix ix_seq ha.pe hb.pe hs, adm_op2 ok_ix ha hb⟩

/-! ### slices -/
structure SndP (cv : Nat → Value) (X : Cx) (W : WX) (e : Option Expr) (t : TO) (m : M (Option Int)) : Prop where
  po : PO X e t
  ad : Adm cv W X.K t m (fun _ _ _ _ _ o o' => o = o')
def pNo : M (Option Int) := ret none
def pIn (f : M SV) : M (Option Int) := bnd f fun sv ρ => match sv with
  | .sh (.int i) => some (.ok (some i) ρ)
  | _ => none
theorem snp_no : SndP cv X W none tNoPart pNo := ⟨po_none, fun F B H σ ρ Q R q => q none B H R (Same.refl _) rfl⟩
theorem snp_in (h : SndE cv X W e te f) : SndP cv X W (some e) (tPart te) (pIn f) := by
  refine ⟨po_some h.pe, fun F B H σ ρ Q R q => ?_⟩
  refine h.ad F B H σ ρ _ R (wpm_mono (wpm_bnd q) (fun sv ρ1 q v B1 H1 R1 sm1 rv => ?_) fun _ _ q => q)
  unfold wpm at q
  split at q
  · exact q.elim
  · rename_i e1
    split at e1
    · cases e1
      cases rv with
      | sh r =>
        cases r
        exact ⟨_, rfl, q _ B1 H1 R1 sm1 rfl⟩
    · cases e1
  · rename_i e1
    split at e1 <;> cases e1
def cutD {α : Type} (xs : List α) (lo hi : Option Int) : List α := (xs.drop (HT.sIx xs.length 0 lo)).take (HT.sIx xs.length xs.length hi - HT.sIx xs.length 0 lo)
def gSl (x : D) (lo hi : Option Int) : Option SV := match x with
  | .lst l => some (.fr (cutD l lo hi))
  | .tup l => if HT.sIx l.length 0 lo = 0 ∧ HT.sIx l.length l.length hi = l.length then none else some (.sh (.tup (cutD l lo hi)))
  | .str s => if s.length ≤ 1000000 then some (.sh (.str (cutS s lo hi))) else none
  | _ => none
def vSl (a : M Op) (lo hi : M (Option Int)) : M SV := bnd a fun x => bnd lo fun l => bnd hi fun h => lift1 (fun d => gSl d l h) x
def rSl3 (K : PySem.W.Frag) : V → Option Int → Option Int → Hp → VK → Prop := fun x lo hi H Q => rSlL K x lo hi H Q ∨ (rSlT K x lo hi H Q ∨ rSlS x lo hi H Q)
theorem sl3 : SlR X (rSl3 X.K) := SlR.or sl_list (SlR.or sl_tup sl_str)
theorem RepL.cut {K : PySem.W.Frag} {H : Hp} {xs : List V} {ds : List D} (r : RepL K H xs ds) (lo hi : Option Int) : RepL K H (cutV xs lo hi) (cutD ds lo hi) := by
  unfold cutV cutD
  rw [r.length]
  exact (r.drop _).take _
theorem snd_sl {lo hi : Option Expr} {tl th : TO} {ml mh : M (Option Int)} (ha : SndO cv X W a ta fa) (hl : SndP cv X W lo tl ml) (hh : SndP cv X W hi th mh) :
    SndE cv X W (.Subscript a (.Slice lo hi none p2) pos) (tSl (rSl3 X.K) ta tl th) (vSl fa ml mh) := by
  refine ⟨pe_slice sl3 ha.pe hl.po hh.po, fun F B H σ ρ Q R q => ?_⟩
  refine ha.ad F B H σ ρ _ R (wpm_mono (wpm_bnd q) (fun x ρ1 q v B1 H1 R1 sm1 ov => ?_) fun _ _ q => q)
  refine hl.ad F B1 H1 σ ρ1 _ R1 (wpm_mono (wpm_bnd q) (fun l ρ2 q l' B2 H2 R2 sm2 e1 => ?_) fun c ρ2 q B2 H2 R2 sm2 => q B2 H2 R2 (sm1.trans sm2))
  refine hh.ad F B2 H2 σ ρ2 _ R2 (wpm_mono (wpm_bnd q) (fun h ρ3 q h' B3 H3 R3 sm3 e2 => ?_) fun c ρ2 q B2 H2 R2 sm3 => q B2 H2 R2 ((sm1.trans sm2).trans sm3))
  subst e1
  subst e2
  have sm := (sm1.trans sm2).trans sm3
  obtain ⟨d, sv, e3, e4, q⟩ := wpm_lift1 q
  have hx := (ov.mono (sm2.trans sm3)).rep R3 e3
  unfold gSl at e4
  cases d with
  | lst l =>
    cases e4
    obtain ⟨a, xs, rfl, h1, r1⟩ := hx.lst R3.exB
    exact .inl ⟨a, xs, rfl, SqL.of h1, fun p hp => q _ _ _ (R3.new hp) sm (RV.newL R3 hp (r1.cut _ _))⟩
  | tup l =>
    obtain ⟨a, xs, rfl, h1, r1⟩ := hx.tup R3.exB
    by_cases hc : HT.sIx l.length 0 l' = 0 ∧ HT.sIx l.length l.length h' = l.length
    · simp only [if_pos hc] at e4
      cases e4
    · simp only [if_neg hc] at e4
      cases e4
      refine .inr (.inl ⟨a, xs, rfl, h1, by rw [r1.length]; exact hc, fun p hp => ?_⟩)
      obtain ⟨R4, sm4⟩ := R3.newB (o := .tup (cutV xs l' h')) hp
      exact q _ _ _ R4 (sm.trans sm4) (.sh (.tup (.inl upd_same) ((r1.cut _ _).mono sm4 _ _)))
  | str s =>
    by_cases hc : s.length ≤ 1000000
    · simp only [if_pos hc] at e4
      cases e4
      exact .inr (.inr ⟨s, hx.str, mill_le hc, q _ _ _ R3 sm (.sh (.str _))⟩)
    · simp only [if_neg hc] at e4
      cases e4
  | non => cases e4
  | bl _ => cases e4
  | int _ => cases e4
  | scr _ => cases e4
  | dct _ _ => cases e4
  | dck _ _ => cases e4
  | ob _ _ _ => cases e4
  | adr _ => cases e4
  | lv _ => cases e4

/-! ### built-ins -/
theorem snd_bi {id : String} {x : Str} {r : List V → Hp → VK → Prop} {g : List D → Option SV} (hc : CallR X (.builtin id) r) (ok : OkA X.K r g) (hg : Gl X x) (hm : X.mg x = none) (hv : bootBuiltins x = some (.builtin id)) (ha : SndA cv X W (e :: es) ts fs)
    (hn : x ≠ "__name__" := by decide) (hdb : (x == ("__debug__" : Str)) = false := by decide) (he : starEach (e :: es) X.env = (false, eval e X.env) :: starEach es X.env := by rfl) (hpl : (backTo pos (starEach es X.env)).any (·.1) = false := by rfl) :
    SndE cv X W (.Call (.Name x p) (e :: es) [] pos) (tCB r ts) (vBi g fs) := ⟨pe_callB hc hg hm hv ha.pa hn hdb he hpl, adm_bi ok ha⟩
theorem snd_bt {T : String} {x : Str} {r : List V → Hp → VK → Prop} {g : List D → Option SV} (hc : CallR X (.type T) r) (ok : OkA X.K r g) (hg : Gl X x) (hm : X.mg x = none) (hv : bootBuiltins x = some (.type T)) (ha : SndA cv X W (e :: es) ts fs)
    (hn : x ≠ "__name__" := by decide) (hdb : (x == ("__debug__" : Str)) = false := by decide) (he : starEach (e :: es) X.env = (false, eval e X.env) :: starEach es X.env := by rfl) (hpl : (backTo pos (starEach es X.env)).any (·.1) = false := by rfl) :
    SndE cv X W (.Call (.Name x p) (e :: es) [] pos) (tCB r ts) (vBi g fs) := ⟨pe_callTy hc hg hm hv ha.pa hn hdb he hpl, adm_bi ok ha⟩
end
def intL : List D → Option (List Int)
  | [] => some []
  | .int i :: r => (intL r).map (i :: ·)
  | _ => none
def blL : List D → Option (List Bool)
  | [] => some []
  | .bl i :: r => (blL r).map (i :: ·)
  | _ => none
theorem intL_map : ∀ {ds : List D} {ns : List Int}, intL ds = some ns → ds = ns.map D.int
  | [], _, h => by
    cases h
    rfl
  | d :: r, ns, h => by
    unfold intL at h
    split at h
    · contradiction
    · rename_i e
      cases e
      cases q : intL r with
      | none =>
        rw [q] at h
        cases h
      | some ms =>
        rw [q] at h
        cases h
        rw [intL_map q]
        rfl
    · cases h
theorem blL_map : ∀ {ds : List D} {ns : List Bool}, blL ds = some ns → ds = ns.map D.bl
  | [], _, h => by
    cases h
    rfl
  | d :: r, ns, h => by
    unfold blL at h
    split at h
    · contradiction
    · rename_i e
      cases e
      cases q : blL r with
      | none =>
        rw [q] at h
        cases h
      | some ms =>
        rw [q] at h
        cases h
        rw [blL_map q]
        rfl
    · cases h
theorem RepL.of_ints {K : PySem.W.Frag} {H : Hp} : ∀ {ns : List Int} {xs : List V}, RepL K H xs (ns.map D.int) → xs = ns.map V.int
  | [], _, .nil => rfl
  | n :: ns, _, .cons h t => by
    cases h
    rw [RepL.of_ints t]
    rfl
theorem RepL.of_bls {K : PySem.W.Frag} {H : Hp} : ∀ {ns : List Bool} {xs : List V}, RepL K H xs (ns.map D.bl) → xs = ns.map V.bl
  | [], _, .nil => rfl
  | n :: ns, _, .cons h t => by
    cases h
    rw [RepL.of_bls t]
    rfl
def gLen : List D → Option SV
  | [.lst l] => some (.sh (.int l.length))
  | [.tup l] => some (.sh (.int l.length))
  | [.scr l] => some (.sh (.int l.length))
  | [.str s] => if s.length ≤ 1000000 then some (.sh (.int s.length)) else none
  | _ => none
def gAbs : List D → Option SV
  | [.int i] => some (.sh (.int (if i < 0 then -i else i)))
  | _ => none
def gMax : List D → Option SV
  | [.int i, .int j] => some (.sh (.int (if j > i then j else i)))
  | _ => none
def gMin : List D → Option SV
  | [.int i, .int j] => some (.sh (.int (if j < i then j else i)))
  | _ => none
def gInt : List D → Option SV
  | [.int i] => some (.sh (.int i))
  | [.bl k] => some (.sh (.int (if k then 1 else 0)))
  | _ => none
def gStr : List D → Option SV
  | [.int i] => if i.natAbs.log2 < 1920 then some (.sh (.str (toString i))) else none
  | _ => none
def gAll : List D → Option SV
  | [.lst l] => (blL l).map fun bs => .sh (.bl (bs.all id))
  | _ => none
def gAny : List D → Option SV
  | [.lst l] => (blL l).map fun bs => .sh (.bl (bs.any id))
  | _ => none
def gSum : List D → Option SV
  | [.lst l] => (intL l).map fun ns => .sh (.int ns.sum)
  | _ => none
def gListOf : List D → Option SV
  | [.lst l] => some (.fr l)
  | [.tup l] => some (.fr l)
  | [.scr l] => some (.fr (l.map .int))
  | _ => none
section
variable {K : PySem.W.Frag}
theorem OpReps.one {B H : Hp} {xs : List V} {d : D} (h : OpReps K B H xs [d]) : ∃ v, xs = [v] ∧ OpRep K B H v d := by
  cases h with
  | cons h t =>
    cases t
    exact ⟨_, rfl, h⟩
theorem OpReps.two {B H : Hp} {xs : List V} {d e : D} (h : OpReps K B H xs [d, e]) : ∃ v w, xs = [v, w] ∧ OpRep K B H v d ∧ OpRep K B H w e := by
  cases h with
  | cons h t =>
    obtain ⟨w, rfl, r⟩ := t.one
    exact ⟨_, w, rfl, h, r⟩
theorem ok_len : OkA K (fun xs H Q => ∃ x n, xs = [x] ∧ LenV K x H n ∧ Q (.int n) H) gLen := by
  intro F B H σ ρ xs ds sv Q R hx hg q
  unfold gLen at hg
  split at hg
  · cases hg
    obtain ⟨v, rfl, r⟩ := hx.one
    obtain ⟨a, ys, rfl, h1, r1⟩ := r.lst R.exB
    exact ⟨_, _, rfl, .inl ⟨ys, SqL.of h1, r1.length.symm⟩, q _ B H R (Same.refl _) (.sh (.int _))⟩
  · cases hg
    obtain ⟨v, rfl, r⟩ := hx.one
    obtain ⟨a, ys, rfl, h1, r1⟩ := r.tup R.exB
    exact ⟨_, _, rfl, .inr ⟨ys, h1, r1.length.symm⟩, q _ B H R (Same.refl _) (.sh (.int _))⟩
  · cases hg
    obtain ⟨v, rfl, r⟩ := hx.one
    obtain ⟨a, rfl, h1⟩ := r.scr R.exB
    exact ⟨_, _, rfl, .inl ⟨_, h1, by rw [List.length_map]⟩, q _ B H R (Same.refl _) (.sh (.int _))⟩
  · split at hg
    · rename_i hl
      cases hg
      obtain ⟨v, rfl, r⟩ := hx.one
      cases r.str
      exact ⟨_, _, rfl, ⟨mill_le hl, rfl⟩, q _ B H R (Same.refl _) (.sh (.int _))⟩
    · cases hg
  · cases hg
theorem ok_abs : OkA K (fun xs H Q => ∃ i, xs = [.int i] ∧ Q (.int (if i < 0 then -i else i)) H) gAbs := by
  intro F B H σ ρ xs ds sv Q R hx hg q
  unfold gAbs at hg
  split at hg
  · cases hg
    obtain ⟨v, rfl, r⟩ := hx.one
    cases r.int
    exact ⟨_, rfl, q _ B H R (Same.refl _) (.sh (.int _))⟩
  · cases hg
theorem ok_max : OkA K (fun xs H Q => ∃ i j, xs = [.int i, .int j] ∧ Q (.int (if j > i then j else i)) H) gMax := by
  intro F B H σ ρ xs ds sv Q R hx hg q
  unfold gMax at hg
  split at hg
  · cases hg
    obtain ⟨v, w, rfl, r, r'⟩ := hx.two
    cases r.int
    cases r'.int
    exact ⟨_, _, rfl, q _ B H R (Same.refl _) (.sh (.int _))⟩
  · cases hg
theorem ok_min : OkA K (fun xs H Q => ∃ i j, xs = [.int i, .int j] ∧ Q (.int (if j < i then j else i)) H) gMin := by
  intro F B H σ ρ xs ds sv Q R hx hg q
  unfold gMin at hg
  split at hg
  · cases hg
    obtain ⟨v, w, rfl, r, r'⟩ := hx.two
    cases r.int
    cases r'.int
    exact ⟨_, _, rfl, q _ B H R (Same.refl _) (.sh (.int _))⟩
  · cases hg
theorem ok_int : OkA K (fun xs H Q => (∃ i, xs = [.int i] ∧ Q (.int i) H) ∨ ∃ k, xs = [.bl k] ∧ Q (.int (if k then 1 else 0)) H) gInt := by
  intro F B H σ ρ xs ds sv Q R hx hg q
  unfold gInt at hg
  split at hg
  · cases hg
    obtain ⟨v, rfl, r⟩ := hx.one
    cases r.int
    exact .inl ⟨_, rfl, q _ B H R (Same.refl _) (.sh (.int _))⟩
  · cases hg
    obtain ⟨v, rfl, r⟩ := hx.one
    cases r.bl
    exact .inr ⟨_, rfl, q _ B H R (Same.refl _) (.sh (.int _))⟩
  · cases hg
theorem ok_str : OkA K (fun xs H Q => ∃ i, xs = [.int i] ∧ i.natAbs.log2 < 1920 ∧ Q (.str (toString i)) H) gStr := by
  intro F B H σ ρ xs ds sv Q R hx hg q
  unfold gStr at hg
  split at hg
  · split at hg
    · rename_i hl
      cases hg
      obtain ⟨v, rfl, r⟩ := hx.one
      cases r.int
      exact ⟨_, rfl, hl, q _ B H R (Same.refl _) (.sh (.str _))⟩
    · cases hg
  · cases hg
theorem ok_all : OkA K (rAll K) gAll := by
  intro F B H σ ρ xs ds sv Q R hx hg q
  unfold gAll at hg
  split at hg
  · rename_i l
    cases e : blL l with
    | none =>
      rw [e] at hg
      cases hg
    | some bs =>
      rw [e] at hg
      cases hg
      obtain ⟨v, rfl, r⟩ := hx.one
      obtain ⟨a, ys, rfl, h1, r1⟩ := r.lst R.exB
      rw [blL_map e] at r1
      rw [r1.of_bls] at h1
      exact ⟨a, bs, rfl, SqL.of h1, q _ B H R (Same.refl _) (.sh (.bl _))⟩
  · cases hg
theorem ok_any : OkA K (rAny K) gAny := by
  intro F B H σ ρ xs ds sv Q R hx hg q
  unfold gAny at hg
  split at hg
  · rename_i l
    cases e : blL l with
    | none =>
      rw [e] at hg
      cases hg
    | some bs =>
      rw [e] at hg
      cases hg
      obtain ⟨v, rfl, r⟩ := hx.one
      obtain ⟨a, ys, rfl, h1, r1⟩ := r.lst R.exB
      rw [blL_map e] at r1
      rw [r1.of_bls] at h1
      exact ⟨a, bs, rfl, SqL.of h1, q _ B H R (Same.refl _) (.sh (.bl _))⟩
  · cases hg
theorem ok_sum : OkA K (rSum K) gSum := by
  intro F B H σ ρ xs ds sv Q R hx hg q
  unfold gSum at hg
  split at hg
  · rename_i l
    cases e : intL l with
    | none =>
      rw [e] at hg
      cases hg
    | some bs =>
      rw [e] at hg
      cases hg
      obtain ⟨v, rfl, r⟩ := hx.one
      obtain ⟨a, ys, rfl, h1, r1⟩ := r.lst R.exB
      rw [intL_map e] at r1
      rw [r1.of_ints] at h1
      exact ⟨a, bs, rfl, SqL.of h1, q _ B H R (Same.refl _) (.sh (.int _))⟩
  · cases hg
theorem ok_listOf : OkA K (fun xs H Q => ∃ p ys, xs = [.ref p] ∧ (SqL K H p ys ∨ SqT K H p ys) ∧ ∀ l, H l = none → Q (.ref l) (upd H l (.lst ys))) gListOf := by
  intro F B H σ ρ xs ds sv Q R hx hg q
  unfold gListOf at hg
  split at hg
  · cases hg
    obtain ⟨v, rfl, r⟩ := hx.one
    obtain ⟨a, ys, rfl, h1, r1⟩ := r.lst R.exB
    exact ⟨a, ys, rfl, .inl (SqL.of h1), fun p hp => q _ _ _ (R.new hp) (Same.refl _) (RV.newL R hp r1)⟩
  · cases hg
    obtain ⟨v, rfl, r⟩ := hx.one
    obtain ⟨a, ys, rfl, h1, r1⟩ := r.tup R.exB
    exact ⟨a, ys, rfl, .inr h1, fun p hp => q _ _ _ (R.new hp) (Same.refl _) (RV.newL R hp r1)⟩
  · cases hg
    obtain ⟨v, rfl, r⟩ := hx.one
    obtain ⟨a, rfl, h1⟩ := r.scr R.exB
    exact ⟨a, _, rfl, .inl h1, fun p hp => q _ _ _ (R.new hp) (Same.refl _) (RV.newL R hp (RepL.ints _))⟩
  · cases hg
end

/-! ### isinstance of built-in classes -/
def tyN : D → String
  | .non => "NoneType"
  | .bl _ => "bool"
  | .int _ => "int"
  | .str _ => "str"
  | .tup _ => "tuple"
  | .lst _ => "list"
  | .scr _ => "list"
  | .dct _ _ => "NoneType"
  | .dck _ _ => "NoneType"
  | .ob _ _ _ => "NoneType"
  | .adr _ => "NoneType"
  | .lv _ => "NoneType"
def exo : D → Bool
  | .dct _ _ => true
  | .dck _ _ => true
  | .ob _ _ _ => true
  | .adr _ => true
  | .lv _ => true
  | _ => false
theorem OpRep.ty {K : PySem.W.Frag} {B H : Hp} {v : V} {d : D} (e : Same B H) (hx : exo d = false) (h : OpRep K B H v d) : TyX K H v (.type (tyN d)) := by
  have r := h.rep e
  cases r with
  | non => exact .base .non
  | bl b => exact .base (.bl b)
  | int i => exact .base (.int i)
  | str s => exact .base (.str s)
  | tup g _ =>
    rcases g with g | ⟨o, its, n, g, hc, _⟩
    · exact .base (.tup g)
    · exact .kTuple g hc
  | lst g _ => exact .base (.lst g)
  | scr g =>
    rcases g with (g | ⟨o, g⟩) | ⟨o, its, n, g, hc, _⟩
    · exact .base (.lst g)
    · exact .base (.frz g)
    · exact .kList g hc
  | dct _ _ _ => cases hx
  | dck _ _ _ => cases hx
  | ob _ _ _ _ => cases hx
  | adr _ => cases hx
  | lv _ => cases hx
def isInt : D → Bool
  | .int _ => true
  | .bl _ => true
  | _ => false
def isBl : D → Bool
  | .bl _ => true
  | _ => false
def isTup : D → Bool
  | .tup _ => true
  | _ => false
def isLst : D → Bool
  | .lst _ => true
  | .scr _ => true
  | _ => false
def isStr : D → Bool
  | .str _ => true
  | _ => false
theorem kb_int_NoneType : kitB "NoneType" "int" = some false := by decide +kernel
theorem kb_int_bool : kitB "bool" "int" = some true := by decide +kernel
theorem kb_int_int : kitB "int" "int" = some true := by decide +kernel
theorem kb_int_str : kitB "str" "int" = some false := by decide +kernel
theorem kb_int_tuple : kitB "tuple" "int" = some false := by decide +kernel
theorem kb_int_list : kitB "list" "int" = some false := by decide +kernel
theorem kit_int (d : D) : kitB (tyN d) "int" = some (isInt d) := match d with
  | .non => kb_int_NoneType
  | .bl _ => kb_int_bool
  | .int _ => kb_int_int
  | .str _ => kb_int_str
  | .tup _ => kb_int_tuple
  | .lst _ => kb_int_list
  | .scr _ => kb_int_list
  | .dct _ _ => kb_int_NoneType
  | .dck _ _ => kb_int_NoneType
  | .ob _ _ _ => kb_int_NoneType
  | .adr _ => kb_int_NoneType
  | .lv _ => kb_int_NoneType
theorem kb_bl_NoneType : kitB "NoneType" "bool" = some false := by decide +kernel
theorem kb_bl_bool : kitB "bool" "bool" = some true := by decide +kernel
theorem kb_bl_int : kitB "int" "bool" = some false := by decide +kernel
theorem kb_bl_str : kitB "str" "bool" = some false := by decide +kernel
theorem kb_bl_tuple : kitB "tuple" "bool" = some false := by decide +kernel
theorem kb_bl_list : kitB "list" "bool" = some false := by decide +kernel
theorem kit_bl (d : D) : kitB (tyN d) "bool" = some (isBl d) := match d with
  | .non => kb_bl_NoneType
  | .bl _ => kb_bl_bool
  | .int _ => kb_bl_int
  | .str _ => kb_bl_str
  | .tup _ => kb_bl_tuple
  | .lst _ => kb_bl_list
  | .scr _ => kb_bl_list
  | .dct _ _ => kb_bl_NoneType
  | .dck _ _ => kb_bl_NoneType
  | .ob _ _ _ => kb_bl_NoneType
  | .adr _ => kb_bl_NoneType
  | .lv _ => kb_bl_NoneType
theorem kb_tup_NoneType : kitB "NoneType" "tuple" = some false := by decide +kernel
theorem kb_tup_bool : kitB "bool" "tuple" = some false := by decide +kernel
theorem kb_tup_int : kitB "int" "tuple" = some false := by decide +kernel
theorem kb_tup_str : kitB "str" "tuple" = some false := by decide +kernel
theorem kb_tup_tuple : kitB "tuple" "tuple" = some true := by decide +kernel
theorem kb_tup_list : kitB "list" "tuple" = some false := by decide +kernel
theorem kit_tup (d : D) : kitB (tyN d) "tuple" = some (isTup d) := match d with
  | .non => kb_tup_NoneType
  | .bl _ => kb_tup_bool
  | .int _ => kb_tup_int
  | .str _ => kb_tup_str
  | .tup _ => kb_tup_tuple
  | .lst _ => kb_tup_list
  | .scr _ => kb_tup_list
  | .dct _ _ => kb_tup_NoneType
  | .dck _ _ => kb_tup_NoneType
  | .ob _ _ _ => kb_tup_NoneType
  | .adr _ => kb_tup_NoneType
  | .lv _ => kb_tup_NoneType
theorem kb_lst_NoneType : kitB "NoneType" "list" = some false := by decide +kernel
theorem kb_lst_bool : kitB "bool" "list" = some false := by decide +kernel
theorem kb_lst_int : kitB "int" "list" = some false := by decide +kernel
theorem kb_lst_str : kitB "str" "list" = some false := by decide +kernel
theorem kb_lst_tuple : kitB "tuple" "list" = some false := by decide +kernel
theorem kb_lst_list : kitB "list" "list" = some true := by decide +kernel
theorem kit_lst (d : D) : kitB (tyN d) "list" = some (isLst d) := match d with
  | .non => kb_lst_NoneType
  | .bl _ => kb_lst_bool
  | .int _ => kb_lst_int
  | .str _ => kb_lst_str
  | .tup _ => kb_lst_tuple
  | .lst _ => kb_lst_list
  | .scr _ => kb_lst_list
  | .dct _ _ => kb_lst_NoneType
  | .dck _ _ => kb_lst_NoneType
  | .ob _ _ _ => kb_lst_NoneType
  | .adr _ => kb_lst_NoneType
  | .lv _ => kb_lst_NoneType
theorem kb_str_NoneType : kitB "NoneType" "str" = some false := by decide +kernel
theorem kb_str_bool : kitB "bool" "str" = some false := by decide +kernel
theorem kb_str_int : kitB "int" "str" = some false := by decide +kernel
theorem kb_str_str : kitB "str" "str" = some true := by decide +kernel
theorem kb_str_tuple : kitB "tuple" "str" = some false := by decide +kernel
theorem kb_str_list : kitB "list" "str" = some false := by decide +kernel
theorem kit_str (d : D) : kitB (tyN d) "str" = some (isStr d) := match d with
  | .non => kb_str_NoneType
  | .bl _ => kb_str_bool
  | .int _ => kb_str_int
  | .str _ => kb_str_str
  | .tup _ => kb_str_tuple
  | .lst _ => kb_str_list
  | .scr _ => kb_str_list
  | .dct _ _ => kb_str_NoneType
  | .dck _ _ => kb_str_NoneType
  | .ob _ _ _ => kb_str_NoneType
  | .adr _ => kb_str_NoneType
  | .lv _ => kb_str_NoneType
def gIs (p : D → Bool) (d : D) : Option SV := if exo d = true then none else some (.sh (.bl (p d)))
def vIs (p : D → Bool) (a : M Op) : M SV := vOp1 (gIs p) a
section
variable {cv : Nat → Value} {X : Cx} {W : WX} {a : Expr} {ta : TE} {fa : M Op} {pos pp pt : Pos}
theorem snd_is {T : String} {x : Str} {p : D → Bool} (kt : ∀ d, kitB (tyN d) T = some (p d)) (hgi : Gl X "isinstance") (hmi : X.mg "isinstance" = none) (hg : Gl X x) (hm : X.mg x = none) (hv : bootBuiltins x = some (.type T)) (ha : SndO cv X W a ta fa)
    (hn : x ≠ "__name__" := by decide) (hd : (x == ("__debug__" : Str)) = false := by decide)
    (he : starEach [a, .Name x pt] X.env = (false, eval a X.env) :: starEach [.Name x pt] X.env := by rfl) (he1 : starEach [.Name x pt] X.env = (false, eval (.Name x pt) X.env) :: starEach [] X.env := by rfl)
    (hpl : (backTo pos (starEach [.Name x pt] X.env)).any (·.1) = false := by rfl) :
    SndE cv X W (.Call (.Name "isinstance" pp) [a, .Name x pt] [] pos) (tCB (rIsi X.K) (tCons ta (tCons (tC (.ty T)) tNil))) (vIs p fa) := by
  refine ⟨pe_callB call_isi hgi hmi boot_isinstance (pa_cons ha.pe (pa_cons (pe_bltn hg hm hv rfl hn hd) pa_nil he1) he) (by decide) (by decide) he hpl, fun F B H σ ρ Q R q => ?_⟩
  refine ha.ad F B H σ ρ _ R (wpm_mono (wpm_bnd q) (fun o ρ1 q v B1 H1 R1 sm1 ov => ?_) fun _ _ q => q)
  unfold wpm lift1 at q
  cases e1 : get ρ1 o with
  | none =>
    rw [e1] at q
    exact q.elim
  | some d =>
    rw [e1] at q
    by_cases hx : exo d = true
    · have e2 : gIs p d = none := if_pos hx
      simp only [e1, e2] at q
      exact q.elim
    · have e2 : gIs p d = some (.sh (.bl (p d))) := if_neg hx
      simp only [e1, e2] at q
      exact ⟨v, .ty T, _, _, p d, rfl, .ty T, (ov.rep R1 e1).ty R1.exB (by simpa using hx), kit_ty (kt d), q _ B1 H1 R1 sm1 (.sh (.bl _))⟩
end
end Sim

namespace Sim
open PySem PySem.Spec PyProof.Rows L2

/-! ### calls of the text's own defs -/
inductive CR where
  | ret (r : SV) (out : List D)
  | exc (c : Nat) (out : List D)
structure CallIn (K : PySem.W.Frag) (F B H : Hp) (io : Option Nat) (vs : List V) (ds : List D) (oa : Option Addr) : Prop where
  len : vs.length = ds.length
  sh : ∀ i v d, vs[i]? = some v → ds[i]? = some d → io ≠ some i → Rep K B v d
  inn : ∀ i, io = some i → ∃ a xs l, vs[i]? = some (.ref a) ∧ ds[i]? = some (.lst l) ∧ oa = some a ∧ F a = none ∧ B a = none ∧ H a = some (.lst xs) ∧ RepL K B xs l
  no : io = none → oa = none
def CallOut (K : PySem.W.Frag) (B H : Hp) (oa : Option Addr) (out : List D) : Prop := ∀ a, oa = some a → B a = none ∧ ∃ xs, H a = some (.lst xs) ∧ RepL K B xs out
inductive CallRet (K : PySem.W.Frag) (F B H : Hp) (oa : Option Addr) : V → SV → Prop
  | sh {v : V} {d : D} (r : Rep K B v d) : CallRet K F B H oa v (.sh d)
  | fr {a : Addr} {o : HO} {xs : List V} {c : OC} (hF : F a = none) (hB : B a = none) (hH : H a = some o) (hO : c.At K o xs) (r : RepL K B xs c.ds) (no : oa ≠ some a) : CallRet K F B H oa (.ref a) (.ow c)
def SpOut (cv : Nat → Value) (K : PySem.W.Frag) (F B H : Hp) (oa : Option Addr) (Q : VK) (E : XK) : CR → Prop
  | .ret r out => ∀ v B' H', Same B B' → Same B' H' → Same F H' → (∀ a o, F a = some o → B' a = none) → CallOut K B' H' oa out → CallRet K F B' H' oa v r → Q v H'
  | .exc c out => ∀ B' H', Same B B' → Same B' H' → Same F H' → (∀ a o, F a = some o → B' a = none) → CallOut K B' H' oa out → E (cv c) none H'
/-- the promise: what Φ tells of the arguments' data -/
def spI (cv : Nat → Value) (K : PySem.W.Frag) (n : Nat) (io : Option Nat) (Φ : List D → Option CR) : Sp := fun vs H Q E => vs.length = n ∧
  ∃ (ds : List D) (res : CR) (F B : Hp) (oa : Option Addr), Φ ds = some res ∧ Same B H ∧ Same F H ∧ (∀ a o, F a = some o → B a = none) ∧ CallIn K F B H io vs ds oa ∧ SpOut cv K F B H oa Q E res

def decO : Option Nat → Option Nat
  | some (k + 1) => some k
  | _ => none
def brs : Option Nat → List Op → List Nat
  | _, [] => []
  | io, .val _ :: os => brs (decO io) os
  | some 0, .slot _ :: os => brs none os
  | some (k + 1), .slot i :: os => i :: brs (some k) os
  | none, .slot i :: os => i :: brs none os
def ioSlot : Option Nat → List Op → Option Nat
  | some 0, .slot i :: _ => some i
  | some (k + 1), _ :: os => ioSlot (some k) os
  | _, _ => none
def isFr (ρ : Sl) (i : Nat) : Bool := match ρ[i]? with
  | some (some (.ow (.lst _))) => true
  | _ => false
def isOw (ρ : Sl) (i : Nat) : Bool := match ρ[i]? with
  | some (some (.ow _)) => true
  | _ => false
def resT : CR → Bool
  | .ret (.sh d) out => isT d && isTL out
  | .ret (.ow c) out => isTL c.ds && isTL out
  | .exc _ out => isTL out
def resL : CR → Bool
  | .ret (.sh d) out => isL d && isLL out
  | .ret (.ow c) out => isLL c.ds && isLL out
  | .exc _ out => isLL out
def ioOk (io : Option Nat) (os : List Op) (ρ : Sl) : Bool := match io with
  | none => true
  | some _ => match ioSlot io os with
    | some i => isFr ρ i && !(brs io os).contains i
    | none => false
def noBr (io : Option Nat) (os : List Op) (ρ : Sl) : Bool := (brs io os).all fun j => !isOw ρ j
def noBrL (io : Option Nat) (os : List Op) (ρ : Sl) : Bool := (brs io os).all fun j => !isFr ρ j
def resOk (io : Option Nat) (os : List Op) (ρ : Sl) (res : CR) : Bool := resT res || (noBrL io os ρ && resL res)
def putO (io : Option Nat) (os : List Op) (out : List D) (ρ : Sl) : Sl := match ioSlot io os with
  | some i => ρ.set i (some (.fr out))
  | none => ρ
def outOf (io : Option Nat) (os : List Op) (ρ : Sl) : CR → Out SV
  | .ret r out => .ok r (putO io os out ρ)
  | .exc c out => .ex c (putO io os out ρ)
def callM (io : Option Nat) (Φ : List D → Option CR) (os : List Op) : M SV := fun ρ => match gets ρ os with
  | none => none
  | some ds => match Φ ds with
    | none => none
    | some res => if (ioOk io os ρ && (noBr io os ρ || resOk io os ρ res)) = true then some (outOf io os ρ res) else none

theorem isFr_owns {K : PySem.W.Frag} {F B H : Hp} {σ : L2.St} {ρ : Sl} (R : Rel K F B H σ ρ) {i : Nat} (h : isFr ρ i = true) : ∃ a, Owns σ ρ i a := by
  unfold isFr at h
  split at h
  · rename_i l e
    obtain ⟨a, hs, _⟩ := R.move e
    exact ⟨a, ⟨_, e⟩, hs⟩
  · cases h
theorem owns_isOw {σ : L2.St} {ρ : Sl} {i : Nat} {a : Addr} (h : Owns σ ρ i a) : isOw ρ i = true := by
  obtain ⟨⟨ds, e⟩, _⟩ := h
  unfold isOw
  rw [e]
theorem OC.not_tup {K : PySem.W.Frag} {ys xs : List V} : ∀ {c : OC}, c.At K (.tup ys) xs → False
  | .lst _, h => by
    have h : HO.tup ys = .lst xs := h
    cases h
  | .dk _ _, h => by
    obtain ⟨h, _⟩ := h
    cases h
  | .dt _ _, h => by
    obtain ⟨h, _⟩ := h
    cases h
  | .ob _ _ _, h => by
    obtain ⟨_, _, _, h, _⟩ := h
    cases h
theorem OC.is_lst {K : PySem.W.Frag} {ys xs : List V} : ∀ {c : OC}, c.At K (.lst ys) xs → ∃ l, c = .lst l
  | .lst l, _ => ⟨l, rfl⟩
  | .dk _ _, h => by
    obtain ⟨h, _⟩ := h
    cases h
  | .dt _ _, h => by
    obtain ⟨h, _⟩ := h
    cases h
  | .ob _ _ _, h => by
    obtain ⟨_, _, _, h, _⟩ := h
    cases h
theorem gets_at {ρ : Sl} : ∀ {os : List Op} {ds : List D} {i : Nat} {d : D}, gets ρ os = some ds → ds[i]? = some d → ∃ o, os[i]? = some o ∧ get ρ o = some d
  | [], ds, i, d, h, e => by
    cases h
    simp at e
  | o :: os, ds, i, d, h, e => by
    unfold gets at h
    cases e1 : get ρ o with
    | none =>
      rw [e1] at h
      cases h
    | some x =>
      cases e2 : gets ρ os with
      | none =>
        rw [e1, e2] at h
        cases h
      | some xs =>
        rw [e1, e2] at h
        cases h
        cases i with
        | zero =>
          cases e
          exact ⟨o, rfl, e1⟩
        | succ i => exact gets_at (os := os) e2 e
theorem gets_len {ρ : Sl} : ∀ {os : List Op} {ds : List D}, gets ρ os = some ds → ds.length = os.length
  | [], ds, h => by
    cases h
    rfl
  | o :: os, ds, h => by
    unfold gets at h
    cases e1 : get ρ o with
    | none =>
      rw [e1] at h
      cases h
    | some x =>
      cases e2 : gets ρ os with
      | none =>
        rw [e1, e2] at h
        cases h
      | some xs =>
        rw [e1, e2] at h
        cases h
        rw [List.length_cons, List.length_cons, gets_len e2]
theorem OpVs.length {K : PySem.W.Frag} {B : Hp} {σ : L2.St} : ∀ {vs : List V} {os : List Op}, OpVs K B σ vs os → vs.length = os.length
  | _, _, .nil => rfl
  | _, _, .cons _ t => by rw [List.length_cons, List.length_cons, OpVs.length t]
theorem OpVs.at {K : PySem.W.Frag} {B : Hp} {σ : L2.St} : ∀ {vs : List V} {os : List Op} {i : Nat} {o : Op}, OpVs K B σ vs os → os[i]? = some o → ∃ v, vs[i]? = some v ∧ OpV K B σ v o
  | _, _, _, _, .nil, h => by simp at h
  | _, _, 0, _, .cons r _, h => by simp at h; subst h; exact ⟨_, rfl, r⟩
  | _, _, i + 1, d, .cons _ t, h => by
    obtain ⟨v, h1, h2⟩ := OpVs.at (i := i) t (by simpa using h)
    exact ⟨v, by simpa using h1, h2⟩
theorem brs_mem : ∀ {io : Option Nat} {os : List Op} {k i : Nat}, os[k]? = some (.slot i) → io ≠ some k → i ∈ brs io os
  | _, [], _, _, h, _ => by simp at h
  | io, .val d :: os, 0, i, h, _ => by simp at h
  | io, .val d :: os, k + 1, i, h, n => by
    unfold brs
    refine brs_mem (k := k) (by simpa using h) fun e => n ?_
    cases io with
    | none => cases e
    | some j =>
      cases j with
      | zero => cases e
      | succ j =>
        cases e
        rfl
  | some 0, .slot j :: os, 0, i, h, n => (n rfl).elim
  | some 0, .slot j :: os, k + 1, i, h, n => by
    unfold brs
    exact brs_mem (k := k) (by simpa using h) (by simp)
  | some (m + 1), .slot j :: os, 0, i, h, n => by
    unfold brs
    simp at h
    subst h
    exact List.mem_cons_self
  | some (m + 1), .slot j :: os, k + 1, i, h, n => by
    unfold brs
    exact List.mem_cons_of_mem _ (brs_mem (k := k) (by simpa using h) fun e => n (by cases e; rfl))
  | none, .slot j :: os, 0, i, h, n => by
    unfold brs
    simp at h
    subst h
    exact List.mem_cons_self
  | none, .slot j :: os, k + 1, i, h, n => by
    unfold brs
    exact List.mem_cons_of_mem _ (brs_mem (k := k) (by simpa using h) (by simp))
theorem ioSlot_at : ∀ {io : Option Nat} {os : List Op} {i k : Nat}, ioSlot io os = some i → io = some k → os[k]? = some (.slot i)
  | _, .val _ :: _, i, 0, h, e => by
    subst e
    unfold ioSlot at h
    cases h
  | _, .slot j :: _, i, 0, h, e => by
    subst e
    unfold ioSlot at h
    cases h
    rfl
  | _, o :: os, i, k + 1, h, e => by
    subst e
    unfold ioSlot at h
    exact ioSlot_at (k := k) h rfl
  | _, [], i, 0, h, e => by
    subst e
    unfold ioSlot at h
    cases h
  | _, [], i, k + 1, h, e => by
    subst e
    unfold ioSlot at h
    cases h
open Classical in
theorem adm_callM {cv : Nat → Value} {K : PySem.W.Frag} {n : Nat} {io : Option Nat} {Φ : List D → Option CR} {F B H : Hp} {σ : L2.St} {ρ : Sl} {vs : List V} {os : List Op} {Q : VK} {E : XK} (R : Rel K F B H σ ρ) (ov : OpVs K B σ vs os) (hn : os.length = n)
    (q : wpm (callM io Φ os) ρ (fun a ρ' => ∀ v B' H', Rel K F B' H' σ ρ' → Same B B' → RV K F B' H' σ ρ' v a → Q v H') (fun c ρ' => ∀ B' H', Rel K F B' H' σ ρ' → Same B B' → E (cv c) none H')) : spI cv K n io Φ vs H Q E := by
  unfold wpm callM at q
  cases e1 : gets ρ os with
  | none =>
    rw [e1] at q
    exact q.elim
  | some ds =>
    simp only [e1] at q
    cases e2 : Φ ds with
    | none =>
      simp only [e2] at q
    | some res =>
      simp only [e2] at q
      by_cases hc : (ioOk io os ρ && (noBr io os ρ || resOk io os ρ res)) = true
      · rw [if_pos hc] at q
        rw [Bool.and_eq_true] at hc
        obtain ⟨hio, hbr⟩ := hc
        obtain ⟨BJ, hBJ⟩ : ∃ BJ : Addr → Prop, BJ = fun a => ∃ j, j ∈ brs io os ∧ Owns σ ρ j a := ⟨_, rfl⟩
        obtain ⟨OJ, hOJ⟩ : ∃ OJ : Addr → Prop, OJ = fun a => ∃ j, j ∉ brs io os ∧ ioSlot io os ≠ some j ∧ Owns σ ρ j a := ⟨_, rfl⟩
        obtain ⟨B1, hB1⟩ : ∃ B1 : Hp, B1 = fun a => if BJ a then H a else B a := ⟨_, rfl⟩
        obtain ⟨F1, hF1⟩ : ∃ F1 : Hp, F1 = fun a => if OJ a then H a else F a := ⟨_, rfl⟩
        have B1y : ∀ {a}, BJ a → B1 a = H a := fun {a} h => by rw [hB1]; exact if_pos h
        have B1n : ∀ {a}, ¬ BJ a → B1 a = B a := fun {a} h => by rw [hB1]; exact if_neg h
        have F1y : ∀ {a}, OJ a → F1 a = H a := fun {a} h => by rw [hF1]; exact if_pos h
        have F1n : ∀ {a}, ¬ OJ a → F1 a = F a := fun {a} h => by rw [hF1]; exact if_neg h
        have bj : ∀ {a}, BJ a → ∃ j ho c, j ∈ brs io os ∧ Owns σ ρ j a ∧ F a = none ∧ B a = none ∧ H a = some ho ∧ (∃ xs, c.At K ho xs) ∧ ρ[j]? = some (some (.ow c)) := fun {a} h => by
          rw [hBJ] at h
          obtain ⟨j, hj, o⟩ := h
          obtain ⟨ho, xs, l, h1, h2, h3, h4, h5, h6⟩ := o.at R
          exact ⟨j, ho, l, hj, o, h2, h3, h4, ⟨xs, h5⟩, h1⟩
        have oj : ∀ {a}, OJ a → ∃ j ho, j ∉ brs io os ∧ ioSlot io os ≠ some j ∧ Owns σ ρ j a ∧ F a = none ∧ B a = none ∧ H a = some ho := fun {a} h => by
          rw [hOJ] at h
          obtain ⟨j, hj, hi, o⟩ := h
          obtain ⟨ho, xs, l, h1, h2, h3, h4, h5⟩ := o.at R
          exact ⟨j, ho, hj, hi, o, h2, h3, h4⟩
        have sB : Same B B1 := fun a o e => by
          rw [B1n fun z => ?_]
          · exact e
          · obtain ⟨_, _, _, _, _, _, z2, _⟩ := bj z
            rw [e] at z2
            cases z2
        have sBH : Same B1 H := fun a o e => by
          by_cases z : BJ a
          · rw [B1y z] at e
            exact e
          · rw [B1n z] at e
            exact R.exB _ _ e
        have sFH : Same F1 H := fun a o e => by
          by_cases z : OJ a
          · rw [F1y z] at e
            exact e
          · rw [F1n z] at e
            exact R.exF _ _ e
        have sF : Same F F1 := fun a o e => by
          rw [F1n fun z => ?_]
          · exact e
          · obtain ⟨_, _, _, _, _, z1, _⟩ := oj z
            rw [e] at z1
            cases z1
        have dis1 : ∀ a o, F1 a = some o → B1 a = none := fun a o e => by
          by_cases z : OJ a
          · obtain ⟨j, xs, n1, n2, o1, z1, z2, z3⟩ := oj z
            rw [B1n fun y => ?_]
            · exact z2
            · obtain ⟨j', _, _, m, o2, _⟩ := bj y
              have := R.sep _ _ _ o1 o2
              subst this
              exact n1 m
          · rw [F1n z] at e
            rw [B1n fun y => ?_]
            · exact R.dis _ _ e
            · obtain ⟨_, _, _, _, _, z1, _⟩ := bj y
              rw [e] at z1
              cases z1
        -- the slot that is handed in to be changed
        have hS : ∀ k, io = some k → ∃ i a xs l, ioSlot io os = some i ∧ os[k]? = some (.slot i) ∧ Owns σ ρ i a ∧ i ∉ brs io os ∧ σ[i]? = some (some (.ref a)) ∧ ρ[i]? = some (some (.fr l)) ∧ F a = none ∧ B a = none ∧ H a = some (.lst xs) ∧ RepL K B xs l := fun k hk => by
          unfold ioOk at hio
          rw [hk] at hio
          cases e3 : ioSlot (some k) os with
          | none =>
            rw [e3] at hio
            cases hio
          | some i =>
            simp only [e3] at hio
            rw [Bool.and_eq_true] at hio
            obtain ⟨a, o⟩ := isFr_owns R hio.1
            obtain ⟨ho, xs, c, h1, h2, h3, h4, hO, h5⟩ := o.at R
            have hf := hio.1
            unfold isFr at hf
            rw [h1] at hf
            obtain ⟨l, hcl⟩ : ∃ l, c = .lst l := by
              cases c with
              | lst l => exact ⟨l, rfl⟩
              | dk _ _ => cases hf
              | dt _ _ => cases hf
              | ob _ _ _ => cases hf
            subst hcl
            have hO : ho = .lst xs := hO
            subst hO
            have nb : i ∉ brs io os := fun m => by
              have z := hio.2
              rw [← hk, List.elem_eq_contains.symm] at z
              simp only [Bool.not_eq_true', List.elem_eq_mem, decide_eq_false_iff_not] at z
              exact z m
            exact ⟨i, a, xs, l, hk ▸ e3, ioSlot_at e3 rfl, o, nb, o.2, h1, h2, h3, h4, h5⟩
        have hS0 : io = none → ioSlot io os = none := fun h => by
          rw [h]
          unfold ioSlot
          cases os <;> rfl
        obtain ⟨oa, hoa, hoa0⟩ : ∃ oa : Option Addr, (∀ i a, ioSlot io os = some i → Owns σ ρ i a → oa = some a) ∧ (∀ a, oa = some a → ∃ i, ioSlot io os = some i ∧ Owns σ ρ i a) := by
          cases h : io with
          | none =>
            refine ⟨none, fun i a e => ?_, fun a e => by cases e⟩
            rw [← h, hS0 h] at e
            cases e
          | some k =>
            obtain ⟨i, a, xs, l, h1, _, o, _, h2, _⟩ := hS k h
            refine ⟨some a, fun i' a' e o' => ?_, fun a' e => ?_⟩
            · rw [← h, h1] at e
              cases e
              have := o'.2
              rw [h2] at this
              cases this
              rfl
            · cases e
              exact ⟨i, h ▸ h1, o⟩
        have oaN : ∀ {a}, oa = some a → ¬ BJ a ∧ ¬ OJ a ∧ F a = none ∧ B a = none := fun {a} e => by
          obtain ⟨i, h1, o⟩ := hoa0 a e
          obtain ⟨_, xs, l, h2, h3, h4, h5, h6⟩ := o.at R
          refine ⟨fun z => ?_, fun z => ?_, h3, h4⟩
          · obtain ⟨j, _, _, m, o2, _⟩ := bj z
            have := R.sep _ _ _ o o2
            subst this
            cases h : io with
            | none =>
              rw [hS0 h] at h1
              cases h1
            | some k =>
              obtain ⟨i', _, _, _, g1, _, _, g2, _⟩ := hS k h
              rw [h1] at g1
              cases g1
              exact g2 m
          · obtain ⟨j, _, _, n2, o2, _⟩ := oj z
            have := R.sep _ _ _ o o2
            subst this
            exact n2 h1
        have inn : CallIn K F1 B1 H io vs ds oa := by
          refine ⟨by rw [ov.length, gets_len e1], fun i v d hv hd hne => ?_, fun k hk => ?_, fun h => ?_⟩
          · obtain ⟨o, ho, hg⟩ := gets_at e1 hd
            obtain ⟨v', hv', ovv⟩ := ov.at ho
            rw [hv] at hv'
            cases hv'
            cases ovv with
            | val r =>
              cases hg
              exact r.mono sB _ _
            | @slot i' hs =>
              have hg : slotD ρ i' = some d := hg
              unfold slotD at hg
              split at hg
              · rename_i sv e3
                cases hg
                have s := R.slot i' sv e3
                rw [hs] at s
                cases s with
                | sh r => exact r.mono sB _ _
                | @fr a o xs l hF hB hH hO r =>
                  have z : BJ a := by
                    rw [hBJ]
                    exact ⟨i', brs_mem ho hne, ⟨l, e3⟩, hs⟩
                  exact OC.rep ((B1y z).trans hH) hO (r.mono sB _ _)
              · cases hg
          · obtain ⟨i, a, xs, l, h1, h2, o, nb, h3, h4, h5, h6, h7, h8⟩ := hS k hk
            obtain ⟨v, hv, ovv⟩ := ov.at h2
            have hvv : v = .ref a := by
              cases ovv with
              | slot hs =>
                rw [h3] at hs
                cases hs
                rfl
            subst hvv
            have eo := hoa i a h1 o
            obtain ⟨n1, n2, _, _⟩ := oaN eo
            refine ⟨a, xs, l, hv, ?_, eo, (F1n n2).trans h5, (B1n n1).trans h6, h7, h8.mono sB _ _⟩
            obtain ⟨hlt, _⟩ := List.getElem?_eq_some_iff.mp h2
            have hlt' : k < ds.length := by
              rw [gets_len e1]
              exact hlt
            obtain ⟨o', ho', hg⟩ := gets_at e1 (List.getElem?_eq_getElem hlt')
            rw [h2] at ho'
            cases ho'
            have hg : slotD ρ i = some ds[k] := hg
            unfold slotD at hg
            rw [h4] at hg
            rw [List.getElem?_eq_getElem hlt']
            exact hg.symm
          · cases h9 : oa with
            | none => rfl
            | some a =>
              obtain ⟨i, h1, _⟩ := hoa0 a h9
              rw [hS0 h] at h1
              cases h1
        -- behind the call
        have back : ∀ (out : List D) (B' H' : Hp), Same B1 B' → Same B' H' → Same F1 H' → (∀ a o, F1 a = some o → B' a = none) → CallOut K B' H' oa out → (noBr io os ρ = true ∨ isTL out = true ∨ (noBrL io os ρ = true ∧ isLL out = true)) →
            ∃ B2, Rel K F B2 H' σ (putO io os out ρ) ∧ Same B B2 ∧ (∀ a, B2 a = if BJ a then none else B' a) := fun out B' H' s1 s2 s3 s4 co hT => by
          obtain ⟨B2, hB2⟩ : ∃ B2 : Hp, B2 = fun a => if BJ a then none else B' a := ⟨_, rfl⟩
          have B2y : ∀ {a}, BJ a → B2 a = none := fun {a} h => by rw [hB2]; exact if_pos h
          have B2n : ∀ {a}, ¬ BJ a → B2 a = B' a := fun {a} h => by rw [hB2]; exact if_neg h
          have sB2 : Same B B2 := fun a o e => by
            have e' := s1 _ _ (sB _ _ e)
            rw [B2n fun z => ?_]
            · exact e'
            · obtain ⟨_, _, _, _, _, _, z2, _⟩ := bj z
              rw [e] at z2
              cases z2
          have s22 : Same B2 H' := fun a o e => by
            by_cases z : BJ a
            · rw [B2y z] at e
              cases e
            · rw [B2n z] at e
              exact s2 _ _ e
          have dis2 : ∀ a o, F a = some o → B2 a = none := fun a o e => by
            have e' := s4 _ _ (sF _ _ e)
            by_cases z : BJ a
            · exact B2y z
            · rw [B2n z]
              exact e'
          have core : ∀ (ρ0 : Sl), ρ0.length = ρ.length → (∀ j sv, ρ0[j]? = some (some sv) → ρ[j]? = some (some sv) ∧ ioSlot io os ≠ some j) → Rel K F B2 H' σ ρ0 := fun ρ0 hl hsub => by
            have ow : ∀ {j a}, Owns σ ρ0 j a → Owns σ ρ j a ∧ ioSlot io os ≠ some j := fun {j a} ⟨⟨l, g1⟩, g2⟩ => by
              obtain ⟨g3, g4⟩ := hsub _ _ g1
              exact ⟨⟨⟨l, g3⟩, g2⟩, g4⟩
            refine ⟨s22, sF.trans s3, dis2, hl.trans R.len, fun j sv g => ?_, fun i j a o1 o2 => R.sep i j a (ow o1).1 (ow o2).1⟩
            obtain ⟨g1, g2⟩ := hsub _ _ g
            have s := R.slot j sv g1
            generalize hg : σ[j]? = w at s
            cases s with
            | sh r => exact .sh (r.mono sB2 _ _)
            | @fr a ho xs l hF hB hH hO r =>
              have o : Owns σ ρ j a := ⟨⟨l, g1⟩, hg⟩
              by_cases m : j ∈ brs io os
              · have z : BJ a := by
                  rw [hBJ]
                  exact ⟨j, m, o⟩
                exact .fr hF (B2y z) (s2 _ _ (s1 _ _ ((B1y z).trans hH))) hO (r.mono sB2 _ _)
              · have z : OJ a := by
                  rw [hOJ]
                  exact ⟨j, m, g2, o⟩
                have nz : ¬ BJ a := fun y => by
                  obtain ⟨j', _, _, m', o2, _⟩ := bj y
                  have := R.sep _ _ _ o o2
                  subst this
                  exact m m'
                have e3 : F1 a = some ho := (F1y z).trans hH
                exact .fr hF ((B2n nz).trans (s4 _ _ e3)) (s3 _ _ e3) hO (r.mono sB2 _ _)
          refine ⟨B2, ?_, sB2, fun a => by rw [hB2]⟩
          unfold putO
          cases h1 : ioSlot io os with
          | none => exact core ρ rfl fun j sv g => ⟨g, by rw [h1]; exact fun z => nomatch z⟩
          | some i =>
            obtain ⟨k, hk⟩ : ∃ k, io = some k := by
              cases h : io with
              | none =>
                rw [hS0 h] at h1
                cases h1
              | some k => exact ⟨k, rfl⟩
            obtain ⟨i', a, xs, l, g1, g2, o, nb, g3, g4, g5, g6, g7, g8⟩ := hS k hk
            rw [h1] at g1
            cases g1
            have eo := hoa i a h1 o
            obtain ⟨n1, n2, _, _⟩ := oaN eo
            obtain ⟨c1, xs', c2, c3⟩ := co a eo
            have Rd := core (ρ.set i none) (by rw [List.length_set]) fun j sv g => by
              by_cases e : i = j
              · subst e
                obtain ⟨hl, _⟩ := List.getElem?_eq_some_iff.mp g
                rw [List.length_set] at hl
                rw [List.getElem?_set_self hl] at g
                cases g
              · rw [List.getElem?_set_ne e] at g
                exact ⟨g, fun z => e (by rw [h1] at z; cases z; rfl)⟩
            have rep2 : RepL K B2 xs' out := by
              have tups : ∀ b ys, B' b = some (.tup ys) → B2 b = some (.tup ys) := fun b ys e => by
                rw [B2n fun z => ?_]
                · exact e
                · obtain ⟨j, ho, c, _, _, _, _, z3, ⟨_, z4⟩, _⟩ := bj z
                  have e' := s1 _ _ ((B1y z).trans z3)
                  rw [e] at e'
                  cases e'
                  exact OC.not_tup z4
              rcases hT with hT | hT | ⟨hN, hT⟩
              · refine c3.mono (fun b o' e => ?_) _ _
                rw [B2n fun z => ?_]
                · exact e
                · obtain ⟨j, _, _, m, o2, _⟩ := bj z
                  unfold noBr at hT
                  have := List.all_eq_true.mp hT j m
                  rw [owns_isOw o2] at this
                  cases this
              · exact c3.tmono tups _ _ hT
              · refine c3.lmono tups (fun b ys e => ?_) _ _ hT
                rw [B2n fun z => ?_]
                · exact e
                · obtain ⟨j, ho, c, m, _, _, _, z3, ⟨_, z4⟩, z5⟩ := bj z
                  have e' := s1 _ _ ((B1y z).trans z3)
                  rw [e] at e'
                  cases e'
                  obtain ⟨l', rfl⟩ := OC.is_lst z4
                  unfold noBrL at hN
                  have := List.all_eq_true.mp hN j m
                  unfold isFr at this
                  rw [z5] at this
                  cases this
            refine Rd.put (v := .ref a) g3 (sv := .fr out) |> fun f => ?_
            have f2 := Rd.put (v := .ref a) g3 (sv := .fr out) (.fr g5 ((B2n n1).trans c1) c2 rfl rep2 fun j hj => by
              rw [List.set_set] at hj
              obtain ⟨nj, oj'⟩ := owns_set_none hj
              exact nj (R.sep j i a oj' o))
            rw [List.set_set] at f2
            exact f2
        refine ⟨by rw [ov.length]; exact hn, ds, res, F1, B1, oa, e2, sBH, sFH, dis1, inn, ?_⟩
        cases res with
        | exc c out =>
          intro B' H' s1 s2 s3 s4 co
          obtain ⟨B2, R2, sm, _⟩ := back out B' H' s1 s2 s3 s4 co (by
            rcases Bool.or_eq_true _ _ ▸ hbr with h | h
            · exact .inl h
            · unfold resOk at h
              rw [Bool.or_eq_true, Bool.and_eq_true] at h
              rcases h with h | ⟨h, h'⟩
              · exact .inr (.inl h)
              · exact .inr (.inr ⟨h, h'⟩))
          exact q B2 H' R2 sm
        | ret r out =>
          intro v B' H' s1 s2 s3 s4 co cr
          have hbr : noBr io os ρ = true ∨ resT (.ret r out) = true ∨ (noBrL io os ρ = true ∧ resL (.ret r out) = true) := by
            unfold resOk at hbr
            rw [Bool.or_eq_true, Bool.or_eq_true, Bool.and_eq_true] at hbr
            exact hbr
          have hT : noBr io os ρ = true ∨ isTL out = true ∨ (noBrL io os ρ = true ∧ isLL out = true) := by
            rcases hbr with h | h | ⟨h1, h⟩
            · exact .inl h
            · refine .inr (.inl ?_)
              unfold resT at h
              cases r with
              | sh d => exact (Bool.and_eq_true _ _ ▸ h).2
              | ow l => exact (Bool.and_eq_true _ _ ▸ h).2
            · refine .inr (.inr ⟨h1, ?_⟩)
              unfold resL at h
              cases r with
              | sh d => exact (Bool.and_eq_true _ _ ▸ h).2
              | ow l => exact (Bool.and_eq_true _ _ ▸ h).2
          obtain ⟨B2, R2, sm, hB2⟩ := back out B' H' s1 s2 s3 s4 co hT
          have B2y : ∀ {a}, BJ a → B2 a = none := fun {a} h => by rw [hB2]; exact if_pos h
          have B2n : ∀ {a}, ¬ BJ a → B2 a = B' a := fun {a} h => by rw [hB2]; exact if_neg h
          have nobr : noBr io os ρ = true → Same B' B2 := fun hT b o' e => by
            rw [B2n fun z => ?_]
            · exact e
            · obtain ⟨j, _, _, m, o2, _⟩ := bj z
              unfold noBr at hT
              have := List.all_eq_true.mp hT j m
              rw [owns_isOw o2] at this
              cases this
          have tups : ∀ a xs, B' a = some (.tup xs) → B2 a = some (.tup xs) := fun b ys e => by
            rw [B2n fun z => ?_]
            · exact e
            · obtain ⟨j, ho, c, _, _, _, _, z3, ⟨_, z4⟩, _⟩ := bj z
              have e' := s1 _ _ ((B1y z).trans z3)
              rw [e] at e'
              cases e'
              exact OC.not_tup z4
          have lsts : noBrL io os ρ = true → ∀ a xs, B' a = some (.lst xs) → B2 a = some (.lst xs) := fun hN b ys e => by
            rw [B2n fun z => ?_]
            · exact e
            · obtain ⟨j, ho, c, m, _, _, _, z3, ⟨_, z4⟩, z5⟩ := bj z
              have e' := s1 _ _ ((B1y z).trans z3)
              rw [e] at e'
              cases e'
              obtain ⟨l', rfl⟩ := OC.is_lst z4
              unfold noBrL at hN
              have := List.all_eq_true.mp hN j m
              unfold isFr at this
              rw [z5] at this
              cases this
          refine q v B2 H' R2 sm ?_
          cases cr with
          | sh r =>
            rcases hbr with h | h | ⟨h1, h⟩
            · exact .sh (r.mono (nobr h) _ _)
            · unfold resT at h
              exact .sh (r.tmono tups _ _ (Bool.and_eq_true _ _ ▸ h).1)
            · unfold resL at h
              exact .sh (r.lmono tups (lsts h1) _ _ (Bool.and_eq_true _ _ ▸ h).1)
          | @fr a ho xs l hF hB hH hO r no =>
            have nBJ : ¬ BJ a := fun z => by
              obtain ⟨_, _, _, _, _, _, _, z3, _⟩ := bj z
              have e' := s1 _ _ ((B1y z).trans z3)
              rw [hB] at e'
              cases e'
            have nOJ : ¬ OJ a := fun z => by
              obtain ⟨_, _, _, _, _, _, _, z3⟩ := oj z
              have e' := (F1y z).trans z3
              rw [hF] at e'
              cases e'
            refine .fr ((F1n nOJ).symm.trans hF) ((B2n nBJ).trans hB) hH hO ?_ fun j hj => ?_
            · rcases hbr with h | h | ⟨h1, h⟩
              · exact r.mono (nobr h) _ _
              · unfold resT at h
                exact r.tmono tups _ _ (Bool.and_eq_true _ _ ▸ h).1
              · unfold resL at h
                exact r.lmono tups (lsts h1) _ _ (Bool.and_eq_true _ _ ▸ h).1
            · have hj' : Owns σ ρ j a := by
                obtain ⟨⟨ds', g1⟩, g2⟩ := hj
                unfold putO at g1
                cases h1 : ioSlot io os with
                | none =>
                  rw [h1] at g1
                  exact ⟨⟨_, g1⟩, g2⟩
                | some i =>
                  rw [h1] at g1
                  by_cases e : i = j
                  · subst e
                    obtain ⟨k, hk⟩ : ∃ k, io = some k := by
                      cases h : io with
                      | none =>
                        rw [hS0 h] at h1
                        cases h1
                      | some k => exact ⟨k, rfl⟩
                    obtain ⟨i', a', xs', l', g1', _, o, _, g3, _⟩ := hS k hk
                    rw [h1] at g1'
                    cases g1'
                    rw [g3] at g2
                    cases g2
                    exact o
                  · have g1 : (ρ.set i (some (.fr out)))[j]? = _ := g1
                    rw [List.getElem?_set_ne e] at g1
                    exact ⟨⟨_, g1⟩, g2⟩
              by_cases m : j ∈ brs io os
              · exact nBJ (by rw [hBJ]; exact ⟨j, m, hj'⟩)
              · by_cases i : ioSlot io os = some j
                · exact no (hoa j a i hj')
                · exact nOJ (by rw [hOJ]; exact ⟨j, m, i, hj'⟩)
      · rw [if_neg hc] at q
        exact q.elim
end Sim

namespace Sim
open PySem PySem.Spec PyProof.Rows L2

def vCall (n : Nat) (io : Option Nat) (Φ : List D → Option CR) (as : M (List Op)) : M SV := bnd as fun os ρ => if os.length = n then callM io Φ os ρ else none
section
variable {cv : Nat → Value} {X : Cx} {W : WX} {e : Expr} {es : List Expr} {ts : TA} {fs : M (List Op)} {pos p : Pos}
theorem snd_call {n k : Nat} {io : Option Nat} {Φ : List D → Option CR} {f : Addr} {fd : FuncData} {ps : List Str} {x : Str} (G : FnOk X.prog X.w X.K X.mg X.base (L2.CX X.prog X.w) k f fd ps (spI cv X.K n io Φ)) (hr : Room k X.A) (hg : Gl X x) (hm : X.mg x = some (.ref f))
    (hk : PySem.W.keepIn X.K (.ref f) = true) (hb : Binds X.K fd ps []) (tk : Takes X W) (ha : SndA cv X W (e :: es) ts fs) (hdb : (x == ("__debug__" : Str)) = false := by decide)
    (he : starEach (e :: es) X.env = (false, eval e X.env) :: starEach es X.env := by rfl) (hpl : (backTo pos (starEach es X.env)).any (·.1) = false := by rfl) :
    SndE cv X W (.Call (.Name x p) (e :: es) [] pos) (tCallS (spI cv X.K n io Φ) (WE W) ts) (vCall n io Φ fs) := by
  refine ⟨pe_callS G hr hg hm hk hb (fun σ => passAt tk σ) ha.pa hdb he hpl, fun F B H σ ρ Q R q => ?_⟩
  refine ha.ad F B H σ ρ _ R (wpm_mono (wpm_bnd q) (fun os ρ1 q vs B1 H1 R1 sm1 ov => ?_) fun _ _ q => q)
  unfold wpm at q
  by_cases hl : os.length = n
  · simp only [if_pos hl] at q
    exact adm_callM R1 ov hl (wpm_mono (m := callM io Φ os) q (fun a ρ' q v B' H' R' sm rv => q v B' H' R' (sm1.trans sm) rv) fun c ρ' q B' H' R' sm => q B' H' R' (sm1.trans sm))
  · simp only [if_neg hl] at q
/-- .. without arguments; nothing is raised -/
def vCall0 (Φ : List D → Option CR) : M SV := fun ρ => match Φ [] with
  | some (.ret r _) => some (.ok r ρ)
  | _ => none
theorem snd_call0 {k : Nat} {Φ : List D → Option CR} {f : Addr} {fd : FuncData} {ps : List Str} {x : Str} (G : FnOk X.prog X.w X.K X.mg X.base (L2.CX X.prog X.w) k f fd ps (spI cv X.K 0 none Φ)) (hr : Room k X.A) (hg : Gl X x) (hm : X.mg x = some (.ref f))
    (hk : PySem.W.keepIn X.K (.ref f) = true) (hb : Binds X.K fd ps []) (hdb : (x == ("__debug__" : Str)) = false := by decide) :
    SndE cv X W (.Call (.Name x p) [] [] pos) (tCall (spI cv X.K 0 none Φ) [] E0 tNil) (vCall0 Φ) := by
  refine ⟨pe_call0 G hr hg hm hk hb .nil passL hdb, fun F B H σ ρ Q R q => ?_⟩
  unfold wpm vCall0 at q
  cases e : Φ [] with
  | none =>
    rw [e] at q
    exact q.elim
  | some res =>
    rw [e] at q
    cases res with
    | exc c out => exact q.elim
    | ret r out =>
      refine adm_callM (vs := []) (os := []) R .nil rfl ?_
      have e2 : callM none Φ [] ρ = some (.ok r ρ) := by
        show (match Φ [] with
          | none => none
          | some res => if (ioOk none [] ρ && (noBr none [] ρ || resT res)) = true then some (outOf none [] ρ res) else none) = _
        rw [e]
        rfl
      unfold wpm
      rw [e2]
      exact q
end

/-! ### runs of statements -/
inductive SO where
  | nx (ρ : Sl)
  | rt (sv : SV) (ρ : Sl)
  | bk (ρ : Sl)
  | ct (ρ : Sl)
  | ex (c : Nat) (ρ : Sl)
abbrev SM := Sl → Option SO
structure Ws where
  nx : Sl → Prop
  rt : SV → Sl → Prop
  bk : Sl → Prop
  ct : Sl → Prop
  ex : Nat → Sl → Prop
def Ws.at (Z : Ws) : Option SO → Prop
  | none => False
  | some (.nx ρ) => Z.nx ρ
  | some (.rt sv ρ) => Z.rt sv ρ
  | some (.bk ρ) => Z.bk ρ
  | some (.ct ρ) => Z.ct ρ
  | some (.ex c ρ) => Z.ex c ρ
def Agr (w : List Nat) (σ σ' : L2.St) : Prop := ∀ j, j ∉ w → σ'[j]? = σ[j]?
theorem Agr.refl {w : List Nat} {σ : L2.St} : Agr w σ σ := fun _ _ => rfl
theorem Agr.trans {w w' : List Nat} {σ σ1 σ2 : L2.St} (a : Agr w σ σ1) (b : Agr w' σ1 σ2) : Agr (w ++ w') σ σ2 := fun j h => by
  rw [List.mem_append, not_or] at h
  exact (b j h.2).trans (a j h.1)
theorem Agr.mono {w w' : List Nat} {σ σ' : L2.St} (a : Agr w σ σ') (h : ∀ j, j ∈ w → j ∈ w') : Agr w' σ σ' := fun j hj => a j fun z => hj (h j z)
theorem Agr.tr {w : List Nat} {σ σ1 σ2 : L2.St} (a : Agr w σ σ1) (b : Agr w σ1 σ2) : Agr w σ σ2 := fun j h => (b j h).trans (a j h)
/-- what is wanted behind a statement that began at B, σ -/
def wsOf (cv : Nat → Value) (W : WX) (K : PySem.W.Frag) (F B : Hp) (σ : L2.St) (w : List Nat) (D : Ends) : Ws where
  nx := fun ρ' => ∀ σ' B' H', Rel K F B' H' σ' ρ' → Same B B' → Agr w σ σ' → D.nx σ' H'
  rt := fun sv ρ' => ∀ v σ' B' H', Rel K F B' H' σ' ρ' → Same B B' → Agr w σ σ' → RV K F B' H' σ' ρ' v sv → D.rt v H'
  bk := fun ρ' => ∀ σ' B' H', Rel K F B' H' σ' ρ' → Same B B' → Agr w σ σ' → D.bk σ' H'
  ct := fun ρ' => ∀ σ' B' H', Rel K F B' H' σ' ρ' → Same B B' → Agr w σ σ' → D.ct σ' H'
  ex := fun c ρ' => ∀ σ' B' H', Rel K F B' H' σ' ρ' → Same B B' → Agr w σ σ' → W (cv c) none σ' H'
def AdmS (cv : Nat → Value) (W : WX) (K : PySem.W.Frag) (t : TS) (m : SM) (w : List Nat) : Prop :=
  ∀ (F B H : Hp) (σ : L2.St) (ρ : Sl) (D : Ends), Rel K F B H σ ρ → (wsOf cv W K F B σ w D).at (m ρ) → t D σ H
structure SndS (cv : Nat → Value) (X : Cx) (W : WX) (st : Stmt) (t : TS) (m : SM) (w : List Nat) : Prop where
  ps : PS X st t
  ad : AdmS cv W X.K t m w
structure SndSs (cv : Nat → Value) (X : Cx) (W : WX) (st : List Stmt) (t : TS) (m : SM) (w : List Nat) : Prop where
  ps : PSs X st t
  ad : AdmS cv W X.K t m w
/-- what an end asks, step by step -/
structure Ws.Le (Z Z' : Ws) : Prop where
  nx : ∀ ρ, Z.nx ρ → Z'.nx ρ
  rt : ∀ sv ρ, Z.rt sv ρ → Z'.rt sv ρ
  bk : ∀ ρ, Z.bk ρ → Z'.bk ρ
  ct : ∀ ρ, Z.ct ρ → Z'.ct ρ
  ex : ∀ c ρ, Z.ex c ρ → Z'.ex c ρ
theorem Ws.at.mono {Z Z' : Ws} (l : Ws.Le Z Z') : ∀ {o : Option SO}, Z.at o → Z'.at o
  | none, h => h
  | some (.nx ρ), h => l.nx ρ h
  | some (.rt sv ρ), h => l.rt sv ρ h
  | some (.bk ρ), h => l.bk ρ h
  | some (.ct ρ), h => l.ct ρ h
  | some (.ex c ρ), h => l.ex c ρ h
theorem wsOf.later {cv : Nat → Value} {W : WX} {K : PySem.W.Frag} {F B B1 : Hp} {σ σ1 : L2.St} {w w1 w2 : List Nat} {D : Ends} (sm : Same B B1) (ag : Agr w1 σ σ1) (h1 : ∀ j, j ∈ w1 → j ∈ w) (h2 : ∀ j, j ∈ w2 → j ∈ w) : Ws.Le (wsOf cv W K F B σ w D) (wsOf cv W K F B1 σ1 w2 D) where
  nx := fun ρ q σ' B' H' R s a => q σ' B' H' R (sm.trans s) ((ag.mono h1).tr (a.mono h2))
  rt := fun sv ρ q v σ' B' H' R s a rv => q v σ' B' H' R (sm.trans s) ((ag.mono h1).tr (a.mono h2)) rv
  bk := fun ρ q σ' B' H' R s a => q σ' B' H' R (sm.trans s) ((ag.mono h1).tr (a.mono h2))
  ct := fun ρ q σ' B' H' R s a => q σ' B' H' R (sm.trans s) ((ag.mono h1).tr (a.mono h2))
  ex := fun c ρ q σ' B' H' R s a => q σ' B' H' R (sm.trans s) ((ag.mono h1).tr (a.mono h2))

/-! ### statements -/
def sNx : SM := fun ρ => some (.nx ρ)
def sBk : SM := fun ρ => some (.bk ρ)
def sCt : SM := fun ρ => some (.ct ρ)
def sSeq (m n : SM) : SM := fun ρ => match m ρ with
  | some (.nx ρ') => n ρ'
  | o => o
/-- an expression, then what its value does -/
def sEx {α : Type} (f : M α) (k : α → SM) : SM := fun ρ => match f ρ with
  | none => none
  | some (.ex c ρ') => some (.ex c ρ')
  | some (.ok a ρ') => k a ρ'
def sIf (c : M Bool) (m n : SM) : SM := sEx c fun b => if b = true then m else n
def sRet (f : M SV) : SM := sEx f fun sv ρ => some (.rt sv ρ)
def sRetN : SM := fun ρ => some (.rt (.sh .non) ρ)
def sDrop (f : M SV) : SM := sEx f fun _ ρ => some (.nx ρ)
def sAsg (f : M SV) (g : SV → Sl → Option Sl) : SM := sEx f fun sv ρ => (g sv ρ).map .nx
def gN (i : Nat) : SV → Sl → Option Sl := fun sv ρ => if i < ρ.length then some (ρ.set i (some sv)) else none
def gT (n : Nat) (gs : List D → Sl → Option Sl) : SV → Sl → Option Sl := fun sv ρ => match sv with
  | .sh (.tup l) => if l.length = n then gs l ρ else none
  | _ => none
def gsN : List D → Sl → Option Sl := fun l ρ => match l with
  | [] => some ρ
  | _ => none
def gsC (g : SV → Sl → Option Sl) (gs : List D → Sl → Option Sl) : List D → Sl → Option Sl := fun l ρ => match l with
  | d :: ds => (g (.sh d) ρ).bind (gs ds)
  | _ => none
def AdmG (K : PySem.W.Frag) (t : TG) (g : SV → Sl → Option Sl) (w : List Nat) : Prop :=
  ∀ (F B H : Hp) (σ : L2.St) (ρ : Sl) (v : V) (sv : SV) (ρ' : Sl) (Q : L2.St → Hp → Prop), Rel K F B H σ ρ → RV K F B H σ ρ v sv → g sv ρ = some ρ' →
    (∀ σ', Rel K F B H σ' ρ' → Agr w σ σ' → σ'.length = σ.length → Q σ' H) → t v σ H Q
def AdmGs (K : PySem.W.Frag) (t : TGs) (g : List D → Sl → Option Sl) (w : List Nat) : Prop :=
  ∀ (F B H : Hp) (σ : L2.St) (ρ : Sl) (vs : List V) (ds : List D) (ρ' : Sl) (Q : L2.St → Hp → Prop), Rel K F B H σ ρ → RepL K B vs ds → g ds ρ = some ρ' →
    (∀ σ', Rel K F B H σ' ρ' → Agr w σ σ' → σ'.length = σ.length → Q σ' H) → t vs σ H Q
structure SndG (X : Cx) (e : Expr) (t : TG) (g : SV → Sl → Option Sl) (w : List Nat) : Prop where
  pg : PG X e t
  ad : AdmG X.K t g w
structure SndGs (X : Cx) (es : List Expr) (t : TGs) (g : List D → Sl → Option Sl) (w : List Nat) : Prop where
  pg : PGs X es t
  ad : AdmGs X.K t g w
theorem Rel.store {K : PySem.W.Frag} {F B H : Hp} {σ : L2.St} {ρ : Sl} {v : V} {sv : SV} {i : Nat} (R : Rel K F B H σ ρ) (r : RV K F B H σ ρ v sv) (hi : i < ρ.length) : Rel K F B H (σ.set i (some v)) (ρ.set i (some sv)) := by
  have hs : i < σ.length := R.len ▸ hi
  have base : Rel K F B H (σ.set i (some v)) (ρ.set i none) := by
    refine ⟨R.exB, R.exF, R.dis, by rw [List.length_set, List.length_set]; exact R.len, fun j s h => ?_, fun j k a h1 h2 => ?_⟩
    · by_cases e : i = j
      · subst e
        rw [List.getElem?_set_self hi] at h
        cases h
      · rw [List.getElem?_set_ne e] at h
        rw [List.getElem?_set_ne e]
        exact R.slot j s h
    · have ow : ∀ {j a}, Owns (σ.set i (some v)) (ρ.set i none) j a → Owns σ ρ j a := fun {j a} h => by
        obtain ⟨⟨l, g1⟩, g2⟩ := h
        by_cases e : i = j
        · subst e
          rw [List.getElem?_set_self hi] at g1
          cases g1
        · rw [List.getElem?_set_ne e] at g1 g2
          exact ⟨⟨l, g1⟩, g2⟩
      exact R.sep j k a (ow h1) (ow h2)
  have f := base.put (v := v) (i := i) (sv := sv) (List.getElem?_set_self hs) (by
    cases r with
    | sh r => exact .sh r
    | fr hF hB hH hO r no =>
      refine .fr hF hB hH hO r fun j hj => ?_
      rw [List.set_set] at hj
      obtain ⟨⟨l, g1⟩, g2⟩ := hj
      by_cases e : i = j
      · subst e
        rw [List.getElem?_set_self hi] at g1
        cases g1
      · rw [List.getElem?_set_ne e] at g1 g2
        exact no j ⟨⟨l, g1⟩, g2⟩)
  rw [List.set_set] at f
  exact f
section
variable {cv : Nat → Value} {X : Cx} {W : WX} {e a b c : Expr} {es : List Expr} {st : Stmt} {sts as bs : List Stmt} {te ta tb : TE} {tc : TT} {t u : TS} {f : M SV} {m n : SM} {w w' : List Nat} {pos p p2 : Pos}
theorem sng_name {i : Nat} {x : Str} (hN : X.N.Nodup) (hi : X.N[i]? = some x) (hx : Loc X.env.scope x) (hf : X.fn x = true ∨ X.env.scope.names.lookup x = some .local := by first | exact .inl rfl | exact .inr rfl | assumption) : SndG X (.Name x pos) (gName i) (gN i) [i] := by
  refine ⟨pg_name hN hi hx hf, fun F B H σ ρ v sv ρ' Q R r h q => ?_⟩
  unfold gN at h
  split at h
  · rename_i hl
    cases h
    refine q _ (R.store r hl) (fun j hj => ?_) (by rw [List.length_set])
    rw [List.getElem?_set_ne fun z => hj (by rw [z]; exact List.mem_singleton_self j)]
  · cases h
theorem sngs_nil : SndGs X [] gNil gsN [] := by
  refine ⟨pgs_nil, fun F B H σ ρ vs ds ρ' Q R r h q => ?_⟩
  unfold gsN at h
  split at h
  · cases h
    cases r
    exact ⟨rfl, q σ R Agr.refl rfl⟩
  · cases h
theorem sngs_cons {tg : TG} {tgs : TGs} {g : SV → Sl → Option Sl} {gs : List D → Sl → Option Sl} (h1 : SndG X e tg g w) (h2 : SndGs X es tgs gs w')
    (hs : (assignEach (e :: es) X.env).map (·.2) = assign e X.env :: (assignEach es X.env).map (·.2) := by rfl) : SndGs X (e :: es) (gCons tg tgs) (gsC g gs) (w ++ w') := by
  refine ⟨pgs_cons h1.pg h2.pg hs, fun F B H σ ρ vs ds ρ' Q R r h q => ?_⟩
  unfold gsC at h
  split at h
  · rename_i d ds'
    cases r with
    | @cons v _ vs' _ rd rt =>
      cases e1 : g (.sh d) ρ with
      | none =>
        rw [e1] at h
        cases h
      | some ρ1 =>
        rw [e1] at h
        refine ⟨_, _, rfl, h1.ad F B H σ ρ v _ ρ1 _ R (.sh rd) e1 fun σ1 R1 a1 l1 => ?_⟩
        exact h2.ad F B H σ1 ρ1 vs' ds' ρ' Q R1 rt h fun σ2 R2 a2 l2 => q σ2 R2 (a1.trans a2) (l2.trans l1)
  · cases h
theorem sng_tup {k len : Nat} {tgs : TGs} {gs : List D → Sl → Option Sl} (hc : X.calm = true) (h : SndGs X es tgs gs w)
    (hn : (assignEach es X.env).length = len := by rfl) (hst : (assignEach es X.env).findIdx? (·.1) = none := by rfl) : SndG X (.Tuple es k pos) (gTup X.K len tgs) (gT len gs) w := by
  refine ⟨pg_tup hc h.pg hn hst, fun F B H σ ρ v sv ρ' Q R r h1 q => ?_⟩
  unfold gT at h1
  split at h1
  · rename_i l
    split at h1
    · rename_i hl
      cases r with
      | sh r =>
        cases r with
        | tup ha rl => exact ⟨_, _, rfl, (ha.mono fun a xs q => R.exB a _ q).sq, rl.length.trans hl, h.ad F B H σ ρ _ l ρ' Q R rl h1 q⟩
    · cases h1
  · cases h1
theorem sns_nil : SndSs cv X W [] tNext sNx [] := ⟨pss_nil, fun F B H σ ρ D R q => q σ B H R (Same.refl _) Agr.refl⟩
theorem adm_seq (h1 : AdmS cv W X.K t m w) (h2 : AdmS cv W X.K u n w') : AdmS cv W X.K (tSeq t u) (sSeq m n) (w ++ w') := by
  intro F B H σ ρ D R q
  refine h1 F B H σ ρ _ R ?_
  unfold sSeq at q
  split at q
  · rename_i ρ1 e1
    rw [e1]
    intro σ1 B1 H1 R1 sm ag
    exact h2 F B1 H1 σ1 ρ1 D R1 (Ws.at.mono (wsOf.later sm ag (fun j h => List.mem_append_left _ h) fun j h => List.mem_append_right _ h) q)
  · rename_i hno
    cases e1 : m ρ with
    | none =>
      rw [e1] at q
      exact q
    | some o =>
      rw [e1] at q
      cases o with
      | nx ρ1 => exact (hno ρ1 e1).elim
      | rt sv ρ1 => exact fun v σ' B' H' R s a rv => q v σ' B' H' R s (a.mono fun j h => List.mem_append_left _ h) rv
      | bk ρ1 => exact fun σ' B' H' R s a => q σ' B' H' R s (a.mono fun j h => List.mem_append_left _ h)
      | ct ρ1 => exact fun σ' B' H' R s a => q σ' B' H' R s (a.mono fun j h => List.mem_append_left _ h)
      | ex c ρ1 => exact fun σ' B' H' R s a => q σ' B' H' R s (a.mono fun j h => List.mem_append_left _ h)
theorem sns_cons (h1 : SndS cv X W st t m w) (h2 : SndSs cv X W sts u n w') : SndSs cv X W (st :: sts) (tSeq t u) (sSeq m n) (w ++ w') := ⟨pss_cons h1.ps h2.ps, adm_seq h1.ad h2.ad⟩
theorem sns_one (h1 : SndS cv X W st t m w) : SndSs cv X W [st] t m w := ⟨pss_one h1.ps, h1.ad⟩
theorem sns_pass : SndS cv X W (.Pass pos) tNext sNx [] := ⟨ps_pass, fun F B H σ ρ D R q => q σ B H R (Same.refl _) Agr.refl⟩
theorem sns_bk : SndS cv X W (.Break pos) tBreak sBk [] := ⟨ps_break, fun F B H σ ρ D R q => q σ B H R (Same.refl _) Agr.refl⟩
theorem sns_ct : SndS cv X W (.Continue pos) tCont sCt [] := ⟨ps_continue, fun F B H σ ρ D R q => q σ B H R (Same.refl _) Agr.refl⟩
/-- an expression ahead of a statement's own -/
theorem ws_ex {α : Type} {K : PySem.W.Frag} {F B : Hp} {σ : L2.St} {D : Ends} {f : M α} {k : α → SM} {ρ : Sl} (q : (wsOf cv W K F B σ w D).at (sEx f k ρ)) :
    wpm f ρ (fun a ρ' => (wsOf cv W K F B σ w D).at (k a ρ')) fun c ρ' => ∀ B' H', Rel K F B' H' σ ρ' → Same B B' → W (cv c) none σ H' := by
  unfold sEx at q
  unfold wpm
  cases e : f ρ with
  | none =>
    rw [e] at q
    exact q
  | some o =>
    rw [e] at q
    cases o with
    | ok a ρ' => exact q
    | ex c ρ' => exact fun B' H' R s => q σ B' H' R s Agr.refl
theorem sns_if {f' : M Bool} (hc : SndB cv X W c tc f') (ha : SndSs cv X W as t m w) (hb : SndSs cv X W bs u n w') : SndS cv X W (.If c as bs pos) (tIfS tc t u) (sIf f' m n) (w ++ w') := by
  refine ⟨ps_if hc.pt ha.ps hb.ps, fun F B H σ ρ D R q => ?_⟩
  refine hc.ad F B H σ ρ _ R (wpm_mono (ws_ex q) (fun b ρ1 q b' B1 H1 R1 sm e1 => ?_) fun _ _ q => q)
  subst e1
  cases b' with
  | true => exact ha.ad F B1 H1 σ ρ1 D R1 (Ws.at.mono (wsOf.later (w1 := []) sm Agr.refl (fun j h => nomatch h) fun j h => List.mem_append_left _ h) q)
  | false => exact hb.ad F B1 H1 σ ρ1 D R1 (Ws.at.mono (wsOf.later (w1 := []) sm Agr.refl (fun j h => nomatch h) fun j h => List.mem_append_right _ h) q)
theorem sns_ret (h : SndE cv X W e te f) : SndS cv X W (.Return (some e) pos) (tRet te) (sRet f) [] := by
  refine ⟨ps_ret h.pe, fun F B H σ ρ D R q => ?_⟩
  exact h.ad F B H σ ρ _ R (wpm_mono (ws_ex q) (fun b ρ1 q v B1 H1 R1 sm rv => q v σ B1 H1 R1 sm Agr.refl rv) fun _ _ q => q)
theorem sns_retN : SndS cv X W (.Return none pos) tRetN sRetN [] := ⟨ps_retN, fun F B H σ ρ D R q => q .non σ B H R (Same.refl _) Agr.refl (.sh .non)⟩
theorem sns_expr (h : SndE cv X W e te f) (hs : swapsWith e none pos.line X.env = pure false := by rfl) : SndS cv X W (.Expr e pos) (tDrop te) (sDrop f) [] := by
  refine ⟨ps_expr h.pe hs, fun F B H σ ρ D R q => ?_⟩
  exact h.ad F B H σ ρ _ R (wpm_mono (ws_ex q) (fun b ρ1 q v B1 H1 R1 sm rv => q σ B1 H1 R1 sm Agr.refl) fun _ _ q => q)
theorem adm_asg {tg : TG} {g : SV → Sl → Option Sl} (h : Adm cv W X.K te f (RV X.K)) (hg : AdmG X.K tg g w) : AdmS cv W X.K (tAsg te tg) (sAsg f g) w := by
  intro F B H σ ρ D R q
  refine h F B H σ ρ _ R (wpm_mono (ws_ex q) (fun sv ρ1 q v B1 H1 R1 sm rv => ?_) fun _ _ q => q)
  cases e1 : g sv ρ1 with
  | none =>
    simp only [e1, Option.map_none] at q
    exact q.elim
  | some ρ2 =>
    simp only [e1, Option.map_some] at q
    exact hg F B1 H1 σ ρ1 v sv ρ2 _ R1 rv e1 fun σ' R2 ag _ => q σ' B1 H1 R2 sm ag
theorem sns_set {i : Nat} {x : Str} (hN : X.N.Nodup) (hi : X.N[i]? = some x) (hx : Loc X.env.scope x) (h : SndE cv X W e te f) (hs : swapsWith e (some (.Name x p)) pos.line X.env = pure false := by rfl)
    (hf : X.fn x = true ∨ X.env.scope.names.lookup x = some .local := by first | exact .inl rfl | exact .inr rfl | assumption) : SndS cv X W (.Assign [.Name x p] e pos) (tAsg te (gName i)) (sAsg f (gN i)) [i] :=
  ⟨ps_set hN hi hx h.pe hs hf, adm_asg h.ad (sng_name (pos := p) hN hi hx hf).ad⟩
theorem sns_asg {tg : TG} {g : SV → Sl → Option Sl} (h : SndE cv X W e te f) (hg : SndG X a tg g w) (hs : swapsWithSole [a] e pos.line X.env = pure false := by rfl) (hw : swappedStores [a] e X.env = pure none := by rfl)
    (h1 : (assignEach [a] X.env).map (·.2) = [assign a X.env] := by rfl) : SndS cv X W (.Assign [a] e pos) (tAsg te tg) (sAsg f g) w := ⟨ps_asg h.pe hg.pg hs hw h1, adm_asg h.ad hg.ad⟩
/-- a, b = x, y by plain local names -/
def sPar (i j : Nat) (as : M (List Op)) : SM := sEx as fun os ρ => match vals os with
  | some [x, y] => if i < ρ.length ∧ j < ρ.length then some (.nx ((ρ.set i (some (.sh x))).set j (some (.sh y)))) else none
  | _ => none
theorem sns_par {i j : Nat} {x y : Str} {tas : TA} {fas : M (List Op)} {px py pt : Pos} {kt k2 : Nat} {pt2 : Pos} (hc : X.calm = true) (hN : X.N.Nodup) (hi : X.N[i]? = some x) (hj : X.N[j]? = some y) (hij : i ≠ j)
    (hx : X.env.scope.names.lookup x = some .local) (hy : X.env.scope.names.lookup y = some .local) (ha : SndA cv X W [a, b] tas fas)
    (hw : swappedStores [.Tuple [.Name x px, .Name y py] kt pt] (.Tuple [a, b] k2 pt2) X.env = pure (some [x, y]) := by rfl)
    (hs : swapsWithSole [.Tuple [.Name x px, .Name y py] kt pt] (.Tuple [a, b] k2 pt2) pos.line X.env = pure false := by rfl) :
    SndS cv X W (.Assign [.Tuple [.Name x px, .Name y py] kt pt] (.Tuple [a, b] k2 pt2) pos) (tPar i j tas) (sPar i j fas) [i, j] := by
  refine ⟨ps_par hc hN hi hj hij hx hy ha.pa hw hs, fun F B H σ ρ D R q => ?_⟩
  refine ha.ad F B H σ ρ _ R (wpm_mono (ws_ex q) (fun os ρ1 q vs B1 H1 R1 sm ov => ?_) fun _ _ q => q)
  split at q
  · rename_i dx dy e1
    split at q
    · rename_i hl
      have rl := ov.vals e1
      cases rl with
      | cons r1 rl =>
        cases rl with
        | cons r2 rl =>
          cases rl
          refine ⟨_, _, rfl, ?_⟩
          have R2 := R1.store (.sh r1) hl.1
          have R3 := R2.store (i := j) (.sh r2) (by rw [List.length_set]; exact hl.2)
          refine q _ B1 H1 R3 sm fun k hk => ?_
          rw [List.getElem?_set_ne fun z => hk (by rw [← z]; exact List.mem_cons_of_mem _ List.mem_cons_self), List.getElem?_set_ne fun z => hk (by rw [← z]; exact List.mem_cons_self)]
    · exact q.elim
  · exact q.elim
/-- name op= e, on whole numbers -/
def sAug (i : Nat) (g : Int → Int → Int) (f : M SV) : SM := fun ρ => match ρ[i]? with
  | some (some (.sh (.int x))) => sEx f (fun sv ρ => match sv with
    | .sh (.int y) => some (.nx (ρ.set i (some (.sh (.int (g x y))))))
    | _ => none) ρ
  | _ => none
theorem sns_aug {i : Nat} {x : Str} {op : Operator} {g : Int → Int → Int} (hN : X.N.Nodup) (hi : X.N[i]? = some x) (hx : Loc X.env.scope x) (h : SndE cv X W e te f) (ho : PIp X op (ipI g))
    (hf : X.fn x = true ∨ X.env.scope.names.lookup x = some .local := by first | exact .inl rfl | exact .inr rfl | assumption) : SndS cv X W (.AugAssign (.Name x p) op e pos) (tAug i te (ipI g)) (sAug i g f) [i] := by
  refine ⟨ps_aug hN hi hx h.pe ho hf, fun F B H σ ρ D R q => ?_⟩
  unfold sAug at q
  split at q
  · rename_i x0 e1
    have hl : i < ρ.length := (List.getElem?_eq_some_iff.mp e1).1
    have s := R.slot i _ e1
    generalize hg : σ[i]? = o at s
    cases s with
    | sh r =>
      cases r
      refine ⟨_, hg, ?_⟩
      refine h.ad F B H σ ρ _ R (wpm_mono (ws_ex q) (fun sv ρ1 q v B1 H1 R1 sm rv => ?_) fun _ _ q => q)
      split at q
      · cases rv with
        | sh r =>
          cases r
          refine ⟨_, _, rfl, rfl, ?_⟩
          refine q _ B1 H1 (R1.store (.sh (.int _)) ?_) sm fun k hk => ?_
          · rw [R1.len, ← R.len]
            exact hl
          · rw [List.getElem?_set_ne fun z => hk (by rw [← z]; exact List.mem_cons_self)]
      · exact q.elim
  · exact q.elim
end
end Sim

namespace Sim
open PySem PySem.Spec PyProof.Rows L2

/-! ### a def's body -/
def frO : Option D → Option SV
  | some (.lst l) => some (.fr l)
  | _ => none
def shL (ds : List D) : Sl := ds.map fun d => some (.sh d)
def startL (io : Option Nat) (ds : List D) : Sl := match io with
  | none => shL ds
  | some k => (shL ds).set k (frO ds[k]?)
def startS (io : Option Nat) (L : Nat) (ds : List D) : Sl := startL io ds ++ List.replicate (L - ds.length) none
def outS (io : Option Nat) (ρ : Sl) : Option (List D) := match io with
  | none => some []
  | some i => match ρ[i]? with
    | some (some (.ow (.lst l))) => some l
    | _ => none
def runB (io : Option Nat) (L : Nat) (m : SM) (ds : List D) : Option CR := match m (startS io L ds) with
  | some (.nx ρ) => (outS io ρ).map (.ret (.sh .non))
  | some (.rt sv ρ) => (outS io ρ).map (.ret sv)
  | some (.ex c ρ) => (outS io ρ).map (.exc c)
  | _ => none
theorem startL_length (io : Option Nat) (ds : List D) : (startL io ds).length = ds.length := by
  unfold startL shL
  cases io with
  | none => exact List.length_map _
  | some k => exact (List.length_set).trans (List.length_map _)
theorem shL_at {ds : List D} {i : Nat} {sv : SV} (h : (shL ds)[i]? = some (some sv)) : ∃ d, ds[i]? = some d ∧ sv = .sh d := by
  unfold shL at h
  rw [List.getElem?_map] at h
  cases e : ds[i]? with
  | none =>
    rw [e] at h
    cases h
  | some d =>
    rw [e] at h
    cases h
    exact ⟨d, rfl, rfl⟩
theorem frO_at {o : Option D} {sv : SV} (h : frO o = some sv) : ∃ l, o = some (.lst l) ∧ sv = .fr l := by
  unfold frO at h
  split at h
  · rename_i l
    cases h
    exact ⟨l, rfl, rfl⟩
  · cases h
theorem startL_at {io : Option Nat} {ds : List D} {i : Nat} {sv : SV} (h : (startL io ds)[i]? = some (some sv)) : ∃ d, ds[i]? = some d ∧ ((io ≠ some i ∧ sv = .sh d) ∨ (io = some i ∧ ∃ l, d = .lst l ∧ sv = .fr l)) := by
  unfold startL at h
  cases io with
  | none =>
    obtain ⟨d, h1, h2⟩ := shL_at h
    exact ⟨d, h1, .inl ⟨(fun z => nomatch z), h2⟩⟩
  | some k =>
    have h : ((shL ds).set k (frO ds[k]?))[i]? = some (some sv) := h
    by_cases e : k = i
    · subst e
      obtain ⟨hl, _⟩ := List.getElem?_eq_some_iff.mp h
      rw [List.length_set] at hl
      rw [List.getElem?_set_self hl] at h
      obtain ⟨l, h1, h2⟩ := frO_at (Option.some.inj h)
      exact ⟨_, h1, .inr ⟨rfl, l, rfl, h2⟩⟩
    · rw [List.getElem?_set_ne e] at h
      obtain ⟨d, h1, h2⟩ := shL_at h
      exact ⟨d, h1, .inl ⟨fun z => e (Option.some.inj z), h2⟩⟩
theorem rel_start {K : PySem.W.Frag} {F B H : Hp} {N : List Str} {io : Option Nat} {vs : List V} {ds : List D} {oa : Option Addr} (sB : Same B H) (sF : Same F H) (dis : ∀ a o, F a = some o → B a = none) (c : CallIn K F B H io vs ds oa) :
    Rel K F B H (L2.start N vs) (startS io N.length ds) := by
  have gl : ∀ {i : Nat} {v : V}, vs[i]? = some v → (L2.start N vs)[i]? = some (some v) := fun {i v} h => by
    unfold L2.start
    obtain ⟨hl, _⟩ := List.getElem?_eq_some_iff.mp h
    rw [List.getElem?_append_left (by rw [List.length_map]; exact hl), List.getElem?_map, h]
    rfl
  have gs : ∀ {i : Nat} {sv : SV}, (startS io N.length ds)[i]? = some (some sv) → (startL io ds)[i]? = some (some sv) := fun {i sv} h => by
    unfold startS at h
    by_cases hl : i < (startL io ds).length
    · rw [List.getElem?_append_left hl] at h
      exact h
    · rw [List.getElem?_append_right (Nat.le_of_not_lt hl), List.getElem?_replicate] at h
      split at h <;> cases h
  refine ⟨sB, sF, dis, ?_, fun i sv h => ?_, fun i j a h1 h2 => ?_⟩
  · unfold startS L2.start
    rw [List.length_append, List.length_append, List.length_map, startL_length, List.length_replicate, List.length_replicate, c.len]
  · obtain ⟨d, hd, q⟩ := startL_at (gs h)
    rcases q with ⟨n, rfl⟩ | ⟨e, l, rfl, rfl⟩
    · obtain ⟨hl, _⟩ := List.getElem?_eq_some_iff.mp hd
      obtain ⟨v, hv⟩ : ∃ v, vs[i]? = some v := ⟨_, List.getElem?_eq_getElem (by rw [c.len]; exact hl)⟩
      rw [gl hv]
      exact .sh (c.sh i _ d hv hd n)
    · obtain ⟨a, xs, l', g1, g2, g3, g4, g5, g6, g7⟩ := c.inn i e
      rw [hd] at g2
      cases g2
      rw [gl g1]
      exact .fr g4 g5 g6 rfl g7
  · obtain ⟨⟨l1, g1⟩, _⟩ := h1
    obtain ⟨⟨l2, g2⟩, _⟩ := h2
    obtain ⟨d1, _, q1⟩ := startL_at (gs g1)
    obtain ⟨d2, _, q2⟩ := startL_at (gs g2)
    rcases q1 with ⟨_, z⟩ | ⟨e1, _⟩
    · cases z
    · rcases q2 with ⟨_, z⟩ | ⟨e2, _⟩
      · cases z
      · rw [e1] at e2
        cases e2
        rfl
section
variable {P : Program} {w' : World} {K : PySem.W.Frag} {mg : Str → Option Value} {base : Heap} {cv : Nat → Value}
theorem spI_len {n : Nat} {io : Option Nat} {Φ : List D → Option CR} {vs : List V} {H : Hp} {Q : VK} {E : XK} (h : spI cv K n io Φ vs H Q E) : vs.length = n := h.1
theorem ends_of {n : Nat} {io : Option Nat} {Φ : List D → Option CR} {N : List Str} {m : SM} {w : List Nat} {t : TS} {E : XK} {W : WX} (hW : ∀ cls d σ H, E cls d H → W cls d σ H) (hio : ∀ i, io = some i → i ∉ w) (ad : AdmS cv W K t m w)
    (run : ∀ ds res, Φ ds = some res → runB io N.length m ds = some res) {vs : List V} {H : Hp} {Q : VK} (h : spI cv K n io Φ vs H Q E) : t { nx := fun _ H' => Q .non H', rt := Q } (L2.start N vs) H := by
  obtain ⟨_, ds, res, F, B, oa, hΦ, sB, sF, dis, c, o⟩ := h
  have R0 := rel_start (N := N) sB sF dis c
  have r := run ds res hΦ
  unfold runB at r
  refine ad F B H _ _ _ R0 ?_
  -- the changed argument's list, at the end
  have cout : ∀ {ρ' : Sl} {σ' : L2.St} {B' H' : Hp} {out : List D}, Rel K F B' H' σ' ρ' → Agr w (L2.start N vs) σ' → outS io ρ' = some out → CallOut K B' H' oa out ∧ ∀ a, oa = some a → ∃ i, Owns σ' ρ' i a := fun {ρ' σ' B' H' out} R ag e => by
    have key : ∀ a, oa = some a → ∃ i l, io = some i ∧ ρ'[i]? = some (some (.fr l)) ∧ l = out ∧ σ'[i]? = some (some (.ref a)) := fun a ea => by
      cases hi : io with
      | none =>
        rw [c.no hi] at ea
        cases ea
      | some i =>
        obtain ⟨a', xs, l, g1, g2, g3, g4, g5, g6, g7⟩ := c.inn i hi
        rw [ea] at g3
        cases g3
        have hs : (L2.start N vs)[i]? = some (some (.ref a)) := by
          unfold L2.start
          obtain ⟨hl, _⟩ := List.getElem?_eq_some_iff.mp g1
          rw [List.getElem?_append_left (by rw [List.length_map]; exact hl), List.getElem?_map, g1]
          rfl
        have hs' := (ag i (hio i hi)).trans hs
        unfold outS at e
        simp only [hi] at e
        split at e
        · rename_i l' el
          cases e
          exact ⟨i, out, rfl, el, rfl, hs'⟩
        · cases e
    refine ⟨fun a ea => ?_, fun a ea => ?_⟩
    · obtain ⟨i, l, hi, el, rfl, hs⟩ := key a ea
      have s := R.slot i _ el
      rw [hs] at s
      cases s with
      | fr hF hB hH hO r =>
        cases hO
        exact ⟨hB, _, hH, r⟩
    · obtain ⟨i, l, hi, el, rfl, hs⟩ := key a ea
      exact ⟨i, ⟨_, el⟩, hs⟩
  split at r
  · rename_i ρ' e1
    rw [e1]
    cases e2 : outS io ρ' with
    | none =>
      rw [e2] at r
      cases r
    | some out =>
      rw [e2] at r
      cases r
      intro σ' B' H' R sm ag
      exact o .non B' H' sm R.exB R.exF R.dis (cout R ag e2).1 (.sh .non)
  · rename_i sv ρ' e1
    rw [e1]
    cases e2 : outS io ρ' with
    | none =>
      rw [e2] at r
      cases r
    | some out =>
      rw [e2] at r
      cases r
      intro v σ' B' H' R sm ag rv
      refine o v B' H' sm R.exB R.exF R.dis (cout R ag e2).1 ?_
      cases rv with
      | sh r => exact .sh r
      | fr hF hB hH hO r no =>
        refine .fr hF hB hH hO r fun z => ?_
        obtain ⟨i, oi⟩ := (cout R ag e2).2 _ z
        exact no i oi
  · rename_i cx ρ' e1
    rw [e1]
    cases e2 : outS io ρ' with
    | none =>
      rw [e2] at r
      cases r
    | some out =>
      rw [e2] at r
      cases r
      intro σ' B' H' R sm ag
      exact hW _ _ _ _ (o B' H' sm R.exB R.exF R.dis (cout R ag e2).1)
  · cases r
/-- THE RULE for a def -/
theorem fn_ok {x qual : Str} {st : Stmt} {f : Addr} {fd : FuncData} {N ps : List Str} {k n : Nat} {io : Option Nat} {Φ : List D → Option CR} {m : SM} {w : List Nat} (G : Fun K x qual st f fd) (S : FnScope N ps (defScope st)) (hn : ps.length = n) (hio : ∀ i, io = some i → i ∉ w)
    (body : ∀ (cdv : Value) (A : Around) (outer : List Env) (s : Shared) (H : Hp) (E : XK), Room k (A.deeper (envOfC qual (defScope st) s.heap.objs.size f cdv)) →
      ∃ t, SndSs cv (cxOf (L2.CX P w') P w' K mg base N qual (defScope st) f cdv A outer s H E) (fun cls d _ H => E cls d H) (defBody st) t m w)
    (run : ∀ ds res, Φ ds = some res → runB io N.length m ds = some res) : FnOk P w' K mg base (L2.CX P w') (k + 1) f fd ps (spI cv K n io Φ) := by
  refine G.okX S (fun vs H Q E h => h.1.trans hn.symm) fun cdv A outer s H vs Q E hr h => ?_
  obtain ⟨t, b⟩ := body cdv A outer s H E hr
  exact ⟨t, b.ps, ends_of (fun _ _ _ _ h => h) hio b.ad run h⟩
end

end Sim

namespace Sim
open PySem PySem.Spec PyProof.Rows L2

/-! ### what is walked -/
structure Itb where
  ds : List D
  pk : List (Nat × List D)
def ItOk (K : PySem.W.Frag) (B : Hp) (σ : L2.St) (J : It) (ib : Itb) : Prop :=
  ∀ (F1 B1 H1 : Hp) (σ1 : L2.St) (ρ1 : Sl), Rel K F1 B1 H1 σ1 ρ1 → Same B B1 → (∀ q ∈ ib.pk, σ1[q.1]? = σ[q.1]? ∧ ρ1[q.1]? = some (some (.fr q.2))) →
    ∀ i, (∀ d, ib.ds[i]? = some d → J.go i H1 ∧ ∀ x H', J.yld i H1 x H' → ∃ B', Rel K F1 B' H' σ1 ρ1 ∧ Same B1 B' ∧ Rep K B' x d) ∧ (ib.ds.length ≤ i → J.stop i H1)
def AdmI (cv : Nat → Value) (W : WX) (K : PySem.W.Frag) (t : TI) (m : M Itb) : Prop :=
  ∀ (F B H : Hp) (σ : L2.St) (ρ : Sl) (R' : It → Hp → Prop), Rel K F B H σ ρ →
    wpm m ρ (fun ib ρ' => ∀ J B' H', Rel K F B' H' σ ρ' → Same B B' → ItOk K B' σ J ib → R' J H') (fun c ρ' => ∀ B' H', Rel K F B' H' σ ρ' → Same B B' → W (cv c) none σ H') → t σ H R'
structure SndI (cv : Nat → Value) (X : Cx) (W : WX) (tg iter : Expr) (t : TI) (m : M Itb) : Prop where
  pi : PI X tg iter t
  ad : AdmI cv W X.K t m
/-- a list operand's items, and the slot that it hangs on -/
def lsOf (ρ : Sl) : Op → Option Itb
  | .val (.lst l) => some ⟨l, []⟩
  | .val (.scr l) => some ⟨l.map .int, []⟩
  | .slot i => match ρ[i]? with
    | some (some (.ow (.lst l))) => some ⟨l, [(i, l)]⟩
    | some (some (.sh (.lst l))) => some ⟨l, []⟩
    | some (some (.sh (.scr l))) => some ⟨l.map .int, []⟩
    | _ => none
  | _ => none
/-- at every later state the list is there -/
def LsAt (K : PySem.W.Frag) (B : Hp) (σ : L2.St) (a : Addr) (ib : Itb) : Prop :=
  ∀ (F1 B1 H1 : Hp) (σ1 : L2.St) (ρ1 : Sl), Rel K F1 B1 H1 σ1 ρ1 → Same B B1 → (∀ q ∈ ib.pk, σ1[q.1]? = σ[q.1]? ∧ ρ1[q.1]? = some (some (.fr q.2))) → ∃ xs, SqL K H1 a xs ∧ RepL K B1 xs ib.ds
theorem wpm_map {α : Type} {g : Sl → Option α} {ρ : Sl} {Q : α → Sl → Prop} {E : Nat → Sl → Prop} (q : wpm (fun ρ => (g ρ).map fun a => Out.ok a ρ) ρ Q E) : ∃ a, g ρ = some a ∧ Q a ρ := by
  unfold wpm at q
  cases e : g ρ with
  | none =>
    simp only [e, Option.map_none] at q
  | some a =>
    simp only [e, Option.map_some] at q
    exact ⟨a, rfl, q⟩
theorem lsAt_of {K : PySem.W.Frag} {F B H : Hp} {σ : L2.St} {ρ : Sl} {v : V} {o : Op} {ib : Itb} (R : Rel K F B H σ ρ) (ov : OpV K B σ v o) (h : lsOf ρ o = some ib) : ∃ a xs, v = .ref a ∧ SqL K H a xs ∧ RepL K B xs ib.ds ∧ LsAt K B σ a ib := by
  have shr : ∀ {d : D} {l : List D}, Rep K B v d → (d = .lst l ∨ ∃ ns, d = .scr ns ∧ l = ns.map .int) → ∃ a xs, v = .ref a ∧ SqL K H a xs ∧ RepL K B xs l ∧ LsAt K B σ a ⟨l, []⟩ := fun {d l} r h => by
    rcases h with rfl | ⟨ns, rfl, rfl⟩
    · cases r with
      | @lst a xs _ hB rl => exact ⟨a, xs, rfl, SqL.of (R.exB _ _ hB), rl, fun F1 B1 H1 σ1 ρ1 R1 sm _ => ⟨xs, SqL.of (R1.exB _ _ (sm _ _ hB)), rl.mono sm _ _⟩⟩
    · cases r with
      | @scr a _ hB => exact ⟨a, _, rfl, R.exB.seq hB, RepL.ints _, fun F1 B1 H1 σ1 ρ1 R1 sm _ => ⟨_, R1.exB.seq (sm.seq hB), RepL.ints _⟩⟩
  cases ov with
  | @val d r =>
    unfold lsOf at h
    split at h
    · rename_i e
      cases e
      cases h
      exact shr r (.inl rfl)
    · rename_i e
      cases e
      cases h
      exact shr r (.inr ⟨_, rfl, rfl⟩)
    · rename_i e
      cases e
    · cases h
  | @slot i hs =>
    have h : (match ρ[i]? with
      | some (some (.ow (.lst l))) => some (⟨l, [(i, l)]⟩ : Itb)
      | some (some (.sh (.lst l))) => some ⟨l, []⟩
      | some (some (.sh (.scr l))) => some ⟨l.map .int, []⟩
      | _ => none) = some ib := h
    split at h
    · rename_i l e
      cases h
      have s := R.slot i _ e
      rw [hs] at s
      cases s with
      | @fr a o xs _ hF hB hH hO r =>
        cases hO
        refine ⟨a, xs, rfl, SqL.of hH, r, fun F1 B1 H1 σ1 ρ1 R1 sm g => ?_⟩
        obtain ⟨g1, g2⟩ := g (i, l) List.mem_cons_self
        have s1 := R1.slot i _ g2
        have g1 : σ1[i]? = σ[i]? := g1
        rw [g1, hs] at s1
        cases s1 with
        | fr hF hB hH hO r =>
          cases hO
          exact ⟨_, SqL.of hH, r⟩
    · rename_i l e
      cases h
      have s := R.slot i _ e
      rw [hs] at s
      cases s with
      | sh r => exact shr r (.inl rfl)
    · rename_i l e
      cases h
      have s := R.slot i _ e
      rw [hs] at s
      cases s with
      | sh r => exact shr r (.inr ⟨_, rfl, rfl⟩)
    · cases h
def liftI {α : Type} (a : M α) (g : α → Sl → Option Itb) : M Itb := bnd a fun o ρ => (g o ρ).map fun ib => .ok ib ρ
def jLs (o : Op) (ρ : Sl) : Option Itb := lsOf ρ o
def jTp (o : Op) (ρ : Sl) : Option Itb := match get ρ o with
  | some (.tup l) => some ⟨l, []⟩
  | _ => none
def RngOk (j : Int) : Prop := -(2 ^ 62) ≤ j ∧ j < 2 ^ 62
instance (j : Int) : Decidable (RngOk j) := by unfold RngOk; infer_instance
def rngD (lo : Int) (n : Nat) : List D := (List.range n).map fun k => .int (lo + (k : Nat))
def jR1 (os : List Op) (ρ : Sl) : Option Itb := match gets ρ os with
  | some [.int j] => if RngOk j then some ⟨rngD 0 j.toNat, []⟩ else none
  | _ => none
def jR2 (os : List Op) (ρ : Sl) : Option Itb := match gets ρ os with
  | some [.int i, .int j] => if RngOk i ∧ RngOk j then some ⟨rngD i (j - i).toNat, []⟩ else none
  | _ => none
def jRev (os : List Op) (ρ : Sl) : Option Itb := match os with
  | [o] => (lsOf ρ o).map fun ib => ⟨ib.ds.reverse, ib.pk⟩
  | _ => none
def zipD : List D → List D → List D
  | x :: xs, y :: ys => .tup [x, y] :: zipD xs ys
  | _, _ => []
def enumD : Nat → List D → List D
  | i, x :: xs => .tup [.int (i : Nat), x] :: enumD (i + 1) xs
  | _, [] => []
def jZp (os : List Op) (ρ : Sl) : Option Itb := match os with
  | [o, p] => (lsOf ρ o).bind fun x => (lsOf ρ p).map fun y => ⟨zipD x.ds y.ds, x.pk ++ y.pk⟩
  | _ => none
def jEn (os : List Op) (ρ : Sl) : Option Itb := match os with
  | [o] => (lsOf ρ o).map fun ib => ⟨enumD 0 ib.ds, ib.pk⟩
  | _ => none
def iLs (a : M Op) : M Itb := liftI a jLs
def iTp (a : M Op) : M Itb := liftI a jTp
def iR1 (as : M (List Op)) : M Itb := liftI as jR1
def iR2 (as : M (List Op)) : M Itb := liftI as jR2
def iRv (as : M (List Op)) : M Itb := liftI as jRev
def iZp (as : M (List Op)) : M Itb := liftI as jZp
def iEn (as : M (List Op)) : M Itb := liftI as jEn
theorem wpm_get1 {α : Type} {K : PySem.W.Frag} {F B H : Hp} {σ : L2.St} {ρ : Sl} {vs : List V} {d : D} {os : List Op} (R : Rel K F B H σ ρ) (ov : OpVs K B σ vs os) (h : gets ρ os = some [d]) : ∃ v, vs = [v] ∧ OpRep K B H v d := (ov.rep R h).one
section
variable {cv : Nat → Value} {X : Cx} {W : WX} {e a b tg : Expr} {te ta : TE} {ts : TA} {f : M Op} {fs : M (List Op)} {pos p : Pos}
theorem sni_list (h : SndO cv X W e te f) : SndI cv X W tg e (iList X.K te) (iLs f) := by
  refine ⟨pi_list h.pe, fun F B H σ ρ Q R q => ?_⟩
  refine h.ad F B H σ ρ _ R (wpm_mono (wpm_bnd q) (fun o ρ1 q v B1 H1 R1 sm1 ov => ?_) fun _ _ q => q)
  obtain ⟨ib, e1, q⟩ := wpm_map q
  obtain ⟨a, xs, rfl, hq, rl, at_⟩ := lsAt_of R1 ov e1
  refine ⟨a, rfl, ⟨xs, hq⟩, q _ B1 H1 R1 sm1 fun F2 B2 H2 σ2 ρ2 R2 sm2 g i => ?_⟩
  obtain ⟨ys, h1, r1⟩ := at_ F2 B2 H2 σ2 ρ2 R2 sm2 g
  refine ⟨fun d hd => ?_, fun hl => ⟨ys, h1, by rw [r1.length]; exact hl⟩⟩
  obtain ⟨y, hy, ry⟩ := r1.get hd
  refine ⟨⟨ys, y, h1, hy⟩, fun x H' hyd => ?_⟩
  obtain ⟨rfl, hx⟩ := hyd
  have := hx ys h1
  rw [hy] at this
  cases this
  exact ⟨B2, R2, Same.refl _, ry⟩
theorem sni_tup (h : SndO cv X W e te f) : SndI cv X W tg e (iTup X.K te) (iTp f) := by
  refine ⟨pi_tup h.pe, fun F B H σ ρ Q R q => ?_⟩
  refine h.ad F B H σ ρ _ R (wpm_mono (wpm_bnd q) (fun o ρ1 q v B1 H1 R1 sm1 ov => ?_) fun _ _ q => q)
  obtain ⟨ib, e1, q⟩ := wpm_map q
  unfold jTp at e1
  split at e1
  · rename_i l e2
    cases e1
    cases ov.rep R1 e2 with
    | sh r =>
      cases r with
      | @tup a xs _ hB rl =>
        refine ⟨a, rfl, ⟨xs, (hB.mono fun a xs q => R1.exB a _ q).sq⟩, q _ B1 H1 R1 sm1 fun F2 B2 H2 σ2 ρ2 R2 sm2 g i => ?_⟩
        have h2 : SqT X.K H2 a xs := (hB.mono fun a xs q => R2.exB a _ (sm2 _ _ q)).sq
        refine ⟨fun d hd => ?_, fun hl => ⟨xs, h2, by rw [rl.length]; exact hl⟩⟩
        obtain ⟨y, hy, ry⟩ := rl.get hd
        refine ⟨⟨xs, y, h2, hy⟩, fun x H' hyd => ?_⟩
        obtain ⟨rfl, hx⟩ := hyd
        have := hx xs h2
        rw [hy] at this
        cases this
        exact ⟨B2, R2, Same.refl _, ry.mono sm2 _ _⟩
    | @own a o xs c _ hB hH hO r e => cases c <;> cases e
  · cases e1
theorem itr_ok {K : PySem.W.Frag} {B : Hp} {σ : L2.St} {lo : Int} {n : Nat} : ItOk K B σ (Itr lo n) ⟨rngD lo n, []⟩ := fun F2 B2 H2 σ2 ρ2 R2 sm2 g i => by
  have hl : (rngD lo n).length = n := by unfold rngD; rw [List.length_map, List.length_range]
  refine ⟨fun d hd => ?_, fun h => ?_⟩
  · obtain ⟨hlt, e⟩ := List.getElem?_eq_some_iff.mp hd
    have hi : i < n := hl ▸ hlt
    refine ⟨hi, fun x H' hy => ?_⟩
    obtain ⟨rfl, rfl⟩ := hy
    have hd : (rngD lo n)[i]? = some d := hd
    unfold rngD at hd
    rw [List.getElem?_map, List.getElem?_range hi] at hd
    cases hd
    exact ⟨B2, R2, Same.refl _, .int _⟩
  · show n ≤ i
    have h' : (rngD lo n).length ≤ i := h
    rw [hl] at h'
    exact h'
theorem sni_r1 (hg : Gl X "range") (hm : X.mg "range" = none) (ha : SndA cv X W [a] ts fs) (hs : starEach [a] X.env = [(false, eval a X.env)] := by rfl) : SndI cv X W tg (.Call (.Name "range" p) [a] [] pos) (iRng1 ts) (iR1 fs) := by
  refine ⟨pi_range1 hg hm ha.pa hs, fun F B H σ ρ Q R q => ?_⟩
  refine ha.ad F B H σ ρ _ R (wpm_mono (wpm_bnd q) (fun o ρ1 q v B1 H1 R1 sm1 ov => ?_) fun _ _ q => q)
  obtain ⟨ib, e1, q⟩ := wpm_map q
  unfold jR1 at e1
  split at e1
  · rename_i j e2
    split at e1
    · rename_i hj
      cases e1
      obtain ⟨x, rfl, r⟩ := (ov.rep R1 e2).one
      cases r.int
      exact ⟨j, rfl, hj.1, hj.2, q _ B1 H1 R1 sm1 itr_ok⟩
    · cases e1
  · cases e1
theorem sni_r2 (hg : Gl X "range") (hm : X.mg "range" = none) (ha : SndA cv X W [a, b] ts fs) (hs : starEach [a, b] X.env = [(false, eval a X.env), (false, eval b X.env)] := by rfl) (hs2 : starEach [b] X.env = [(false, eval b X.env)] := by rfl) :
    SndI cv X W tg (.Call (.Name "range" p) [a, b] [] pos) (iRng2 ts) (iR2 fs) := by
  refine ⟨pi_range2 hg hm ha.pa hs hs2, fun F B H σ ρ Q R q => ?_⟩
  refine ha.ad F B H σ ρ _ R (wpm_mono (wpm_bnd q) (fun o ρ1 q v B1 H1 R1 sm1 ov => ?_) fun _ _ q => q)
  obtain ⟨ib, e1, q⟩ := wpm_map q
  unfold jR2 at e1
  split at e1
  · rename_i i j e2
    split at e1
    · rename_i hj
      cases e1
      obtain ⟨x, y, rfl, r, r'⟩ := (ov.rep R1 e2).two
      cases r.int
      cases r'.int
      exact ⟨i, j, rfl, ⟨hj.1.1, hj.1.2, hj.2.1, hj.2.2⟩, q _ B1 H1 R1 sm1 itr_ok⟩
    · cases e1
  · cases e1
theorem OpVs.one {K : PySem.W.Frag} {B : Hp} {σ : L2.St} {vs : List V} {o : Op} (h : OpVs K B σ vs [o]) : ∃ v, vs = [v] ∧ OpV K B σ v o := by
  cases h with
  | cons h t =>
    cases t
    exact ⟨_, rfl, h⟩
theorem OpVs.two {K : PySem.W.Frag} {B : Hp} {σ : L2.St} {vs : List V} {o p : Op} (h : OpVs K B σ vs [o, p]) : ∃ v w, vs = [v, w] ∧ OpV K B σ v o ∧ OpV K B σ w p := by
  cases h with
  | cons h t =>
    obtain ⟨w, rfl, r⟩ := t.one
    exact ⟨_, w, rfl, h, r⟩
theorem sni_rev (hg : Gl X "reversed") (hm : X.mg "reversed" = none) (ha : SndA cv X W [a] ts fs) (hs : starEach [a] X.env = [(false, eval a X.env)] := by rfl) : SndI cv X W tg (.Call (.Name "reversed" p) [a] [] pos) (iRev X.K ts) (iRv fs) := by
  refine ⟨pi_reversed hg hm ha.pa hs, fun F B H σ ρ Q R q => ?_⟩
  refine ha.ad F B H σ ρ _ R (wpm_mono (wpm_bnd q) (fun os ρ1 q v B1 H1 R1 sm1 ov => ?_) fun _ _ q => q)
  obtain ⟨jb, e1, q⟩ := wpm_map q
  unfold jRev at e1
  split at e1
  · rename_i o
    cases e2 : lsOf ρ1 o with
    | none =>
      rw [e2] at e1
      cases e1
    | some ib =>
      rw [e2] at e1
      cases e1
      obtain ⟨x, rfl, ox⟩ := ov.one
      obtain ⟨a, xs, rfl, hq, rl, at_⟩ := lsAt_of R1 ox e2
      refine ⟨a, xs, rfl, hq, q _ B1 H1 R1 sm1 fun F2 B2 H2 σ2 ρ2 R2 sm2 g i => ?_⟩
      obtain ⟨ys, h1, r1⟩ := at_ F2 B2 H2 σ2 ρ2 R2 sm2 g
      have len : xs.length = ib.ds.length := rl.length
      refine ⟨fun d hd => ?_, fun hl => by
        show xs.length ≤ i
        rw [len, ← List.length_reverse]
        exact hl⟩
      have hd : ib.ds.reverse[i]? = some d := hd
      have hi : i < ib.ds.length := by
        have := (List.getElem?_eq_some_iff.mp hd).1
        rw [List.length_reverse] at this
        exact this
      have hd' : ib.ds[xs.length - 1 - i]? = some d := by
        rw [len]
        rw [List.getElem?_reverse hi] at hd
        exact hd
      obtain ⟨y, hy, ry⟩ := r1.get hd'
      refine ⟨⟨len ▸ hi, ys, y, h1, hy⟩, fun x H' hyd => ?_⟩
      obtain ⟨rfl, hx⟩ := hyd
      have := hx ys h1
      rw [hy] at this
      cases this
      exact ⟨B2, R2, Same.refl _, ry⟩
  · cases e1
theorem zipD_at : ∀ {xs ys : List D} {i : Nat} {d : D}, (zipD xs ys)[i]? = some d → ∃ x y, xs[i]? = some x ∧ ys[i]? = some y ∧ d = .tup [x, y]
  | x :: xs, y :: ys, 0, d, h => by
    unfold zipD at h
    have h' : D.tup [x, y] = d := by simpa using h
    exact ⟨x, y, rfl, rfl, h'.symm⟩
  | x :: xs, y :: ys, i + 1, d, h => by
    unfold zipD at h
    obtain ⟨x', y', h1, h2, h3⟩ := zipD_at (xs := xs) (ys := ys) (i := i) (d := d) (by simpa using h)
    exact ⟨x', y', by simpa using h1, by simpa using h2, h3⟩
  | [], ys, i, d, h => by
    unfold zipD at h
    simp at h
  | x :: xs, [], i, d, h => by
    unfold zipD at h
    simp at h
theorem zipD_len : ∀ {xs ys : List D} {i : Nat}, (zipD xs ys).length ≤ i → xs.length ≤ i ∨ ys.length ≤ i
  | x :: xs, y :: ys, 0, h => by
    unfold zipD at h
    simp at h
  | x :: xs, y :: ys, i + 1, h => by
    unfold zipD at h
    rcases zipD_len (xs := xs) (ys := ys) (i := i) (by simpa using h) with h | h
    · exact .inl (by simpa using h)
    · exact .inr (by simpa using h)
  | [], ys, i, h => .inl (Nat.zero_le _)
  | x :: xs, [], i, h => .inr (Nat.zero_le _)
theorem sni_zip {elts : List Expr} {kk : Nat} {tpos : Pos} (hg : Gl X "zip") (hm : X.mg "zip" = none) (ha : SndA cv X W [a, b] ts fs)
    (hs : starEach [a, b] X.env = (false, eval a X.env) :: starEach [b] X.env := by rfl) (hpl : (backTo pos (starEach [b] X.env)).any (·.1) = false := by rfl) :
    SndI cv X W (.Tuple elts kk tpos) (.Call (.Name "zip" p) [a, b] [] pos) (iZip X.K ts) (iZp fs) := by
  refine ⟨pi_zip hg hm ha.pa hs hpl, fun F B H σ ρ Q R q => ?_⟩
  refine ha.ad F B H σ ρ _ R (wpm_mono (wpm_bnd q) (fun os ρ1 q v B1 H1 R1 sm1 ov => ?_) fun _ _ q => q)
  obtain ⟨jb, e1, q⟩ := wpm_map q
  unfold jZp at e1
  split at e1
  · rename_i o o2
    cases e2 : lsOf ρ1 o with
    | none =>
      rw [e2] at e1
      cases e1
    | some ix =>
      cases e3 : lsOf ρ1 o2 with
      | none =>
        rw [e2, e3] at e1
        cases e1
      | some iy =>
        rw [e2, e3] at e1
        cases e1
        obtain ⟨x, y, rfl, ox, oy⟩ := ov.two
        obtain ⟨a, xs, rfl, hq, rl, at_⟩ := lsAt_of R1 ox e2
        obtain ⟨b, ys, rfl, hq', rl', at'⟩ := lsAt_of R1 oy e3
        refine ⟨a, b, xs, ys, rfl, hq, hq', q _ B1 H1 R1 sm1 fun F2 B2 H2 σ2 ρ2 R2 sm2 g i => ?_⟩
        obtain ⟨us, h1, r1⟩ := at_ F2 B2 H2 σ2 ρ2 R2 sm2 fun q hq => g q (List.mem_append_left _ hq)
        obtain ⟨ws, h2, r2⟩ := at' F2 B2 H2 σ2 ρ2 R2 sm2 fun q hq => g q (List.mem_append_right _ hq)
        refine ⟨fun d hd => ?_, fun hl => ⟨us, ws, h1, h2, by rw [r1.length, r2.length]; exact zipD_len hl⟩⟩
        obtain ⟨dx, dy, g1, g2, rfl⟩ := zipD_at hd
        obtain ⟨u, hu, ru⟩ := r1.get g1
        obtain ⟨z, hz, rz⟩ := r2.get g2
        refine ⟨⟨us, ws, u, z, h1, h2, hu, hz⟩, fun x H' hyd => ?_⟩
        obtain ⟨T, x1, y1, rfl, nT, rfl, f1, f2⟩ := hyd
        have e4 := f1 us h1
        rw [hu] at e4
        cases e4
        have e5 := f2 ws h2
        rw [hz] at e5
        cases e5
        obtain ⟨R3, sm3⟩ := R2.newB (o := .tup [u, z]) nT
        exact ⟨_, R3, sm3, .tup (.inl upd_same) (.cons (ru.mono sm3 _ _) (.cons (rz.mono sm3 _ _) .nil))⟩
  · cases e1
theorem enumD_at : ∀ {k : Nat} {xs : List D} {i : Nat} {d : D}, (enumD k xs)[i]? = some d → ∃ x, xs[i]? = some x ∧ d = .tup [.int ((k + i : Nat)), x]
  | k, x :: xs, 0, d, h => by
    unfold enumD at h
    have h' : D.tup [.int (k : Nat), x] = d := by simpa using h
    exact ⟨x, rfl, h'.symm⟩
  | k, x :: xs, i + 1, d, h => by
    unfold enumD at h
    obtain ⟨x', h1, h2⟩ := enumD_at (k := k + 1) (xs := xs) (i := i) (d := d) (by simpa using h)
    refine ⟨x', by simpa using h1, ?_⟩
    rw [h2, show k + 1 + i = k + (i + 1) by omega]
  | k, [], i, d, h => by
    unfold enumD at h
    simp at h
theorem enumD_length : ∀ (k : Nat) (xs : List D), (enumD k xs).length = xs.length
  | k, x :: xs => by
    unfold enumD
    rw [List.length_cons, List.length_cons, enumD_length]
  | k, [] => by
    unfold enumD
    rfl
theorem sni_enum {elts : List Expr} {kk : Nat} {tpos : Pos} (hg : Gl X "enumerate") (hm : X.mg "enumerate" = none) (ha : SndA cv X W [a] ts fs) (hs : starEach [a] X.env = [(false, eval a X.env)] := by rfl) :
    SndI cv X W (.Tuple elts kk tpos) (.Call (.Name "enumerate" p) [a] [] pos) (iEnum X.K ts) (iEn fs) := by
  refine ⟨pi_enum hg hm ha.pa hs, fun F B H σ ρ Q R q => ?_⟩
  refine ha.ad F B H σ ρ _ R (wpm_mono (wpm_bnd q) (fun os ρ1 q v B1 H1 R1 sm1 ov => ?_) fun _ _ q => q)
  obtain ⟨jb, e1, q⟩ := wpm_map q
  unfold jEn at e1
  split at e1
  · rename_i o
    cases e2 : lsOf ρ1 o with
    | none =>
      rw [e2] at e1
      cases e1
    | some ib =>
      rw [e2] at e1
      cases e1
      obtain ⟨x, rfl, ox⟩ := ov.one
      obtain ⟨a, xs, rfl, hq, rl, at_⟩ := lsAt_of R1 ox e2
      refine ⟨a, xs, rfl, hq, q _ B1 H1 R1 sm1 fun F2 B2 H2 σ2 ρ2 R2 sm2 g i => ?_⟩
      obtain ⟨ys, h1, r1⟩ := at_ F2 B2 H2 σ2 ρ2 R2 sm2 g
      refine ⟨fun d hd => ?_, fun hl => ⟨ys, h1, by
        rw [r1.length, ← enumD_length 0]
        exact hl⟩⟩
      obtain ⟨x, hx, rfl⟩ := enumD_at hd
      obtain ⟨y, hy, ry⟩ := r1.get hx
      refine ⟨⟨ys, y, h1, hy⟩, fun x' H' hyd => ?_⟩
      obtain ⟨T, x1, rfl, nT, rfl, f1⟩ := hyd
      have e4 := f1 ys h1
      rw [hy] at e4
      cases e4
      obtain ⟨R3, sm3⟩ := R2.newB (o := .tup [.int (i : Nat), y]) nT
      refine ⟨_, R3, sm3, ?_⟩
      rw [show (0 + i : Nat) = i by omega]
      exact .tup (.inl upd_same) (.cons (.int _) (.cons (ry.mono sm3 _ _) .nil))
  · cases e1
end
end Sim

namespace Sim
open PySem PySem.Spec PyProof.Rows L2

/-! ### for -/
/-- behind a turn's body: go on with k -/
def turnK (k : SM) : Option SO → Option SO
  | some (.nx ρ) => k ρ
  | some (.ct ρ) => k ρ
  | some (.bk ρ) => some (.nx ρ)
  | o => o
def forL (g : SV → Sl → Option Sl) (body : SM) : List D → SM
  | [] => sNx
  | d :: ds => fun ρ => (g (.sh d) ρ).bind fun ρ1 => turnK (forL g body ds) (body ρ1)
def sFor (it : M Itb) (g : SV → Sl → Option Sl) (body : SM) : SM := sEx it fun ib => if ib.pk = [] then forL g body ib.ds else fun _ => none
section
variable {cv : Nat → Value} {X : Cx} {W : WX} {e a b c tg iter : Expr} {st : Stmt} {sts as bs : List Stmt} {te ta tb : TE} {tc : TT} {t u : TS} {f : M SV} {m n : SM} {w w' : List Nat} {pos p p2 : Pos}
theorem sns_for {wi : TI} {tgt : TG} {g : SV → Sl → Option Sl} {it : M Itb} (hp : PassesOwn (model X.prog X.w) X.A X.env X.xe) (hc : X.calm = true) (hi : SndI cv X W tg iter wi it) (hg : SndG X tg tgt g w) (hb : SndSs cv X W sts t m w')
    (hs : ∀ x, foldedSetIterable iter X.env x = pure x := by intro _; rfl) : SndS cv X W (.For tg iter sts [] pos) (tFor wi tgt t) (sFor it g m) (w ++ w') := by
  refine ⟨ps_for hp hc hi.pi hg.pg hb.ps hs, fun F B H σ ρ D R q => ?_⟩
  refine hi.ad F B H σ ρ _ R (wpm_mono (ws_ex q) (fun ib ρ1 q J B1 H1 R1 sm ok => ?_) fun _ _ q => q)
  by_cases hpk : ib.pk = []
  · rw [if_pos hpk] at q
    refine ⟨fun i k σ2 H2 => k = ib.ds.length - i ∧ i ≤ ib.ds.length ∧ ∃ ρ2 B2, Rel X.K F B2 H2 σ2 ρ2 ∧ Same B1 B2 ∧ Agr (w ++ w') σ σ2 ∧ (wsOf cv W X.K F B σ (w ++ w') D).at (forL g m (ib.ds.drop i) ρ2),
      ⟨ib.ds.length, by simp, Nat.zero_le _, ρ1, B1, R1, Same.refl _, Agr.refl, by simpa using q⟩, ?_⟩
    rintro i k σ2 H2 ⟨rfl, hle, ρ2, B2, R2, sm2, ag2, q2⟩
    have ok2 := ok F B2 H2 σ2 ρ2 R2 sm2 (by rw [hpk]; exact fun q hq => nomatch hq) i
    by_cases hlt : i < ib.ds.length
    · obtain ⟨go, yl⟩ := ok2.1 _ (List.getElem?_eq_getElem hlt)
      rw [List.drop_eq_getElem_cons hlt] at q2
      refine .inr ⟨go, fun σ' H' => ∃ ρ' B', Rel X.K F B' H' σ' ρ' ∧ Same B1 B' ∧ Agr (w ++ w') σ σ' ∧ (wsOf cv W X.K F B σ (w ++ w') D).at (forL g m (ib.ds.drop (i + 1)) ρ'), fun σ' H' ⟨ρ', B', h1, h2, h3, h4⟩ => ⟨_, by omega, rfl, hlt, ρ', B', h1, h2, h3, h4⟩, fun x H' hy => ?_⟩
      obtain ⟨B3, R3, sm3, rep⟩ := yl x H' hy
      have q2 : (wsOf cv W X.K F B σ (w ++ w') D).at ((g (.sh ib.ds[i]) ρ2).bind fun ρ1 => turnK (forL g m (ib.ds.drop (i + 1))) (m ρ1)) := q2
      cases e1 : g (.sh ib.ds[i]) ρ2 with
      | none =>
        rw [e1] at q2
        exact q2.elim
      | some ρ3 =>
        rw [e1] at q2
        have q2 : (wsOf cv W X.K F B σ (w ++ w') D).at (turnK (forL g m (ib.ds.drop (i + 1))) (m ρ3)) := q2
        refine hg.ad F B3 H' σ2 ρ2 x _ ρ3 _ R3 (.sh rep) e1 fun σ3 R4 ag3 _ => ?_
        refine hb.ad F B3 H' σ3 ρ3 _ R4 ?_
        have agA : ∀ {σ4 : L2.St}, Agr w' σ3 σ4 → Agr (w ++ w') σ σ4 := fun a4 => ((ag2.tr (ag3.mono fun j h => List.mem_append_left _ h)).tr (a4.mono fun j h => List.mem_append_right _ h))
        have smA : ∀ {B4 : Hp}, Same B3 B4 → Same B1 B4 := fun s4 => (sm2.trans sm3).trans s4
        cases e2 : m ρ3 with
        | none =>
          rw [e2] at q2
          exact q2.elim
        | some o =>
          rw [e2] at q2
          cases o with
          | nx ρ4 => exact fun σ4 B4 H4 R5 s4 a4 => ⟨ρ4, B4, R5, smA s4, agA a4, q2⟩
          | ct ρ4 => exact fun σ4 B4 H4 R5 s4 a4 => ⟨ρ4, B4, R5, smA s4, agA a4, q2⟩
          | bk ρ4 => exact fun σ4 B4 H4 R5 s4 a4 => q2 σ4 B4 H4 R5 (sm.trans (smA s4)) (agA a4)
          | rt sv ρ4 => exact fun v σ4 B4 H4 R5 s4 a4 rv => q2 v σ4 B4 H4 R5 (sm.trans (smA s4)) (agA a4) rv
          | ex cx ρ4 => exact fun σ4 B4 H4 R5 s4 a4 => q2 σ4 B4 H4 R5 (sm.trans (smA s4)) (agA a4)
    · have ei : i = ib.ds.length := by omega
      refine .inl ⟨ok2.2 (by omega), ?_⟩
      rw [ei, List.drop_length] at q2
      exact q2 σ2 B2 H2 R2 (sm.trans sm2) ag2
  · rw [if_neg hpk] at q
    exact q.elim

/-! ### while -/
def loopN (c : M Bool) (body : SM) : Nat → SM
  | 0 => fun _ => none
  | n + 1 => sEx c fun b => if b = true then fun ρ => turnK (loopN c body n) (body ρ) else sNx
open Classical in
noncomputable def sWhile (c : M Bool) (body : SM) : SM := fun ρ => if h : ∃ n, loopN c body n ρ ≠ none then loopN c body (Classical.choose h) ρ else none
theorem loopN_mono {c : M Bool} {body : SM} : ∀ {n : Nat} {ρ : Sl} {o : SO}, loopN c body n ρ = some o → loopN c body (n + 1) ρ = some o
  | 0, ρ, o, h => by cases h
  | n + 1, ρ, o, h => by
    unfold loopN at h ⊢
    unfold sEx at h ⊢
    cases e : c ρ with
    | none =>
      rw [e] at h
      cases h
    | some r =>
      rw [e] at h
      cases r with
      | ex cx ρ' => exact h
      | ok b ρ' =>
        cases b with
        | false => exact h
        | true =>
          have h : turnK (loopN c body n) (body ρ') = some o := h
          show turnK (loopN c body (n + 1)) (body ρ') = some o
          cases e2 : body ρ' with
          | none =>
            rw [e2] at h
            cases h
          | some s =>
            rw [e2] at h
            cases s with
            | nx ρ2 => exact loopN_mono (n := n) h
            | ct ρ2 => exact loopN_mono (n := n) h
            | bk ρ2 => exact h
            | rt sv ρ2 => exact h
            | ex cx ρ2 => exact h
theorem loopN_le {c : M Bool} {body : SM} {n k : Nat} {ρ : Sl} {o : SO} (h : loopN c body n ρ = some o) : loopN c body (n + k) ρ = some o := by
  induction k with
  | zero => exact h
  | succ k ih => exact loopN_mono ih
theorem sWhile_of {c : M Bool} {body : SM} {n : Nat} {ρ : Sl} {o : SO} (h : loopN c body n ρ = some o) : sWhile c body ρ = some o := by
  have hx : ∃ n, loopN c body n ρ ≠ none := ⟨n, by rw [h]; exact fun z => nomatch z⟩
  unfold sWhile
  rw [dif_pos hx]
  have hc := Classical.choose_spec hx
  generalize Classical.choose hx = k at hc
  cases e : loopN c body k ρ with
  | none => exact (hc e).elim
  | some o' =>
    have h1 := loopN_le (k := k) h
    have h2 := loopN_le (k := n) e
    rw [Nat.add_comm] at h2
    rw [h1] at h2
    exact h2.symm
theorem sWhile_to {c : M Bool} {body : SM} {ρ : Sl} {o : SO} (h : sWhile c body ρ = some o) : ∃ n, loopN c body n ρ = some o := by
  unfold sWhile at h
  split at h
  · exact ⟨_, h⟩
  · cases h
theorem sWhile_stop {c : M Bool} {body : SM} {ρ ρ' : Sl} (h : c ρ = some (.ok false ρ')) : sWhile c body ρ = some (.nx ρ') := sWhile_of (n := 1) (by
  unfold loopN sEx
  rw [h]
  rfl)
theorem sWhile_step {c : M Bool} {body : SM} {ρ ρ1 ρ2 : Sl} {o : SO} (h : c ρ = some (.ok true ρ1)) (hb : body ρ1 = some (.nx ρ2)) (hw : sWhile c body ρ2 = some o) : sWhile c body ρ = some o := by
  obtain ⟨n, hn⟩ := sWhile_to hw
  refine sWhile_of (n := n + 1) ?_
  unfold loopN sEx
  rw [h]
  show turnK (loopN c body n) (body ρ1) = some o
  rw [hb]
  exact hn
theorem ws_ex2 {α : Type} {K : PySem.W.Frag} {F B B2 : Hp} {σ σ2 : L2.St} {D : Ends} {f : M α} {k : α → SM} {ρ : Sl} (sm : Same B B2) (ag : Agr w σ σ2) (q : (wsOf cv W K F B σ w D).at (sEx f k ρ)) :
    wpm f ρ (fun a ρ' => (wsOf cv W K F B σ w D).at (k a ρ')) fun c ρ' => ∀ B' H', Rel K F B' H' σ2 ρ' → Same B2 B' → W (cv c) none σ2 H' := by
  unfold sEx at q
  unfold wpm
  cases e : f ρ with
  | none =>
    rw [e] at q
    exact q
  | some o =>
    rw [e] at q
    cases o with
    | ok a ρ' => exact q
    | ex c ρ' => exact fun B' H' R s => q σ2 B' H' R (sm.trans s) ag
theorem sns_while {f' : M Bool} (hp : PassesOwn (model X.prog X.w) X.A X.env X.xe) (hc : SndB cv X W c tc f') (hb : SndSs cv X W sts t m w) : SndS cv X W (.While c sts [] pos) (tWhile tc t) (sWhile f' m) w := by
  refine ⟨ps_while hp hc.pt hb.ps, fun F B H σ ρ D R q => ?_⟩
  cases e0 : sWhile f' m ρ with
  | none =>
    rw [e0] at q
    exact q.elim
  | some o0 =>
    rw [e0] at q
    obtain ⟨n, hn⟩ := sWhile_to e0
    refine ⟨fun k σ2 H2 => ∃ ρ2 B2, Rel X.K F B2 H2 σ2 ρ2 ∧ Same B B2 ∧ Agr w σ σ2 ∧ (wsOf cv W X.K F B σ w D).at (loopN f' m k ρ2), ⟨n, ρ, B, R, Same.refl _, Agr.refl, by rw [hn]; exact q⟩, ?_⟩
    rintro k σ2 H2 ⟨ρ2, B2, R2, sm2, ag2, q2⟩
    cases k with
    | zero => exact q2.elim
    | succ k =>
      unfold loopN at q2
      refine hc.ad F B2 H2 σ2 ρ2 _ R2 (wpm_mono (ws_ex2 sm2 ag2 q2) (fun b ρ3 q3 b' B3 H3 R3 sm3 e1 => ?_) fun _ _ q => q)
      subst e1
      cases b' with
      | false => exact q3 σ2 B3 H3 R3 (sm2.trans sm3) ag2
      | true =>
        have q3 : (wsOf cv W X.K F B σ w D).at (turnK (loopN f' m k) (m ρ3)) := q3
        refine ⟨fun σ' H' => ∃ ρ' B', Rel X.K F B' H' σ' ρ' ∧ Same B B' ∧ Agr w σ σ' ∧ (wsOf cv W X.K F B σ w D).at (loopN f' m k ρ'), fun σ' H' ⟨ρ', B', h1, h2, h3, h4⟩ => ⟨k, Nat.lt_succ_self _, ρ', B', h1, h2, h3, h4⟩, ?_⟩
        refine hb.ad F B3 H3 σ2 ρ3 _ R3 ?_
        have smA : ∀ {B4 : Hp}, Same B3 B4 → Same B B4 := fun s4 => (sm2.trans sm3).trans s4
        cases e2 : m ρ3 with
        | none =>
          rw [e2] at q3
          exact q3.elim
        | some o =>
          rw [e2] at q3
          cases o with
          | bk ρ4 => exact fun σ4 B4 H4 R5 s4 a4 => q3 σ4 B4 H4 R5 (smA s4) (ag2.tr a4)
          | rt sv ρ4 => exact fun v σ4 B4 H4 R5 s4 a4 rv => q3 v σ4 B4 H4 R5 (smA s4) (ag2.tr a4) rv
          | ex cx ρ4 => exact fun σ4 B4 H4 R5 s4 a4 => q3 σ4 B4 H4 R5 (smA s4) (ag2.tr a4)
          | nx ρ4 => exact fun σ4 B4 H4 R5 s4 a4 => ⟨ρ4, B4, R5, smA s4, ag2.tr a4, q3⟩
          | ct ρ4 => exact fun σ4 B4 H4 R5 s4 a4 => ⟨ρ4, B4, R5, smA s4, ag2.tr a4, q3⟩
end
end Sim

namespace Sim
open PySem PySem.Spec PyProof.Rows L2

/-! ### a list that a slot owns is changed -/
theorem Rel.mutateO {K : PySem.W.Frag} {F B H : Hp} {σ : L2.St} {ρ : Sl} {i : Nat} {l : OC} (R : Rel K F B H σ ρ) (h : ρ[i]? = some (some (.ow l))) :
    ∃ a ho xs, σ[i]? = some (some (.ref a)) ∧ H a = some ho ∧ l.At K ho xs ∧ F a = none ∧ B a = none ∧ RepL K B xs l.ds ∧ ∀ ho' xs' l', OC.At K l' ho' xs' → RepL K B xs' l'.ds → Rel K F B (upd H a ho') σ (ρ.set i (some (.ow l'))) := by
  have s := R.slot i _ h
  generalize hg : σ[i]? = w at s
  cases s with
  | @fr a ho xs _ hF hB hH hO r =>
    refine ⟨a, ho, xs, rfl, hH, hO, hF, hB, r, fun ho' xs' l' hO' r' => ?_⟩
    have Rd : Rel K F B (upd H a ho') σ (ρ.set i none) := by
      refine ⟨fun b o e => ?_, fun b o e => ?_, R.dis, by rw [List.length_set]; exact R.len, fun j sv hj => ?_, (R.drop i).sep⟩
      · rw [upd_ne (fun z => by rw [z, hB] at e; cases e)]
        exact R.exB _ _ e
      · rw [upd_ne (fun z => by rw [z, hF] at e; cases e)]
        exact R.exF _ _ e
      · have s := (R.drop i).slot j sv hj
        generalize hgj : σ[j]? = wj at s
        cases s with
        | sh r => exact .sh r
        | @fr b o' ys ds hF' hB' hH' hO'' r'' =>
          refine .fr hF' hB' ?_ hO'' r''
          rw [upd_ne fun z => ?_]
          · exact hH'
          · subst z
            obtain ⟨n, oj⟩ := owns_set_none (σ := σ) (a := b) ⟨⟨_, hj⟩, hgj⟩
            exact n (R.sep j i b oj ⟨⟨_, h⟩, hg⟩)
    have f := Rd.put (v := .ref a) (i := i) (sv := .ow l') hg (.fr hF hB upd_same hO' r' fun j hj => by
      rw [List.set_set] at hj
      obtain ⟨n, oj⟩ := owns_set_none hj
      exact n (R.sep j i a oj ⟨⟨_, h⟩, hg⟩))
    rw [List.set_set] at f
    exact f
theorem Rel.mutate {K : PySem.W.Frag} {F B H : Hp} {σ : L2.St} {ρ : Sl} {i : Nat} {l : List D} (R : Rel K F B H σ ρ) (h : ρ[i]? = some (some (.fr l))) :
    ∃ a xs, σ[i]? = some (some (.ref a)) ∧ H a = some (.lst xs) ∧ B a = none ∧ RepL K B xs l ∧ ∀ xs' l', RepL K B xs' l' → Rel K F B (upd H a (.lst xs')) σ (ρ.set i (some (.fr l'))) := by
  obtain ⟨a, ho, xs, h1, h2, hO, _, h3, h4, h5⟩ := R.mutateO h
  have hO : ho = .lst xs := hO
  subst hO
  exact ⟨a, xs, h1, h2, h3, h4, fun xs' l' r' => h5 (.lst xs') xs' (.lst l') rfl r'⟩
/-- a method of a list, with its arguments' data -/
def OkM (K : PySem.W.Frag) (r : V → List V → Hp → VK → Prop) (g : List D → List D → Option (D × List D)) : Prop :=
  ∀ (B H : Hp) (a : Addr) (xs : List V) (l : List D) (vs : List V) (ds : List D) (d : D) (l' : List D) (Q : VK), Same B H → B a = none → H a = some (.lst xs) → RepL K B xs l → RepL K B vs ds → g l ds = some (d, l') →
    (∀ v xs', RepL K B xs' l' → Rep K B v d → Q v (upd H a (.lst xs'))) → r (.ref a) vs H Q
def mtK (i : Nat) (g : List D → List D → Option (D × List D)) (os : List Op) : M SV := fun ρ => match ρ[i]? with
  | some (some (.ow (.lst l))) => match vals os with
    | some ds => match g l ds with
      | some (d, l') => some (.ok (.sh d) (ρ.set i (some (.fr l'))))
      | none => none
    | none => none
  | _ => none
def vMt (i : Nat) (g : List D → List D → Option (D × List D)) (as : M (List Op)) : M SV := fun ρ => if isFr ρ i = true then bnd as (mtK i g) ρ else none
theorem wpm_mtK {i : Nat} {g : List D → List D → Option (D × List D)} {os : List Op} {ρ : Sl} {Q : SV → Sl → Prop} {E : Nat → Sl → Prop} (q : wpm (mtK i g os) ρ Q E) : ∃ l ds d l', ρ[i]? = some (some (.fr l)) ∧ vals os = some ds ∧ g l ds = some (d, l') ∧ Q (.sh d) (ρ.set i (some (.fr l'))) := by
  unfold wpm mtK at q
  cases e : ρ[i]? with
  | none =>
    simp only [e] at q
  | some o =>
    cases o with
    | none => simp only [e] at q
    | some sv =>
      cases sv with
      | sh d => simp only [e] at q
      | ow c =>
       cases c with
       | dk _ _ => simp only [e] at q
       | dt _ _ => simp only [e] at q
       | ob _ _ _ => simp only [e] at q
       | lst l =>
        simp only [e] at q
        cases e2 : vals os with
        | none => simp only [e2] at q
        | some ds =>
          simp only [e2] at q
          cases e3 : g l ds with
          | none => simp only [e3] at q
          | some r =>
            simp only [e3] at q
            exact ⟨l, ds, r.1, r.2, rfl, rfl, e3, q⟩
theorem isFr_at {ρ : Sl} {i : Nat} (h : isFr ρ i = true) : ∃ l, ρ[i]? = some (some (.fr l)) := by
  unfold isFr at h
  split at h
  · rename_i l e
    exact ⟨l, e⟩
  · cases h
def gApp (l : List D) : List D → Option (D × List D)
  | [d] => if l.length < 1000000 then some (.non, l ++ [d]) else none
  | _ => none
def gPop (l : List D) : List D → Option (D × List D)
  | [] => l[l.length - 1]?.map fun d => (d, l.dropLast)
  | _ => none
def gIns (l : List D) : List D → Option (D × List D)
  | [.int i, d] => if l.length < 1000000 ∧ 0 ≤ i ∧ i < 2 ^ 63 then some (.non, l.take i.toNat ++ [d] ++ l.drop i.toNat) else none
  | _ => none
def gRvs (l : List D) : List D → Option (D × List D)
  | [] => some (.non, l.reverse)
  | _ => none
def gExt (l : List D) : List D → Option (D × List D)
  | [.lst m] => if l.length + m.length ≤ 1000000 then some (.non, l ++ m) else none
  | _ => none
section
variable {K : PySem.W.Frag}
theorem RepL.dropLast {H : Hp} {vs : List V} {ds : List D} (r : RepL K H vs ds) : RepL K H vs.dropLast ds.dropLast := by
  rw [List.dropLast_eq_take, List.dropLast_eq_take, r.length]
  exact r.take _
theorem okm_app : OkM K rAppend gApp := by
  intro B H a xs l vs ds d l' Q sB hB hH r rv hg q
  unfold gApp at hg
  split at hg
  · split at hg
    · rename_i hl
      cases hg
      cases rv with
      | cons rv rt =>
        cases rt
        exact ⟨a, xs, _, rfl, rfl, hH, by rw [r.length]; exact mill_lt hl, q _ _ (r.append (.cons rv .nil)) .non⟩
    · cases hg
  · cases hg
theorem okm_pop : OkM K rPop gPop := by
  intro B H a xs l vs ds d l' Q sB hB hH r rv hg q
  unfold gPop at hg
  split at hg
  · cases rv
    cases e : l[l.length - 1]? with
    | none =>
      rw [e] at hg
      cases hg
    | some y =>
      rw [e] at hg
      cases hg
      obtain ⟨v, hv, rp⟩ := r.get e
      exact ⟨a, xs, v, rfl, rfl, hH, by rw [r.length]; exact hv, q _ _ r.dropLast rp⟩
  · cases hg
theorem okm_ext : OkM K rExtend gExt := by
  intro B H a xs l vs ds d l' Q sB hB hH r rv hg q
  unfold gExt at hg
  split at hg
  · split at hg
    · rename_i hl
      cases hg
      cases rv with
      | cons rv rt =>
        cases rt
        cases rv with
        | @lst b ys _ hb rl =>
          exact ⟨a, b, xs, ys, rfl, rfl, hH, sB _ _ hb, by rw [r.length, rl.length]; exact mill_le hl, q _ _ (r.append rl) .non⟩
    · cases hg
  · cases hg
theorem okm_rvs : OkM K rReverse gRvs := by
  intro B H a xs l vs ds d l' Q sB hB hH r rv hg q
  unfold gRvs at hg
  split at hg
  · cases rv
    cases hg
    exact ⟨a, xs, rfl, rfl, hH, q _ _ r.reverse .non⟩
  · cases hg
end
section
variable {cv : Nat → Value} {X : Cx} {W : WX} {e a b o iter tg : Expr} {es : List Expr} {te ta tb : TE} {ts : TA} {f : M SV} {fa : M Op} {fs : M (List Op)} {pos apos p p2 : Pos}
theorem tyV_lst {K : PySem.W.Frag} {a : Addr} {xs : List V} {H : Hp} (h : H a = some (.lst xs)) : tyV K "list" (.ref a) H := Or.inl ⟨rfl, _, SqL.of h⟩
theorem adm_mt {i : Nat} {r : V → List V → Hp → VK → Prop} {g : List D → List D → Option (D × List D)} (ok : OkM X.K r g) (ha : SndA cv X W es ts fs) : Adm cv W X.K (tBM X.K "list" r (tVar i) ts) (vMt i g fs) (RV X.K) := by
  intro F B H σ ρ Q R q
  unfold wpm vMt at q
  by_cases hf : isFr ρ i = true
  · simp only [if_pos hf] at q
    obtain ⟨l0, h0⟩ := isFr_at hf
    obtain ⟨a, xs, hs, hH, hB, r, _⟩ := R.mutate h0
    refine ⟨.ref a, hs, tyV_lst hH, ?_⟩
    refine ha.ad F B H σ ρ _ R (wpm_mono (wpm_bnd q) (fun os ρ1 q vs B1 H1 R1 sm1 ov => ?_) fun _ _ q => q)
    obtain ⟨l, ds, d, l', e1, e2, e3, q⟩ := wpm_mtK q
    obtain ⟨a', xs', hs', hH', hB', r', mk⟩ := R1.mutate e1
    rw [hs] at hs'
    cases hs'
    refine ok B1 H1 a xs' l vs ds d l' Q R1.exB hB' hH' r' (ov.vals e2) e3 fun v ys ry rv => ?_
    exact q v B1 _ (mk ys l' ry) sm1 (.sh rv)
  · simp only [if_neg hf] at q
theorem adm_mt0 {i : Nat} {r : V → List V → Hp → VK → Prop} {g : List D → List D → Option (D × List D)} (ok : OkM X.K r g) : Adm cv W X.K (tBM0 X.K "list" r (tVar i)) (vMt i g aNil) (RV X.K) := by
  intro F B H σ ρ Q R q
  unfold wpm vMt at q
  by_cases hf : isFr ρ i = true
  · simp only [if_pos hf] at q
    have q2 : wpm (mtK i g []) ρ (fun a ρ' => ∀ v B' H', Rel X.K F B' H' σ ρ' → Same B B' → RV X.K F B' H' σ ρ' v a → Q v H') (fun c ρ' => ∀ B' H', Rel X.K F B' H' σ ρ' → Same B B' → W (cv c) none σ H') := q
    obtain ⟨l, ds, d, l', e1, e2, e3, q⟩ := wpm_mtK q2
    obtain ⟨a', xs', hs', hH', hB', r', mk⟩ := R.mutate e1
    cases e2
    exact ⟨.ref a', hs', tyV_lst hH', ok B H a' xs' l [] [] d l' Q R.exB hB' hH' r' .nil e3 fun v ys ry rv => q v B _ (mk ys l' ry) (Same.refl _) (.sh rv)⟩
  · simp only [if_neg hf] at q
/-- x[k] = e -/
def stK (i : Nat) (o p : Op) : SM := fun ρ => match o, p, ρ[i]? with
  | .val d, .val (.int k), some (some (.ow (.lst l))) => (ixN l.length k).map fun j => .nx (ρ.set i (some (.fr (l.set j d))))
  | _, _, _ => none
def frGuard (i : Nat) (m : SM) : SM := fun ρ => if isFr ρ i = true then m ρ else none
def sSetIx (i : Nat) (f k : M Op) : SM := sEx f fun o => frGuard i (sEx k fun p => stK i o p)
theorem adm_setIx {i : Nat} {k : Expr} {tk : TE} {f' fk : M Op} {w : List Nat} (h : SndO cv X W e te f') (hk : SndO cv X W k tk fk) : AdmS cv W X.K (tAsg te (L2.gSub (tVar i) tk rSetL)) (sSetIx i f' fk) w := by
  intro F B H σ ρ D R q
  refine h.ad F B H σ ρ _ R (wpm_mono (ws_ex q) (fun o ρ1 q v B1 H1 R1 sm1 ov => ?_) fun _ _ q => q)
  unfold frGuard at q
  by_cases hf : isFr ρ1 i = true
  · rw [if_pos hf] at q
    obtain ⟨l0, h0⟩ := isFr_at hf
    obtain ⟨a, xs, hs, _⟩ := R1.mutate h0
    refine ⟨.ref a, hs, ?_⟩
    refine hk.ad F B1 H1 σ ρ1 _ R1 (wpm_mono (ws_ex2 (σ2 := σ) sm1 Agr.refl q) (fun p ρ2 q u B2 H2 R2 sm2 ou => ?_) fun c ρ2 q B2 H2 R2 sm2 => q B2 H2 R2 sm2)
    unfold stK at q
    cases ov with
    | slot _ => exact q.elim
    | @val d rv =>
      cases ou with
      | slot _ => exact q.elim
      | @val dk ru =>
        cases ru with
        | int n =>
          cases e1 : ρ2[i]? with
          | none =>
            simp only [e1] at q
            exact q.elim
          | some s0 =>
            cases s0 with
            | none =>
              simp only [e1] at q
              exact q.elim
            | some sv =>
              cases sv with
              | sh _ =>
                simp only [e1] at q
                exact q.elim
              | ow c =>
               cases c with
               | dk _ _ =>
                simp only [e1] at q
                exact q.elim
               | dt _ _ =>
                simp only [e1] at q
                exact q.elim
               | ob _ _ _ =>
                simp only [e1] at q
                exact q.elim
               | lst l =>
                simp only [e1] at q
                cases e2 : ixN l.length n with
                | none =>
                  simp only [e2, Option.map_none] at q
                  exact q.elim
                | some j =>
                  simp only [e2, Option.map_some] at q
                  obtain ⟨a', xs', hs', hH', hB', r', mk⟩ := R2.mutate e1
                  rw [hs] at hs'
                  cases hs'
                  refine ⟨a, xs', n, j, rfl, rfl, hH', by rw [r'.length]; exact e2, ?_⟩
                  exact q σ B2 _ (mk _ _ (r'.set (rv.mono sm2 _ _) j)) (sm1.trans sm2) Agr.refl
        | non => exact q.elim
        | bl _ => exact q.elim
        | str _ => exact q.elim
        | tup _ _ => exact q.elim
        | lst _ _ => exact q.elim
        | scr _ => exact q.elim
        | dct _ _ _ => exact q.elim
        | dck _ _ _ => exact q.elim
        | ob _ _ _ => exact q.elim
        | adr _ => exact q.elim
        | lv _ => exact q.elim
  · rw [if_neg hf] at q
    exact q.elim
theorem sns_setIx {i : Nat} {k : Expr} {tk : TE} {fk : M Op} (ho : PE X o (tVar i)) (h : SndE cv X W e te f) (hk : SndO cv X W k tk fk)
    (hs : swapsWithSole [.Subscript o k p] e pos.line X.env = pure false := by rfl) (hw : swappedStores [.Subscript o k p] e X.env = pure none := by rfl)
    (h1 : (assignEach [.Subscript o k p] X.env).map (·.2) = [assign (.Subscript o k p) X.env] := by rfl)
    (ha : ∀ v, assign (.Subscript o k p) X.env v = (do
      let ov ← holding [v] (eval o X.env)
      let iv ← holding [v, ov] (eval k X.env)
      standAt p
      holding [v, ov, iv] (setItem ov iv v)
      release [v, ov, iv] []) := by intro _; rfl) : SndS cv X W (.Assign [.Subscript o k p] e pos) (tAsg te (L2.gSub (tVar i) tk rSetL)) (sSetIx i (oOf f) fk) [] :=
  ⟨ps_asg h.pe (pg_sub ho hk.pe set_list ha) hs hw h1, adm_setIx (snd_o h) hk⟩
/-- raise -/
def sRaise (c : Nat) : SM := fun ρ => some (.ex c ρ)
theorem sns_raise {c : Nat} (hc : X.calm = true) (tk : Takes X W) (he : PMk X e (fun _ H Q => Q (cv c) none H)) : SndS cv X W (.Raise (some e) none pos) (fun _ σ H => W (cv c) none σ H) (sRaise c) [] :=
  ⟨ps_raise hc tk he, fun F B H σ ρ D R q => q σ B H R (Same.refl _) Agr.refl⟩
/-- xs[::-1] -/
def gRv : D → Option SV
  | .lst l => some (.fr l.reverse)
  | _ => none
def vRevL (a : M Op) : M SV := vOp1 gRv a
end
section
variable {cv : Nat → Value} {X : Cx} {W : WX} {e elt iter tg : Expr} {te : TE} {tt : TT} {f : M SV} {fa : M Op} {c : M Bool} {pos p p2 : Pos}

/-! ### comprehensions -/
def wipeS (ρ : Sl) : List Nat → Sl
  | [] => ρ
  | v :: vs => (wipeS ρ vs).set v none
def noFr (ρ : Sl) (vs : List Nat) : Prop := ∀ v ∈ vs, ∀ c, ρ[v]? ≠ some (some (.ow c))
def restS (ρ0 ρ : Sl) : List Nat → Sl
  | [] => ρ
  | v :: vs => (restS ρ0 ρ vs).set v (ρ0[v]?.getD none)
def pkOk (pk : List (Nat × List D)) (ρ : Sl) : Prop := ∀ q ∈ pk, ρ[q.1]? = some (some (.fr q.2))
open Classical in
noncomputable def lcL (vs : List Nat) (pk : List (Nat × List D)) (g : SV → Sl → Option Sl) (c : M Bool) (elt : M SV) : List D → List D → Sl → Option (List D × Sl)
  | [], acc, ρ => if pkOk pk (wipeS ρ vs) then some (acc, ρ) else none
  | d :: ds, acc, ρ => if pkOk pk (wipeS ρ vs) ∧ acc.length < 1000000 then
      match g (.sh d) (wipeS ρ vs) with
      | none => none
      | some ρ1 => match c ρ1 with
        | some (.ok true ρ2) => match elt ρ2 with
          | some (.ok sv ρ3) => lcL vs pk g c elt ds (acc ++ [sv.d]) ρ3
          | _ => none
        | some (.ok false ρ2) => lcL vs pk g c elt ds acc ρ2
        | _ => none
    else none
open Classical in
noncomputable def vLc (vs : List Nat) (it : M Itb) (g : SV → Sl → Option Sl) (c : M Bool) (elt : M SV) : M SV := bnd it fun ib ρ =>
  if noFr ρ vs ∧ (∀ q ∈ ib.pk, q.1 ∉ vs) ∧ pkOk ib.pk ρ then (lcL vs ib.pk g c elt ib.ds [] ρ).map fun r => .ok (.fr r.1) (restS ρ r.2 vs) else none
theorem wipeS_length (ρ : Sl) : ∀ vs : List Nat, (wipeS ρ vs).length = ρ.length
  | [] => rfl
  | v :: vs => by unfold wipeS; rw [List.length_set, wipeS_length ρ vs]
theorem restS_length (ρ0 ρ : Sl) : ∀ vs : List Nat, (restS ρ0 ρ vs).length = ρ.length
  | [] => rfl
  | v :: vs => by unfold restS; rw [List.length_set, restS_length ρ0 ρ vs]
theorem wipeS_some {ρ : Sl} {i : Nat} {x : SV} : ∀ {vs : List Nat}, (wipeS ρ vs)[i]? = some (some x) → ρ[i]? = some (some x) ∧ i ∉ vs
  | [], h => ⟨h, by simp⟩
  | v :: vs, h => by
    unfold wipeS at h
    by_cases hi : v = i
    · subst hi
      by_cases hv : v < (wipeS ρ vs).length
      · rw [List.getElem?_set_self hv] at h
        cases h
      · rw [List.getElem?_eq_none (by simpa using hv)] at h
        cases h
    · rw [List.getElem?_set_ne hi] at h
      obtain ⟨h1, h2⟩ := wipeS_some h
      refine ⟨h1, fun z => ?_⟩
      rcases List.mem_cons.mp z with z | z
      · exact hi z.symm
      · exact h2 z
theorem restS_some {ρ0 ρ : Sl} {i : Nat} {x : SV} : ∀ {vs : List Nat}, (restS ρ0 ρ vs)[i]? = some (some x) → (ρ[i]? = some (some x) ∧ i ∉ vs) ∨ (ρ0[i]? = some (some x) ∧ i ∈ vs)
  | [], h => .inl ⟨h, by simp⟩
  | v :: vs, h => by
    unfold restS at h
    by_cases hi : v = i
    · subst hi
      by_cases hv : v < (restS ρ0 ρ vs).length
      · rw [List.getElem?_set_self hv] at h
        refine .inr ⟨?_, List.mem_cons_self⟩
        cases e : ρ0[v]? with
        | none =>
          rw [e] at h
          cases h
        | some y =>
          rw [e] at h
          exact h
      · rw [List.getElem?_eq_none (by simpa using hv)] at h
        cases h
    · rw [List.getElem?_set_ne hi] at h
      rcases restS_some h with ⟨h1, h2⟩ | ⟨h1, h2⟩
      · refine .inl ⟨h1, fun z => ?_⟩
        rcases List.mem_cons.mp z with z | z
        · exact hi z.symm
        · exact h2 z
      · exact .inr ⟨h1, List.mem_cons_of_mem _ h2⟩
theorem Rel.wipe {K : PySem.W.Frag} {F B H : Hp} {σ : L2.St} {ρ : Sl} (R : Rel K F B H σ ρ) (vs : List Nat) : Rel K F B H (L2.wipe σ vs) (wipeS ρ vs) := by
  refine ⟨R.exB, R.exF, R.dis, by rw [wipeS_length, wipe_length]; exact R.len, fun i sv h => ?_, fun i j a h1 h2 => ?_⟩
  · obtain ⟨h1, h2⟩ := wipeS_some h
    rw [wipe_out h2]
    exact R.slot i sv h1
  · obtain ⟨⟨l1, g1⟩, k1⟩ := h1
    obtain ⟨⟨l2, g2⟩, k2⟩ := h2
    obtain ⟨e1, n1⟩ := wipeS_some g1
    obtain ⟨e2, n2⟩ := wipeS_some g2
    rw [wipe_out n1] at k1
    rw [wipe_out n2] at k2
    exact R.sep i j a ⟨⟨l1, e1⟩, k1⟩ ⟨⟨l2, e2⟩, k2⟩
theorem wipe_eq {σ σ' : L2.St} : ∀ {vs : List Nat}, σ'.length = σ.length → Agr vs σ σ' → L2.wipe σ' vs = L2.wipe σ vs := fun {vs} hl ag => by
  refine List.ext_getElem? fun j => ?_
  by_cases hj : j ∈ vs
  · have key : ∀ (τ : L2.St) (us : List Nat), j ∈ us → (L2.wipe τ us)[j]? = if j < τ.length then some none else none := fun τ us => by
      induction us with
      | nil => exact fun z => nomatch z
      | cons u us ih =>
        intro hm
        unfold L2.wipe
        by_cases e : u = j
        · subst e
          by_cases hv : u < τ.length
          · rw [if_pos hv, List.getElem?_set_self (by rw [wipe_length]; exact hv)]
          · rw [if_neg hv]
            exact List.getElem?_eq_none (by rw [List.length_set, wipe_length]; omega)
        · rw [List.getElem?_set_ne e]
          exact ih ((List.mem_cons.mp hm).resolve_left fun z => e z.symm)
    rw [key σ' vs hj, key σ vs hj, hl]
  · rw [wipe_out hj, wipe_out hj]
    exact ag j hj
theorem Rel.grow {K : PySem.W.Frag} {F B H : Hp} {σ : L2.St} {ρ : Sl} {d : Addr} {xs ys : List V} (R : Rel K (upd F d (.lst xs)) B H σ ρ) : Rel K (upd F d (.lst ys)) B (upd H d (.lst ys)) σ ρ := by
  have hB : B d = none := R.dis d _ upd_same
  refine ⟨fun a o e => ?_, fun a o e => ?_, fun a o e => ?_, R.len, fun i sv h => ?_, R.sep⟩
  · rw [upd_ne fun z => by rw [z, hB] at e; cases e]
    exact R.exB _ _ e
  · by_cases z : a = d
    · subst z
      rw [upd_same] at e ⊢
      exact e
    · rw [upd_ne z] at e ⊢
      refine R.exF a o ?_
      rw [upd_ne z]
      exact e
  · by_cases z : a = d
    · rw [z]
      exact hB
    · rw [upd_ne z] at e
      refine R.dis a o ?_
      rw [upd_ne z]
      exact e
  · have s := R.slot i sv h
    generalize hg : σ[i]? = w at s
    cases s with
    | sh r => exact .sh r
    | @fr a o' xs' ds hF hB' hH hO r =>
      have z : a ≠ d := fun z => by
        rw [z, upd_same] at hF
        cases hF
      refine .fr ?_ hB' ?_ hO r
      · rw [upd_ne z] at hF ⊢
        exact hF
      · rw [upd_ne z]
        exact hH
theorem Rel.addF {K : PySem.W.Frag} {F B H : Hp} {σ : L2.St} {ρ : Sl} {d : Addr} {xs : List V} (R : Rel K F B H σ ρ) (hd : H d = none) : Rel K (upd F d (.lst xs)) B (upd H d (.lst xs)) σ ρ := by
  have R1 := R.new (o := .lst xs) hd
  refine ⟨R1.exB, fun a o e => ?_, fun a o e => ?_, R.len, fun i sv h => ?_, R.sep⟩
  · by_cases z : a = d
    · subst z
      rw [upd_same] at e ⊢
      exact e
    · rw [upd_ne z] at e
      exact R1.exF _ _ e
  · by_cases z : a = d
    · rw [z]
      exact R.exB.free hd
    · rw [upd_ne z] at e
      exact R.dis a o e
  · have s := R.slot i sv h
    generalize hg : σ[i]? = w at s
    cases s with
    | sh r => exact .sh r
    | @fr a o' xs' ds hF hB' hH hO r =>
      have z : a ≠ d := fun z => by
        rw [z, hd] at hH
        cases hH
      refine .fr ?_ hB' ?_ hO r
      · rw [upd_ne z]
        exact hF
      · rw [upd_ne z]
        exact hH
theorem adm_lc {wi : TI} {tgt : TG} {it : M Itb} {g : SV → Sl → Option Sl} {w : List Nat} {vs : List Nat} (hi : AdmI cv W X.K wi it) (hg : AdmG X.K tgt g w) (hw : ∀ j, j ∈ w → j ∈ vs) (hc : Adm cv (fun _ _ _ _ => False) X.K tt c (fun _ _ _ _ _ b b' => b = b'))
    (he : Adm cv (fun _ _ _ _ => False) X.K te f (RV X.K)) : Adm cv W X.K (tLc wi tgt tt te vs) (vLc vs it g c f) (RV X.K) := by
  intro F B H σ ρ Q R q
  refine hi F B H σ ρ _ R (wpm_mono (wpm_bnd q) (fun ib ρ1 q J B1 H1 R1 sm1 ok => ?_) fun _ _ q => q)
  unfold wpm at q
  by_cases hcd : noFr ρ1 vs ∧ (∀ q ∈ ib.pk, q.1 ∉ vs) ∧ pkOk ib.pk ρ1
  · simp only [if_pos hcd] at q
    obtain ⟨nf, npk, pk1⟩ := hcd
    cases eL : lcL vs ib.pk g c f ib.ds [] ρ1 with
    | none =>
      simp only [eL, Option.map_none] at q
    | some res =>
      simp only [eL, Option.map_some] at q
      intro Da hD
      refine ⟨fun i k H2 => k = ib.ds.length - i ∧ i ≤ ib.ds.length ∧ ∃ ρ2 B2 accV acc, Rel X.K (upd F Da (.lst accV)) B2 H2 (L2.wipe σ vs) (wipeS ρ2 vs) ∧ Same B1 B2 ∧ RepL X.K B2 accV acc ∧ lcL vs ib.pk g c f (ib.ds.drop i) acc ρ2 = some res,
        ⟨ib.ds.length, by simp, Nat.zero_le _, ρ1, B1, [], [], (R1.wipe vs).addF hD, Same.refl _, .nil, by simpa using eL⟩, ?_⟩
      rintro i k H2 ⟨rfl, hle, ρ2, B2, accV, acc, R2, sm2, rl, e2⟩
      by_cases hlt : i < ib.ds.length
      · rw [List.drop_eq_getElem_cons hlt] at e2
        unfold lcL at e2
        by_cases hpk : pkOk ib.pk (wipeS ρ2 vs) ∧ acc.length < 1000000
        · rw [if_pos hpk] at e2
          have ok2 := ok _ B2 H2 _ _ R2 sm2 (fun q hq => ⟨wipe_out (npk q hq), hpk.1 q hq⟩) i
          obtain ⟨go, yl⟩ := ok2.1 _ (List.getElem?_eq_getElem hlt)
          refine .inr ⟨go, fun H' => ∃ ρ' B' accV' acc', Rel X.K (upd F Da (.lst accV')) B' H' (L2.wipe σ vs) (wipeS ρ' vs) ∧ Same B1 B' ∧ RepL X.K B' accV' acc' ∧ lcL vs ib.pk g c f (ib.ds.drop (i + 1)) acc' ρ' = some res,
            fun H' ⟨ρ', B', accV', acc', h1, h2, h3, h4⟩ => ⟨_, by omega, rfl, hlt, ρ', B', accV', acc', h1, h2, h3, h4⟩, fun x H' hy => ?_⟩
          obtain ⟨B3, R3, sm3, rep⟩ := yl x H' hy
          cases e3 : g (.sh ib.ds[i]) (wipeS ρ2 vs) with
          | none =>
            simp only [e3] at e2
            cases e2
          | some ρ3 =>
            simp only [e3] at e2
            refine hg _ B3 H' _ _ x _ ρ3 _ R3 (.sh rep) e3 fun σ3 R4 ag3 l3 => ?_
            have wp : L2.wipe σ3 vs = L2.wipe σ vs := by
              have h1 := wipe_eq (vs := vs) l3 (ag3.mono hw)
              have h2 : L2.wipe (L2.wipe σ vs) vs = L2.wipe σ vs := wipe_eq (wipe_length σ vs) fun j hj => wipe_out hj
              exact h1.trans h2
            refine ⟨wp, ?_⟩
            have back : ∀ {ρ5 : Sl} {B5 H5 : Hp} {av : List V}, Rel X.K (upd F Da (.lst av)) B5 H5 σ3 ρ5 → Rel X.K (upd F Da (.lst av)) B5 H5 (L2.wipe σ vs) (wipeS ρ5 vs) := fun {ρ5 B5 H5 av} R5 => by
              have h := R5.wipe vs
              rw [wp] at h
              exact h
            refine hc _ B3 H' σ3 ρ3 _ R4 ?_
            unfold wpm
            cases e4 : c ρ3 with
            | none =>
              simp only [e4] at e2
              cases e2
            | some o =>
              cases o with
              | ex cx ρ4 =>
                simp only [e4] at e2
                cases e2
              | ok b ρ4 =>
                intro b' B4 H4 R5 sm4 eb
                subst eb
                cases b' with
                | false =>
                  simp only [e4] at e2
                  exact ⟨ρ4, B4, accV, acc, back R5, (sm2.trans sm3).trans sm4, (rl.mono sm3 _ _).mono sm4 _ _, e2⟩
                | true =>
                  simp only [e4] at e2
                  refine he _ B4 H4 σ3 ρ4 _ R5 ?_
                  unfold wpm
                  cases e5 : f ρ4 with
                  | none =>
                    simp only [e5] at e2
                    cases e2
                  | some o =>
                    cases o with
                    | ex cx ρ5 =>
                      simp only [e5] at e2
                      cases e2
                    | ok sv ρ5 =>
                      intro y B5 H5 R6 sm5 rv
                      simp only [e5] at e2
                      obtain ⟨B6, R7, sm6, ry⟩ := rv.freeze R6
                      have hD5 : H5 Da = some (.lst accV) := R7.exF _ _ upd_same
                      have sm7 := (sm3.trans sm4).trans (sm5.trans sm6)
                      refine ⟨accV, hD5, ?_, ρ5, B6, accV ++ [y], acc ++ [sv.d], (back R7).grow, sm2.trans sm7, (rl.mono sm7 _ _).append (.cons ry .nil), e2⟩
                      rw [rl.length]
                      exact mill_lt hpk.2
        · rw [if_neg hpk] at e2
          cases e2
      · have ei : i = ib.ds.length := by omega
        rw [ei, List.drop_length] at e2
        unfold lcL at e2
        by_cases hpk : pkOk ib.pk (wipeS ρ2 vs)
        · rw [if_pos hpk] at e2
          cases e2
          have ok2 := ok _ B2 H2 _ _ R2 sm2 (fun q hq => ⟨wipe_out (npk q hq), hpk q hq⟩) i
          refine .inl ⟨ok2.2 (by omega), ?_⟩
          have hFD : F Da = none := R1.exF.free hD
          have hBD : B2 Da = none := R2.dis Da _ upd_same
          have ow : ∀ {j a}, Owns σ (restS ρ1 ρ2 vs) j a → Owns (L2.wipe σ vs) (wipeS ρ2 vs) j a := fun {j a} ⟨⟨l, g1⟩, g2⟩ => by
            rcases restS_some g1 with ⟨h1, h2⟩ | ⟨h1, h2⟩
            · refine ⟨⟨l, ?_⟩, by rw [wipe_out h2]; exact g2⟩
              have key : ∀ (us : List Nat), j ∉ us → (wipeS ρ2 us)[j]? = ρ2[j]? := fun us => by
                induction us with
                | nil => exact fun _ => rfl
                | cons u us ih =>
                  intro hm
                  unfold wipeS
                  rw [List.getElem?_set_ne fun z => hm (by rw [← z]; exact List.mem_cons_self)]
                  exact ih fun z => hm (List.mem_cons_of_mem _ z)
              rw [key vs h2]
              exact h1
            · exact (nf j h2 l h1).elim
          refine q (.ref Da) B2 H2 ⟨R2.exB, fun a o e => ?_, fun a o e => ?_, ?_, fun j sv h => ?_, fun j j' a o1 o2 => R2.sep j j' a (ow o1) (ow o2)⟩ (sm1.trans sm2) ?_
          · refine R2.exF a o ?_
            rw [upd_ne fun z => by rw [z, hFD] at e; cases e]
            exact e
          · refine R2.dis a o ?_
            rw [upd_ne fun z => by rw [z, hFD] at e; cases e]
            exact e
          · rw [restS_length, ← R.len]
            have h1 := R2.len
            rw [wipeS_length, wipe_length] at h1
            rw [h1]
            exact R.len.symm
          · rcases restS_some h with ⟨h1, h2⟩ | ⟨h1, h2⟩
            · have key : (wipeS ρ2 vs)[j]? = some (some sv) := by
                have key : ∀ (us : List Nat), j ∉ us → (wipeS ρ2 us)[j]? = ρ2[j]? := fun us => by
                  induction us with
                  | nil => exact fun _ => rfl
                  | cons u us ih =>
                    intro hm
                    unfold wipeS
                    rw [List.getElem?_set_ne fun z => hm (by rw [← z]; exact List.mem_cons_self)]
                    exact ih fun z => hm (List.mem_cons_of_mem _ z)
                rw [key vs h2]
                exact h1
              have s := R2.slot j sv key
              rw [wipe_out h2] at s
              generalize hgj : σ[j]? = wj at s
              cases s with
              | sh r => exact .sh r
              | @fr a o xs ds hF hB hH hO r =>
                refine .fr ?_ hB hH hO r
                by_cases z : a = Da
                · rw [z]
                  exact hFD
                · rw [upd_ne z] at hF
                  exact hF
            · have s := R1.slot j sv h1
              generalize hgj : σ[j]? = wj at s
              cases s with
              | sh r => exact .sh (r.mono sm2 _ _)
              | @fr a o xs ds hF hB hH hO r => exact (nf j h2 _ h1).elim
          · refine .fr hFD hBD (R2.exF _ _ upd_same) rfl rl fun j hj => ?_
            obtain ⟨_, xs, ds, _, hF, _⟩ := (ow hj).at R2
            rw [upd_same] at hF
            cases hF
        · rw [if_neg hpk] at e2
          cases e2
  · simp only [if_neg hcd] at q
abbrev W0 : WX := fun _ _ _ _ => False
/-- the same in every block of the comprehension's -/
def BlkE (cv : Nat → Value) (X : Cx) (scope : Scope) (e : Expr) (t : TE) (f : M SV) : Prop := ∀ (s : Shared) (H : Hp) (C : Addr) (cl : List (Str × Addr)) (fp : List Addr), SndE cv (X.blk s H scope (compEnvC scope cl C X.env) fp) W0 e t f
theorem snd_lc {ifs : List Expr} {scope : Scope} {own : List (Str × Nat)} {wi : TI} {tgt : TG} {it : M Itb} {g : SV → Sl → Option Sl} {w : List Nat} (hca : X.calm = true) (hN : X.N.Nodup) (hi : SndI cv X W tg iter wi it) (ok : BlkOk X.N X.env.scope scope own)
    (hg : ∀ (s : Shared) (H : Hp) (C : Addr) (cl : List (Str × Addr)) (fp : List Addr), SndG (X.blk s H scope (compEnvC scope cl C X.env) fp) tg tgt g w)
    (ht : ∀ (s : Shared) (H : Hp) (C : Addr) (cl : List (Str × Addr)) (fp : List Addr), PTs (X.blk s H scope (compEnvC scope cl C X.env) fp) ifs tt ∧ Adm cv W0 X.K tt c (fun _ _ _ _ _ b b' => b = b'))
    (he : ∀ (s : Shared) (H : Hp) (C : Addr) (cl : List (Str × Addr)) (fp : List Addr), SndE cv (X.blk s H scope (compEnvC scope cl C X.env) fp) W0 elt te f)
    (s0 : Shared) (hw : ∀ j, j ∈ w → j ∈ own.map (·.2)) (hs : ∀ x, foldedSetIterable iter X.env x = pure x := by intro _; rfl) : SndE cv X W (.ListComp elt [⟨tg, iter, ifs, 0⟩] scope pos) (tLc wi tgt tt te (own.map (·.2))) (vLc (own.map (·.2)) it g c f) :=
  ⟨pe_lc hca hN hi.pi ok (fun s H C cl fp => (hg s H C cl fp).pg) (fun s H C cl fp => (ht s H C cl fp).1) (fun s H C cl fp => (he s H C cl fp).pe) hs,
    adm_lc hi.ad (hg s0 X.H_0 0 [] []).ad hw (ht s0 X.H_0 0 [] []).2 (he s0 X.H_0 0 [] []).ad⟩
theorem sns_setLc {i : Nat} {y : Str} {py spos : Pos} {ifs : List Expr} {scope : Scope} {own : List (Str × Nat)} {wi : TI} {tgt : TG} {it : M Itb} {g : SV → Sl → Option Sl} {w : List Nat} (hca : X.calm = true) (hN : X.N.Nodup) (hy : X.N[i]? = some y) (hyl : X.env.scope.names.lookup y = some .local)
    (hsw : swapsWith (.ListComp elt [⟨tg, iter, ifs, 0⟩] scope pos) (some (.Name y py)) spos.line X.env = pure true) (hi : SndI cv X W tg iter wi it) (ok : BlkOk X.N X.env.scope scope own)
    (hg : ∀ (s : Shared) (H : Hp) (C : Addr) (cl : List (Str × Addr)) (fp : List Addr), SndG (X.blk s H scope (compEnvC scope cl C X.env) fp) tg tgt g w)
    (ht : ∀ (s : Shared) (H : Hp) (C : Addr) (cl : List (Str × Addr)) (fp : List Addr), PTs (X.blk s H scope (compEnvC scope cl C X.env) fp) ifs tt ∧ Adm cv W0 X.K tt c (fun _ _ _ _ _ b b' => b = b'))
    (he : ∀ (s : Shared) (H : Hp) (C : Addr) (cl : List (Str × Addr)) (fp : List Addr), SndE cv (X.blk s H scope (compEnvC scope cl C X.env) fp) W0 elt te f)
    (s0 : Shared) (hw : ∀ j, j ∈ w → j ∈ own.map (·.2)) (hs : ∀ x, foldedSetIterable iter X.env x = pure x := by intro _; rfl) (hf : X.fn y = true ∨ X.env.scope.names.lookup y = some .local := by first | exact .inl rfl | exact .inr rfl | assumption) :
    SndS cv X W (.Assign [.Name y py] (.ListComp elt [⟨tg, iter, ifs, 0⟩] scope pos) spos) (tAsg (tLc wi tgt tt te (own.map (·.2))) (gName i)) (sAsg (vLc (own.map (·.2)) it g c f) (gN i)) [i] :=
  ⟨ps_setLc hca hN hy hyl hsw hi.pi ok (fun s H C cl fp => (hg s H C cl fp).pg) (fun s H C cl fp => (ht s H C cl fp).1) (fun s H C cl fp => (he s H C cl fp).pe) hs,
    adm_asg (adm_lc hi.ad (hg s0 X.H_0 0 [] []).ad hw (ht s0 X.H_0 0 [] []).2 (he s0 X.H_0 0 [] []).ad) (sng_name (pos := py) hN hy (.inl hyl) hf).ad⟩
theorem pts_no {X : Cx} {cv : Nat → Value} : PTs X [] tYes ∧ Adm cv W0 X.K tYes (ret true) (fun _ _ _ _ _ b b' => b = b') := ⟨pts_nil, fun F B H σ ρ Q R q => q true B H R (Same.refl _) rfl⟩
theorem pts_if {X : Cx} {cv : Nat → Value} {e : Expr} {t : TT} {m : M Bool} (h : SndB cv X W0 e t m) : PTs X [e] t ∧ Adm cv W0 X.K t m (fun _ _ _ _ _ b b' => b = b') := ⟨pts_one h.pt, h.ad⟩
end
end Sim

namespace Sim
open PySem PySem.Spec PyProof.Rows L2

/-! ### short words for what is printed -/
def sNever : SM := fun _ => none
section
variable {cv : Nat → Value} {X : Cx} {W : WX} {e a b o iter tg : Expr} {es : List Expr} {st : Stmt} {te ta : TE} {ts : TA} {f : M SV} {fa : M Op} {fs : M (List Op)} {pos apos p p2 p3 : Pos}
theorem sns_never : SndS cv X W st tNever sNever [] := ⟨ps_never, fun F B H σ ρ D R q => q.elim⟩
theorem snd_glob {x : Str} {v : V} {u : Value} {d : D} (hg : Gl X x) (hm : X.mg x = some u) (r : RelV v u) (rp : ∀ H, Rep X.K H v d) (hd : (x == ("__debug__" : Str)) = false := by decide) : SndE cv X W (.Name x pos) (tC v) (vC d) := snd_c (pe_glob hg hm r hd) rp
theorem okm_ins {K : PySem.W.Frag} : OkM K (fun x vs H Q => ∃ (l : Addr) (xs : List V) (i : Int) (y : V), x = .ref l ∧ vs = [.int i, y] ∧ H l = some (.lst xs) ∧ xs.length < sizeLine ∧ 0 ≤ i ∧ i < 2 ^ 63 ∧ Q .non (upd H l (.lst (xs.take i.toNat ++ [y] ++ xs.drop i.toNat)))) gIns := by
  intro B H a xs l vs ds d l' Q sB hB hH r rv hg q
  unfold gIns at hg
  split at hg
  · split at hg
    · rename_i hl
      cases hg
      cases rv with
      | cons r1 rt =>
        cases rt with
        | cons r2 rt =>
          cases rt
          cases r1
          exact ⟨a, xs, _, _, rfl, rfl, hH, by rw [r.length]; exact mill_lt hl.1, hl.2.1, hl.2.2, q _ _ (((r.take _).append (.cons r2 .nil)).append (r.drop _)) .non⟩
    · cases hg
  · cases hg
variable {i : Nat}
theorem snd_m {name : Str} {id : String} {r : V → List V → Hp → VK → Prop} {g : List D → List D → Option (D × List D)} (slot : Slot "list" name id) (hty : typeOf (.builtin id) = pure (.type "method_descriptor")) (hm : MtR X id r) (ok : OkM X.K r g) (ho : PE X o (tVar i)) (ha : SndA cv X W (e :: es) ts fs)
    (hbase : attributeBase o name X.env (eval o X.env) = eval o X.env := by rfl)
    (hfew : ((backTo pos (starEach (e :: es) X.env)).all (fun x => !x.1) && (backToKw pos (keywordEach [] X.env)).all (fun x => x.1.isSome) && decide ((e :: es).length + ([] : List Keyword).length + (if ([] : List Keyword).isEmpty then 0 else 1) < 30)) = true := by rfl)
    (hline : (apos.endLine == pos.line) = true := by rfl) (hst : starEach (e :: es) X.env = (false, eval e X.env) :: starEach es X.env := by rfl) (hpl : (backTo pos (starEach es X.env)).any (·.1) = false := by rfl) :
    SndE cv X W (.Call (.Attribute o name apos) (e :: es) [] pos) (tBM X.K "list" r (tVar i) ts) (vMt i g fs) := ⟨pe_bm PySem.F.plainAttrs_list slot hty hm ho ha.pa hbase hfew hline hst hpl, adm_mt ok ha⟩
theorem snd_m0 {name : Str} {id : String} {r : V → List V → Hp → VK → Prop} {g : List D → List D → Option (D × List D)} (slot : Slot "list" name id) (hty : typeOf (.builtin id) = pure (.type "method_descriptor")) (hm : MtR X id r) (ok : OkM X.K r g) (ho : PE X o (tVar i))
    (hbase : attributeBase o name X.env (eval o X.env) = eval o X.env := by rfl) (hline : (apos.endLine == pos.line) = true := by rfl) :
    SndE cv X W (.Call (.Attribute o name apos) [] [] pos) (tBM0 X.K "list" r (tVar i)) (vMt i g aNil) := ⟨pe_bm0 PySem.F.plainAttrs_list slot hty hm ho hbase hline, adm_mt0 ok⟩
/-- xs[::-1] -/
theorem snd_revL {k : Nat} (ha : SndO cv X W e te fa) : SndE cv X W (.Subscript e (.Slice none none (some (.UnaryOp .USub (.Constant (.int 1) k p) p2)) p3) pos) (tRevL X.K te) (vRevL fa) := by
  refine ⟨pe_revL ha.pe, fun F B H σ ρ Q R q => ?_⟩
  refine ha.ad F B H σ ρ _ R (wpm_mono (wpm_bnd q) (fun o ρ1 q v B1 H1 R1 sm1 ov => ?_) fun _ _ q => q)
  obtain ⟨d, sv, e1, e2, q⟩ := wpm_lift1 q
  unfold gRv at e2
  split at e2
  · cases e2
    obtain ⟨a, xs, rfl, h1, r1⟩ := (ov.rep R1 e1).lst R1.exB
    exact ⟨a, xs, rfl, SqL.of h1, fun p hp => q _ _ _ (R1.new hp) sm1 (RV.newL R1 hp r1.reverse)⟩
  · cases e2
end

/-! ### the text's defs as they stand -/
structure DefAt (K : PySem.W.Frag) (mg : Str → Option Value) (x : Str) (st : Stmt) (ps : List Str) : Prop where
  ex : ∃ f fd, Fun K x x st f fd ∧ mg x = some (.ref f) ∧ Binds K fd ps []
def Has (P : Program) (w : World) (K : PySem.W.Frag) (mg : Str → Option Value) (base : Heap) (cv : Nat → Value) (k n : Nat) (io : Option Nat) (Φ : List D → Option CR) (x : Str) (ps : List Str) : Prop :=
  ∃ f fd, FnOk P w K mg base (L2.CX P w) k f fd ps (spI cv K n io Φ) ∧ mg x = some (.ref f) ∧ PySem.W.keepIn K (.ref f) = true ∧ Binds K fd ps [] ∧ ∃ oc od osl, K.lookup f = some ⟨oc, od, .func fd, osl⟩
structure GlobAt (K : PySem.W.Frag) (mg : Str → Option Value) (x : Str) (d : D) : Prop where
  ex : ∃ u v, mg x = some u ∧ RelV v u ∧ ∀ H, Rep K H v d
theorem fun_look {K : PySem.W.Frag} {x qual : Str} {st : Stmt} {f : Addr} {fd : FuncData} (F : Fun K x qual st f fd) : ∃ oc od osl, K.lookup f = some ⟨oc, od, .func fd, osl⟩ := by
  obtain ⟨oc, od, kV, doc, pm, an, cdv, ct, osl, e, l, c⟩ := F.ex
  exact ⟨oc, od, osl, l⟩
theorem defAt_mk {K : PySem.W.Frag} {h : Heap} {mg : Str → Option Value} {x : Str} {st : Stmt} {ps : List Str} {f : Addr} {od an : Option Addr} {sl : Array (Option Value)} {oc kV dc pm cd ct : Value} (X : K.In h) (G : h.Ns mainGlobals mg)
    (a : PySem.W.nsIn K mainGlobals x = some (some (.ref f))) (l : K.lookup f = some ⟨oc, od, .func (PySem.W.fnOf x x (defArgs st) (defBody st) (defScope st) .none kV dc pm an cd ct), sl⟩) (c : PySem.W.codeIn K cd x = true) (k : PySem.W.keepIn K (.ref f) = true)
    (b : ∀ (kV doc pm : Value) (an : Option Addr) (cdv ct : Value) (us : List Value), us.length = ps.length → bindArgs (PySem.W.fnOf x x (defArgs st) (defBody st) (defScope st) .none kV doc pm an cdv ct) ⟨us, []⟩ = pure (ps.zip us)) : DefAt K mg x st ps := by
  have F := fun_mk (st := st) l c k
  exact ⟨_, _, F, PySem.W.mg_of X G a, F.binds b⟩
theorem with_def {R : Prop} {K : PySem.W.Frag} {h : Heap} {mg : Str → Option Value} {x : Str} {st : Stmt} {ps : List Str} {f : Addr} {od an : Option Addr} {sl : Array (Option Value)} {oc kV dc pm cd ct : Value} (X : K.In h) (G : h.Ns mainGlobals mg)
    (a : PySem.W.nsIn K mainGlobals x = some (some (.ref f))) (l : K.lookup f = some ⟨oc, od, .func (PySem.W.fnOf x x (defArgs st) (defBody st) (defScope st) .none kV dc pm an cd ct), sl⟩) (c : PySem.W.codeIn K cd x = true) (k : PySem.W.keepIn K (.ref f) = true)
    (b : ∀ (kV doc pm : Value) (an : Option Addr) (cdv ct : Value) (us : List Value), us.length = ps.length → bindArgs (PySem.W.fnOf x x (defArgs st) (defBody st) (defScope st) .none kV doc pm an cdv ct) ⟨us, []⟩ = pure (ps.zip us)) (n : DefAt K mg x st ps → R) : R := n (defAt_mk X G a l c k b)
theorem with_no {R : Prop} {K : PySem.W.Frag} {h : Heap} {mg : Str → Option Value} {x : Str} (X : K.In h) (G : h.Ns mainGlobals mg) (a : PySem.W.nsIn K mainGlobals x = some none) (n : mg x = none → R) : R := n (PySem.W.mg_none_of X G a)
theorem with_int {R : Prop} {K : PySem.W.Frag} {h : Heap} {mg : Str → Option Value} {x : Str} {i : Int} {t : Tok} (X : K.In h) (G : h.Ns mainGlobals mg) (a : PySem.W.nsIn K mainGlobals x = some (some (.int i t))) (n : GlobAt K mg x (.int i) → R) : R := n ⟨_, .int i, PySem.W.mg_of X G a, ⟨_, rfl⟩, fun _ => .int _⟩
theorem with_str {R : Prop} {K : PySem.W.Frag} {h : Heap} {mg : Str → Option Value} {x : Str} {i : Str} {t : Tok} (X : K.In h) (G : h.Ns mainGlobals mg) (a : PySem.W.nsIn K mainGlobals x = some (some (.str i t))) (n : GlobAt K mg x (.str i) → R) : R := n ⟨_, .str i, PySem.W.mg_of X G a, ⟨_, rfl⟩, fun _ => .str _⟩
/-- the law's own promise -/
def spLaw (K : PySem.W.Frag) : Sp := fun vs H Q _ => ∃ (a : Addr) (ns : List Int), vs = [.ref a] ∧ SqL K H a (ns.map V.int) ∧ ns.length ≤ 63 ∧ ∀ H', Q (.bl true) H'
theorem spLaw_of {K : PySem.W.Frag} {cv : Nat → Value} {Φ : List D → Option CR} (plain : ∀ ns : List Int, ns.length ≤ 63 → Φ [.scr ns] = some (.ret (.sh (.bl true)) [])) {vs : List V} {H : Hp} {Q : VK} {E : XK} (h : spLaw K vs H Q E) : spI cv K 1 none Φ vs H Q E := by
  obtain ⟨a, ns, rfl, hS, hl, q⟩ := h
  refine ⟨rfl, [.scr ns], _, fun _ => none, H, none, plain ns hl, Same.refl _, (fun _ _ e => nomatch e), (fun _ _ e => nomatch e), ⟨rfl, fun i v d hv hd _ => ?_, (fun i e => nomatch e), fun _ => rfl⟩, fun v B' H' _ _ _ _ _ cr => ?_⟩
  · cases i with
    | zero =>
      cases hv
      cases hd
      exact .scr hS
    | succ i => simp at hv
  · cases cr with
    | sh r =>
      cases r
      exact q _
theorem law_mk {P : Program} {w : World} {K : PySem.W.Frag} {h : Heap} {mg : Str → Option Value} {y x : Str} {st : Stmt} {CX : CXT} {kk : Nat} {sp : Sp} {fa f : Addr} {od an : Option Addr} {sl : Array (Option Value)} {oc kV dc pm cd ct : Value} (X : K.In h) (G : h.Ns mainGlobals mg) (hfa : mg y = some (.ref fa))
    (a : PySem.W.nsIn K mainGlobals y = some (some (.ref f))) (l : K.lookup f = some ⟨oc, od, .func (PySem.W.fnOf y y (defArgs st) (defBody st) (defScope st) .none kV dc pm an cd ct), sl⟩) (c : PySem.W.codeIn K cd y = true) (k : PySem.W.keepIn K (.ref f) = true)
    (b : ∀ (kV doc pm : Value) (an : Option Addr) (cdv ct : Value) (us : List Value), us.length = ([x] : List Str).length → bindArgs (PySem.W.fnOf y y (defArgs st) (defBody st) (defScope st) .none kV doc pm an cdv ct) ⟨us, []⟩ = pure (([x] : List Str).zip us))
    (bt : ∀ (kV doc pm : Value) (an : Option Addr) (cdv ct : Value) (s : Shared) (v : Value), BindsTo s (PySem.W.fnOf y y (defArgs st) (defBody st) (defScope st) .none kV doc pm an cdv ct) ⟨[v], []⟩ [(x, v)])
    (H : ∀ base : Heap, K.In base → DefAt K mg y st [x] → K.lookup fa = some ⟨oc, od, .func (PySem.W.fnOf y y (defArgs st) (defBody st) (defScope st) .none kV dc pm an cd ct), sl⟩ → FnOk P w K mg base CX kk fa (PySem.W.fnOf y y (defArgs st) (defBody st) (defScope st) .none kV dc pm an cd ct) [x] sp) :
    ∃ fd : FuncData, (∀ (s : Shared) (u : Value), BindsTo s fd ⟨[u], []⟩ [(x, u)]) ∧ ∀ base : Heap, K.In base → base.Ns mainGlobals mg → FnOk P w K mg base CX kk fa fd [x] sp := by
  have e := hfa.symm.trans (PySem.W.mg_of X G a)
  cases e
  exact ⟨_, fun s v => bt _ _ _ _ _ _ s v, fun base hb _ => H base hb (defAt_mk X G a l c k b) l⟩
theorem has_law {P : Program} {w : World} {K : PySem.W.Frag} {mg : Str → Option Value} {base : Heap} {cv : Nat → Value} {k : Nat} {Φ : List D → Option CR} {x : Str} {ps : List Str} {fa : Addr} {fd : FuncData} {oc : Value} {od : Option Addr} {osl : Array (Option Value)} (H : Has P w K mg base cv k 1 none Φ x ps) (hmg : mg x = some (.ref fa))
    (lk : K.lookup fa = some ⟨oc, od, .func fd, osl⟩) (plain : ∀ ns : List Int, ns.length ≤ 63 → Φ [.scr ns] = some (.ret (.sh (.bl true)) [])) : FnOk P w K mg base (L2.CX P w) k fa fd ps (spLaw K) := by
  obtain ⟨f, fd', G, m, _, _, oc', od', osl', lk'⟩ := H
  rw [hmg] at m
  cases m
  rw [lk] at lk'
  cases lk'
  exact G.imp fun vs H Q E h => spLaw_of plain h
theorem cx_no {P : Program} {w : World} {H : Hp} {s : Shared} {e : Value} {s' : Shared} (h : L2.CX P w [] H s (fun _ _ _ => False) e s') : False := by
  obtain ⟨_, _, _, _, _, _, _, _, _, _, _, _, h⟩ := h
  exact h
/-- a module's own tuple -/
theorem rep_tupK {K : PySem.W.Frag} {a : Addr} {dd : Option Addr} {its : List Value} {n : Nat} {sl : Array (Option Value)} {xs : List V} {ds : List D} (l : K.lookup a = some ⟨.type "tuple", dd, .seq its.toArray n, sl⟩) (hz : its.length ≤ sizeLine) (r : Vals xs its) (rl : ∀ H, RepL K H xs ds) : ∀ H, Rep K H (.ref a) (.tup ds) :=
  fun H => .tup (.inr ⟨_, its.toArray, n, l, rfl, rfl, by simpa using hz, by simpa using r⟩) (rl H)
theorem with_tup {R : Prop} {K : PySem.W.Frag} {h : Heap} {mg : Str → Option Value} {x : Str} {a : Addr} {dd : Option Addr} {its : List Value} {n : Nat} {sl : Array (Option Value)} {xs : List V} {ds : List D} (X : K.In h) (G : h.Ns mainGlobals mg)
    (m : PySem.W.nsIn K mainGlobals x = some (some (.ref a))) (lx : K.lookup a = some ⟨.type "tuple", dd, .seq its.toArray n, sl⟩) (hz : its.length ≤ sizeLine) (r : Vals xs its) (rl : ∀ H, RepL K H xs ds) (nx : GlobAt K mg x (.tup ds) → R) : R :=
  nx ⟨_, .ref a, PySem.W.mg_of X G m, rfl, rep_tupK lx hz r rl⟩
theorem rep_tupK2 {K : PySem.W.Frag} {a : Addr} {o : Obj} {dd : Option Addr} {its : List Value} {n : Nat} {sl : Array (Option Value)} {xs : List V} {ds : List D} (l : K.lookup a = some o) (ho : o = ⟨.type "tuple", dd, .seq its.toArray n, sl⟩) (hz : its.length ≤ sizeLine) (r : Vals xs its) (rl : ∀ H, RepL K H xs ds) : ∀ H, Rep K H (.ref a) (.tup ds) := by
  subst ho
  exact rep_tupK l hz r rl
theorem with_tup2 {R : Prop} {K : PySem.W.Frag} {h : Heap} {mg : Str → Option Value} {x : Str} {a : Addr} {o : Obj} {dd : Option Addr} {its : List Value} {n : Nat} {sl : Array (Option Value)} {xs : List V} {ds : List D} (X : K.In h) (G : h.Ns mainGlobals mg)
    (m : PySem.W.nsIn K mainGlobals x = some (some (.ref a))) (lx : K.lookup a = some o) (ho : o = ⟨.type "tuple", dd, .seq its.toArray n, sl⟩) (hz : its.length ≤ sizeLine) (r : Vals xs its) (rl : ∀ H, RepL K H xs ds) (nx : GlobAt K mg x (.tup ds) → R) : R := by
  subst ho
  exact with_tup X G m lx hz r rl nx
section
variable {cv : Nat → Value} {X : Cx} {W : WX} {elt iter tg : Expr}
theorem snd_lc2 {pos : Pos} {ifs : List Expr} {scope : Scope} {own : List (Str × Nat)} {wi : TI} {tgt : TG} {it : M Itb} {g : SV → Sl → Option Sl} {w : List Nat} {c : M Bool} {f : M SV} {te : Shared → Hp → Addr → List (Str × Addr) → List Addr → TE} {tt : Shared → Hp → Addr → List (Str × Addr) → List Addr → TT} (hca : X.calm = true) (hN : X.N.Nodup) (hi : SndI cv X W tg iter wi it) (ok : BlkOk X.N X.env.scope scope own)
    (hg : ∀ (s : Shared) (H : Hp) (C : Addr) (cl : List (Str × Addr)) (fp : List Addr), SndG (X.blk s H scope (compEnvC scope cl C X.env) fp) tg tgt g w)
    (ht : ∀ (s : Shared) (H : Hp) (C : Addr) (cl : List (Str × Addr)) (fp : List Addr), PTs (X.blk s H scope (compEnvC scope cl C X.env) fp) ifs (tt s H C cl fp) ∧ Adm cv W0 X.K (tt s H C cl fp) c (fun _ _ _ _ _ b b' => b = b'))
    (he : ∀ (s : Shared) (H : Hp) (C : Addr) (cl : List (Str × Addr)) (fp : List Addr), SndE cv (X.blk s H scope (compEnvC scope cl C X.env) fp) W0 elt (te s H C cl fp) f)
    (s0 : Shared) (hw : ∀ j, j ∈ w → j ∈ own.map (·.2)) (hte : ∀ (s : Shared) (H : Hp) (C : Addr) (cl : List (Str × Addr)) (fp : List Addr), te s H C cl fp = te s0 X.H_0 0 [] []) (htt : ∀ (s : Shared) (H : Hp) (C : Addr) (cl : List (Str × Addr)) (fp : List Addr), tt s H C cl fp = tt s0 X.H_0 0 [] []) (hs : ∀ x, foldedSetIterable iter X.env x = pure x := by intro _; rfl) : SndE cv X W (.ListComp elt [⟨tg, iter, ifs, 0⟩] scope pos) (tLc wi tgt (tt s0 X.H_0 0 [] []) (te s0 X.H_0 0 [] []) (own.map (·.2))) (vLc (own.map (·.2)) it g c f) :=
  snd_lc hca hN hi ok hg (fun s H C cl fp => htt s H C cl fp ▸ ht s H C cl fp) (fun s H C cl fp => hte s H C cl fp ▸ he s H C cl fp) s0 hw hs
theorem sns_setLc2 {i : Nat} {y : Str} {py spos : Pos} {pos : Pos} {ifs : List Expr} {scope : Scope} {own : List (Str × Nat)} {wi : TI} {tgt : TG} {it : M Itb} {g : SV → Sl → Option Sl} {w : List Nat} {c : M Bool} {f : M SV} {te : Shared → Hp → Addr → List (Str × Addr) → List Addr → TE} {tt : Shared → Hp → Addr → List (Str × Addr) → List Addr → TT} (hca : X.calm = true) (hN : X.N.Nodup) (hy : X.N[i]? = some y) (hyl : X.env.scope.names.lookup y = some .local)
    (hsw : swapsWith (.ListComp elt [⟨tg, iter, ifs, 0⟩] scope pos) (some (.Name y py)) spos.line X.env = pure true) (hi : SndI cv X W tg iter wi it) (ok : BlkOk X.N X.env.scope scope own)
    (hg : ∀ (s : Shared) (H : Hp) (C : Addr) (cl : List (Str × Addr)) (fp : List Addr), SndG (X.blk s H scope (compEnvC scope cl C X.env) fp) tg tgt g w)
    (ht : ∀ (s : Shared) (H : Hp) (C : Addr) (cl : List (Str × Addr)) (fp : List Addr), PTs (X.blk s H scope (compEnvC scope cl C X.env) fp) ifs (tt s H C cl fp) ∧ Adm cv W0 X.K (tt s H C cl fp) c (fun _ _ _ _ _ b b' => b = b'))
    (he : ∀ (s : Shared) (H : Hp) (C : Addr) (cl : List (Str × Addr)) (fp : List Addr), SndE cv (X.blk s H scope (compEnvC scope cl C X.env) fp) W0 elt (te s H C cl fp) f)
    (s0 : Shared) (hw : ∀ j, j ∈ w → j ∈ own.map (·.2)) (hte : ∀ (s : Shared) (H : Hp) (C : Addr) (cl : List (Str × Addr)) (fp : List Addr), te s H C cl fp = te s0 X.H_0 0 [] []) (htt : ∀ (s : Shared) (H : Hp) (C : Addr) (cl : List (Str × Addr)) (fp : List Addr), tt s H C cl fp = tt s0 X.H_0 0 [] []) (hs : ∀ x, foldedSetIterable iter X.env x = pure x := by intro _; rfl) (hf : X.fn y = true ∨ X.env.scope.names.lookup y = some .local := by first | exact .inl rfl | exact .inr rfl | assumption) :
    SndS cv X W (.Assign [.Name y py] (.ListComp elt [⟨tg, iter, ifs, 0⟩] scope pos) spos) (tAsg (tLc wi tgt (tt s0 X.H_0 0 [] []) (te s0 X.H_0 0 [] []) (own.map (·.2))) (gName i)) (sAsg (vLc (own.map (·.2)) it g c f) (gN i)) [i] :=
  sns_setLc hca hN hy hyl hsw hi ok hg (fun s H C cl fp => htt s H C cl fp ▸ ht s H C cl fp) (fun s H C cl fp => hte s H C cl fp ▸ he s H C cl fp) s0 hw hs hf
end
end Sim

namespace Sim
open PySem PySem.Spec PyProof.Rows L2
/-! ### equations for running by hand -/
theorem gMul_ok {i j : Int} (h : MulOk i j) : gMul (.int i) (.int j) = some (.sh (.int (i * j))) := if_pos h
theorem gDiv_pos {i j : Int} (h : 0 < j) (h2 : j.natAbs.log2 < 9000) : gDiv (.int i) (.int j) = some (.sh (.int (i / j))) := by
  show (if DivOk i j then some (SV.sh (.int (i.fdiv j))) else none) = _
  rw [if_pos ⟨by omega, h2⟩, Int.fdiv_eq_ediv_of_nonneg _ (by omega)]
theorem gDiv_neg {i j : Int} (h : j < 0) (h2 : j.natAbs.log2 < 9000) : gDiv (.int i) (.int j) = some (.sh (.int ((-i) / (-j)))) := by
  show (if DivOk i j then some (SV.sh (.int (i.fdiv j))) else none) = _
  rw [if_pos ⟨by omega, h2⟩, ← Int.fdiv_eq_ediv_of_nonneg _ (by omega), Int.neg_fdiv_neg]
theorem gMod_pos {i j : Int} (h : 0 < j) : gMod (.int i) (.int j) = some (.sh (.int (i % j))) := by
  show (if j ≠ 0 then some (SV.sh (.int (i.fmod j))) else none) = _
  rw [if_pos (by omega), Int.fmod_eq_emod_of_nonneg _ (by omega)]
theorem mulOk_l {i j : Int} (h1 : -(2 ^ 64) < i) (h2 : i < 2 ^ 64) : MulOk i j := .inl ⟨h1, h2⟩
theorem mulOk_r {i j : Int} (h1 : -(2 ^ 64) < j) (h2 : j < 2 ^ 64) : MulOk i j := .inr (.inl ⟨h1, h2⟩)
theorem log2_lt {n k : Nat} (h : n < 2 ^ k) (hk : 0 < k) : n.log2 < k := by
  rcases Nat.eq_zero_or_pos n with rfl | hn
  · have e : Nat.log2 0 = 0 := by decide
    rw [e]
    exact hk
  · exact (Nat.log2_lt (by omega)).mpr h
/-- two numbers below 2^400000 -/
theorem mulOk_big {i j : Int} {k m : Nat} (h1 : i.natAbs < 2 ^ k) (h2 : j.natAbs < 2 ^ m) (hk : 0 < k) (hm : 0 < m) (h : k + m ≤ 1000000) : MulOk i j := by
  refine .inr (.inr ?_)
  have a := log2_lt h1 hk
  have b := log2_lt h2 hm
  omega
theorem log_9000 {j : Int} {k : Nat} (h : j.natAbs < 2 ^ k) (hk : 0 < k) (h9 : k ≤ 9000) : j.natAbs.log2 < 9000 := Nat.lt_of_lt_of_le (log2_lt h hk) h9
theorem atI_0 {α : Type} {x : α} {l : List α} : atI (x :: l) (0 : Int) = some x := atI_nat (j := 0) rfl
theorem atI_1 {α : Type} {x y : α} {l : List α} : atI (x :: y :: l) (1 : Int) = some y := atI_nat (j := 1) rfl
theorem atI_2 {α : Type} {x y z : α} {l : List α} : atI (x :: y :: z :: l) (2 : Int) = some z := atI_nat (j := 2) rfl
theorem atI_3 {α : Type} {x y z u : α} {l : List α} : atI (x :: y :: z :: u :: l) (3 : Int) = some u := atI_nat (j := 3) rfl
theorem atI_at {α : Type} {l : List α} {i : Int} {d : α} (h : l[i.toNat]? = some d) (h0 : 0 ≤ i) : atI l i = some d := by
  have e := atI_nat h
  rw [Int.toNat_of_nonneg h0] at e
  exact e
theorem ixN_0 {n : Nat} (h : 0 < n) : ixN n (0 : Int) = some 0 := by
  unfold ixN
  rw [if_pos (by omega), if_pos (by omega)]
  rfl
theorem ixN_1 {n : Nat} (h : 1 < n) : ixN n (1 : Int) = some 1 := by
  unfold ixN
  rw [if_pos (by omega), if_pos (by omega)]
  rfl
theorem sSeq_nx {m n : SM} {ρ ρ' : Sl} (h : m ρ = some (.nx ρ')) : sSeq m n ρ = n ρ' := by
  unfold sSeq
  rw [h]
theorem sEx_ok {α : Type} {f : M α} {k : α → SM} {ρ ρ' : Sl} {a : α} (h : f ρ = some (.ok a ρ')) : sEx f k ρ = k a ρ' := by
  unfold sEx
  rw [h]
theorem bnd_ok {α β : Type} {f : M α} {k : α → M β} {ρ ρ' : Sl} {a : α} (h : f ρ = some (.ok a ρ')) : bnd f k ρ = k a ρ' := by
  unfold bnd
  rw [h]
/-- a loop each of whose turns goes on -/
theorem forL_inv {g : SV → Sl → Option Sl} {body : SM} (Inv : Sl → Prop) : ∀ {ds : List D} {ρ : Sl}, (∀ d ∈ ds, ∀ ρ, Inv ρ → ∃ ρ1 ρ2, g (.sh d) ρ = some ρ1 ∧ body ρ1 = some (.nx ρ2) ∧ Inv ρ2) → Inv ρ → ∃ ρ', forL g body ds ρ = some (.nx ρ') ∧ Inv ρ'
  | [], ρ, _, h0 => ⟨ρ, rfl, h0⟩
  | d :: ds, ρ, h, h0 => by
    obtain ⟨ρ1, ρ2, h1, h2, h3⟩ := h d List.mem_cons_self ρ h0
    obtain ⟨ρ', h4, h5⟩ := forL_inv Inv (ds := ds) (ρ := ρ2) (fun d hd => h d (List.mem_cons_of_mem _ hd)) h3
    refine ⟨ρ', ?_, h5⟩
    unfold forL
    rw [h1]
    show turnK (forL g body ds) (body ρ1) = _
    rw [h2]
    exact h4
theorem forL_cons {g : SV → Sl → Option Sl} {body : SM} {d : D} {ds : List D} {ρ ρ1 ρ2 : Sl} (h1 : g (.sh d) ρ = some ρ1) (h2 : body ρ1 = some (.nx ρ2)) : forL g body (d :: ds) ρ = forL g body ds ρ2 := by
  show ((g (.sh d) ρ).bind fun ρ1 => turnK (forL g body ds) (body ρ1)) = _
  rw [h1]
  show turnK (forL g body ds) (body ρ1) = _
  rw [h2]
  rfl
theorem mem_rng {lo : Int} {n : Nat} {d : D} (h : d ∈ rngD lo n) : ∃ k : Nat, k < n ∧ d = .int (lo + k) := by
  unfold rngD at h
  obtain ⟨k, hk, e⟩ := List.mem_map.mp h
  exact ⟨k, List.mem_range.mp hk, e.symm⟩
end Sim

namespace Sim
open PySem PySem.Spec PyProof.Rows L2
/-! ### the runs, applied: each step once what it stands on is known -/
def seqK (n : SM) : Option SO → Option SO
  | some (.nx ρ) => n ρ
  | o => o
def exK {α : Type} (k : α → SM) : Option (Out α) → Option SO
  | none => none
  | some (.ex c ρ) => some (.ex c ρ)
  | some (.ok a ρ) => k a ρ
def bnK {α β : Type} (k : α → M β) : Option (Out α) → Option (Out β)
  | none => none
  | some (.ex c ρ) => some (.ex c ρ)
  | some (.ok a ρ) => k a ρ
def okK (ρ : Sl) (o : Option SV) : Option (Out SV) := o.map fun sv => .ok sv ρ
def varK (i : Nat) (ρ : Sl) : Option (Option SV) → Option (Out SV)
  | some (some (.sh d)) => some (.ok (.sh d) ρ)
  | some (some (.ow c)) => some (.ok (.sh c.d) (ρ.set i (some (.sh c.d))))
  | _ => none
def mvK (i : Nat) (ρ : Sl) : Option (Option SV) → Option (Out SV)
  | some (some (.sh d)) => some (.ok (.sh d) ρ)
  | some (some (.ow c)) => some (.ok (.ow c) (ρ.set i none))
  | _ => none
def pkK (i : Nat) (ρ : Sl) : Option (Option SV) → Option (Out Op)
  | some (some _) => some (.ok (.slot i) ρ)
  | _ => none
def sdK : Option (Option SV) → Option D
  | some (some sv) => some sv.d
  | _ => none
def l1K (g : D → Option SV) (ρ : Sl) : Option D → Option (Out SV)
  | some x => okK ρ (g x)
  | none => none
def l2K (g : D → D → Option SV) (ρ : Sl) : Option D → Option D → Option (Out SV)
  | some x, some y => okK ρ (g x y)
  | _, _ => none
def lAK (g : List D → Option SV) (ρ : Sl) : Option (List D) → Option (Out SV)
  | some x => okK ρ (g x)
  | none => none
def gsK : Option D → Option (List D) → Option (List D)
  | some d, some ds => some (d :: ds)
  | _, _ => none
def tsK : Option (Out SV) → Option (Out Bool)
  | some (.ok (.sh (.bl b)) ρ) => some (.ok b ρ)
  | some (.ex c ρ) => some (.ex c ρ)
  | _ => none
def tpK (ρ : Sl) : Option (List D) → Option (Out SV)
  | some ds => if ds.length ≤ 1000000 then some (.ok (.sh (.tup ds)) ρ) else none
  | none => none
def lsK (ρ : Sl) : Option (List D) → Option (Out SV)
  | some ds => if ds.length ≤ 1000000 then some (.ok (.fr ds) ρ) else none
  | none => none
def clK (io : Option Nat) (Φ : List D → Option CR) (os : List Op) (ρ : Sl) : Option (List D) → Option (Out SV)
  | none => none
  | some ds => match Φ ds with
    | none => none
    | some res => if (ioOk io os ρ && (noBr io os ρ || resOk io os ρ res)) = true then some (outOf io os ρ res) else none
def rsK (io : Option Nat) (os : List Op) (ρ : Sl) : Option CR → Option (Out SV)
  | none => none
  | some res => if (ioOk io os ρ && (noBr io os ρ || resOk io os ρ res)) = true then some (outOf io os ρ res) else none
def ioK (io : Option Nat) (os : List Op) (ρ : Sl) : Option Nat → Bool
  | some i => isFr ρ i && !(brs io os).contains i
  | none => false
def puK (out : List D) (ρ : Sl) : Option Nat → Sl
  | some i => ρ.set i (some (.fr out))
  | none => ρ
def r1K (ρ : Sl) : Option (List D) → Option (Out Itb)
  | some [.int j] => (if RngOk j then some (Itb.mk (rngD 0 j.toNat) []) else none).map fun ib => .ok ib ρ
  | _ => none
def r2K (ρ : Sl) (x : Option (List D)) : Option (Out Itb) := (match x with
  | some [.int i, .int j] => if RngOk i ∧ RngOk j then some (Itb.mk (rngD i (j - i).toNat) []) else none
  | _ => none).map fun ib => .ok ib ρ
def itK (ρ : Sl) (x : Option Itb) : Option (Out Itb) := x.map fun ib => .ok ib ρ
def tIK (ρ : Sl) : Option D → Option (Out Itb)
  | some (.tup l) => some (.ok ⟨l, []⟩ ρ)
  | _ => none
def lxK (i : Nat) : Option (Option SV) → Option Itb
  | some (some (.ow (.lst l))) => some ⟨l, [(i, l)]⟩
  | some (some (.sh (.lst l))) => some ⟨l, []⟩
  | some (some (.sh (.scr l))) => some ⟨l.map .int, []⟩
  | _ => none
def zpK : Option Itb → Option Itb → Option Itb
  | some x, some y => some ⟨zipD x.ds y.ds, x.pk ++ y.pk⟩
  | _, _ => none
def pnK : Option (Out SV) → Option (Out (Option Int))
  | some (.ok (.sh (.int i)) ρ) => some (.ok (some i) ρ)
  | some (.ex c ρ) => some (.ex c ρ)
  | _ => none
def nxK (o : Option Sl) : Option SO := o.map .nx
def ruK (io : Option Nat) : Option SO → Option CR
  | some (.nx ρ) => (outS io ρ).map (.ret (.sh .non))
  | some (.rt sv ρ) => (outS io ρ).map (.ret sv)
  | some (.ex c ρ) => (outS io ρ).map (.exc c)
  | _ => none
def osK : Option (Option SV) → Option (List D)
  | some (some (.ow (.lst l))) => some l
  | _ => none
def frK : Option (Option SV) → Bool
  | some (some (.ow (.lst _))) => true
  | _ => false
def stIK (i : Nat) (ρ : Sl) (d : D) (k : Int) : Option (Option SV) → Option SO
  | some (some (.ow (.lst l))) => (ixN l.length k).map fun j => .nx (ρ.set i (some (.fr (l.set j d))))
  | _ => none
def mtIK (i : Nat) (ρ : Sl) (g : List D → List D → Option (D × List D)) (os : List Op) : Option (Option SV) → Option (Out SV)
  | some (some (.ow (.lst l))) => match vals os with
    | some ds => match g l ds with
      | some (d, l') => some (.ok (.sh d) (ρ.set i (some (.fr l'))))
      | none => none
    | none => none
  | _ => none
section
variable {α β : Type} {m n : SM} {f : M α} {k : α → M β} {q : α → SM} {ρ : Sl} {a : α} {c : Nat} {sv : SV} {d x y : D} {ds l : List D} {os : List Op} {o p : Op} {i j : Nat} {z : Int} {b : Bool}
theorem e_seq : sSeq m n ρ = seqK n (m ρ) := rfl
theorem k_seq1 : seqK n (some (.nx ρ)) = n ρ := rfl
theorem k_seq2 : seqK n (some (.rt sv ρ)) = some (.rt sv ρ) := rfl
theorem k_seq3 : seqK n (some (.ex c ρ)) = some (.ex c ρ) := rfl
theorem k_seq4 : seqK n (some (.bk ρ)) = some (.bk ρ) := rfl
theorem k_seq5 : seqK n (some (.ct ρ)) = some (.ct ρ) := rfl
theorem e_ex : sEx f q ρ = exK q (f ρ) := rfl
theorem k_ex1 : exK q (some (.ok a ρ)) = q a ρ := rfl
theorem k_ex2 : exK q (some (.ex c ρ)) = some (.ex c ρ) := rfl
theorem e_bnd : bnd f k ρ = bnK k (f ρ) := rfl
theorem k_bn1 : bnK k (some (.ok a ρ)) = k a ρ := rfl
theorem k_bn2 : bnK k (some (.ex c ρ)) = some (.ex c ρ) := rfl
theorem e_ret : ret a ρ = some (.ok a ρ) := rfl
theorem e_nx : sNx ρ = some (.nx ρ) := rfl
theorem e_bk : sBk ρ = some (.bk ρ) := rfl
theorem e_ct : sCt ρ = some (.ct ρ) := rfl
theorem e_c : vC d ρ = some (.ok (.sh d) ρ) := rfl
theorem e_var : vVar i ρ = varK i ρ ρ[i]? := by unfold vVar varK; generalize ρ[i]? = x; rcases x with _ | _ | _ | _ <;> rfl
theorem k_var1 : varK i ρ (some (some (.sh d))) = some (.ok (.sh d) ρ) := rfl
theorem k_var2 : varK i ρ (some (some (.fr l))) = some (.ok (.sh (.lst l)) (ρ.set i (some (.sh (.lst l))))) := rfl
theorem e_mv : vMv i ρ = mvK i ρ ρ[i]? := by unfold vMv mvK; generalize ρ[i]? = x; rcases x with _ | _ | _ | _ <;> rfl
theorem k_mv1 : mvK i ρ (some (some (.sh d))) = some (.ok (.sh d) ρ) := rfl
theorem k_mv2 : mvK i ρ (some (some (.fr l))) = some (.ok (.fr l) (ρ.set i none)) := rfl
theorem e_pk : oPk i ρ = pkK i ρ ρ[i]? := by unfold oPk pkK; generalize ρ[i]? = x; rcases x with _ | _ | _ <;> rfl
theorem k_pk : pkK i ρ (some (some sv)) = some (.ok (.slot i) ρ) := rfl
theorem e_get1 : get ρ (.val d) = some d := rfl
theorem e_get2 : get ρ (.slot i) = sdK ρ[i]? := by show slotD ρ i = _; unfold slotD sdK; generalize ρ[i]? = x; rcases x with _ | _ | _ <;> rfl
theorem k_sd1 : sdK (some (some (.sh d))) = some d := rfl
theorem k_sd2 : sdK (some (some (.fr l))) = some (.lst l) := rfl
theorem e_gets1 : gets ρ [] = some [] := rfl
theorem e_gets2 : gets ρ (o :: os) = gsK (get ρ o) (gets ρ os) := by conv => { lhs; unfold gets }; unfold gsK; generalize get ρ o = x; generalize gets ρ os = y; cases x <;> cases y <;> rfl
theorem k_gs : gsK (some d) (some ds) = some (d :: ds) := rfl
theorem e_vals1 : vals [] = some [] := rfl
theorem e_vals2 : vals (.val d :: os) = (vals os).map (d :: ·) := rfl
theorem e_oOf {f : M SV} : oOf f ρ = bnK (fun sv => ret (.val sv.d)) (f ρ) := rfl
theorem e_d1 : (SV.sh d).d = d := rfl
theorem e_d2 : (SV.fr l).d = .lst l := rfl
theorem e_d3 {ks : List L2.Key} {vs : List D} : (SV.ow (.dk ks vs)).d = .dck ks vs := rfl
theorem e_d4 {ks : List (List Int)} {vs : List D} : (SV.ow (.dt ks vs)).d = .dct ks vs := rfl
theorem e_d5 {c : Str} {ns : List Str} {fs : List D} : (SV.ow (.ob c ns fs)).d = .ob c ns fs := rfl
theorem k_var3 {ks : List L2.Key} {vs : List D} : varK i ρ (some (some (.ow (.dk ks vs)))) = some (.ok (.sh (.dck ks vs)) (ρ.set i (some (.sh (.dck ks vs))))) := rfl
theorem k_var4 {ks : List (List Int)} {vs : List D} : varK i ρ (some (some (.ow (.dt ks vs)))) = some (.ok (.sh (.dct ks vs)) (ρ.set i (some (.sh (.dct ks vs))))) := rfl
theorem k_var5 {c : Str} {ns : List Str} {fs : List D} : varK i ρ (some (some (.ow (.ob c ns fs)))) = some (.ok (.sh (.ob c ns fs)) (ρ.set i (some (.sh (.ob c ns fs))))) := rfl
theorem k_mv3 {c : OC} : mvK i ρ (some (some (.ow c))) = some (.ok (.ow c) (ρ.set i none)) := rfl
theorem k_sd3 {ks : List L2.Key} {vs : List D} : sdK (some (some (.ow (.dk ks vs)))) = some (.dck ks vs) := rfl
theorem k_sd4 {ks : List (List Int)} {vs : List D} : sdK (some (some (.ow (.dt ks vs)))) = some (.dct ks vs) := rfl
theorem k_sd5 {c : Str} {ns : List Str} {fs : List D} : sdK (some (some (.ow (.ob c ns fs)))) = some (.ob c ns fs) := rfl
def owK : Option (Option SV) → Bool
  | some (some (.ow _)) => true
  | _ => false
theorem e_isOw : isOw ρ i = owK ρ[i]? := by unfold isOw owK; generalize ρ[i]? = x; rcases x with _ | _ | _ | _ <;> rfl
theorem k_ow1 {c : OC} : owK (some (some (.ow c))) = true := rfl
theorem k_ow2 : owK (some (some (.sh d))) = false := rfl
theorem e_resOk {io : Option Nat} {res : CR} : resOk io os ρ res = (resT res || (noBrL io os ρ && resL res)) := rfl
theorem e_resL1 : resL (.ret (.sh d) l) = (isL d && isLL l) := rfl
theorem e_resL2 : resL (.ret (.fr ds) l) = (isLL ds && isLL l) := rfl
theorem e_noBrL {io : Option Nat} : noBrL io os ρ = (brs io os).all fun j => !isFr ρ j := rfl
theorem e_isL1 : isL (.lst l) = isLL l := by rw [isL]
theorem e_isL2 : isL (.tup l) = isLL l := by rw [isL]
theorem e_isL3 {i : Int} : isL (.int i) = true := by rw [isL]
theorem e_isL4 {i : Bool} : isL (.bl i) = true := by rw [isL]
theorem e_isL5 : isL .non = true := by rw [isL]
theorem e_isL6 {i : Str} : isL (.str i) = true := by rw [isL]
theorem e_isLL1 : isLL [] = true := by rw [isLL]
theorem e_isLL2 : isLL (d :: ds) = (isL d && isLL ds) := by rw [isLL]
theorem e_an : aNil ρ = some (.ok [] ρ) := rfl
theorem e_ac {a : M Op} {as : M (List Op)} : aCons a as ρ = bnK (fun o => bnd as fun os => ret (o :: os)) (a ρ) := rfl
theorem e_op1 {g : D → Option SV} {a : M Op} : vOp1 g a ρ = bnK (lift1 g) (a ρ) := rfl
theorem e_op2 {g : D → D → Option SV} {a b : M Op} : vOp2 g a b ρ = bnK (fun o => bnd b (lift2 g o)) (a ρ) := rfl
theorem e_bi {g : List D → Option SV} {as : M (List Op)} : vBi g as ρ = bnK (liftA g) (as ρ) := rfl
theorem e_l1 {g : D → Option SV} : lift1 g o ρ = l1K g ρ (get ρ o) := by unfold lift1 l1K okK; generalize get ρ o = x; cases x <;> rfl
theorem k_l1 {g : D → Option SV} : l1K g ρ (some x) = okK ρ (g x) := rfl
theorem e_l2 {g : D → D → Option SV} : lift2 g o p ρ = l2K g ρ (get ρ o) (get ρ p) := by unfold lift2 l2K okK; generalize get ρ o = x; generalize get ρ p = y; cases x <;> cases y <;> rfl
theorem k_l2 {g : D → D → Option SV} : l2K g ρ (some x) (some y) = okK ρ (g x y) := rfl
theorem e_lA {g : List D → Option SV} : liftA g os ρ = lAK g ρ (gets ρ os) := by unfold liftA lAK okK; generalize gets ρ os = x; cases x <;> rfl
theorem k_lA {g : List D → Option SV} : lAK g ρ (some ds) = okK ρ (g ds) := rfl
theorem k_ok : okK ρ (some sv) = some (.ok sv ρ) := rfl
theorem e_tst {f : M SV} : tst f ρ = tsK (f ρ) := by
  unfold tst bnd tsK
  cases f ρ with
  | none => rfl
  | some o =>
    cases o with
    | ex c ρ' => rfl
    | ok sv ρ' =>
      cases sv with
      | ow l => rfl
      | sh d => cases d <;> rfl
theorem k_ts1 : tsK (some (.ok (.sh (.bl b)) ρ)) = some (.ok b ρ) := rfl
theorem k_ts2 : tsK (some (.ex c ρ)) = some (.ex c ρ) := rfl
theorem e_tand {a b : M Bool} : tand a b ρ = bnK (fun x => if x = true then b else ret false) (a ρ) := rfl
theorem e_tor {a b : M Bool} : tor a b ρ = bnK (fun x => if x = true then ret true else b) (a ρ) := rfl
theorem e_tnot {a : M Bool} : tnot a ρ = bnK (fun x => ret (!x)) (a ρ) := rfl
theorem e_vand {a b : M SV} : vand a b ρ = bnK (fun x => if x = true then b else ret (.sh (.bl false))) (tst a ρ) := rfl
theorem e_vor {a b : M SV} : vor a b ρ = bnK (fun x => if x = true then ret (.sh (.bl true)) else b) (tst a ρ) := rfl
theorem e_vnot {a : M SV} : vnot a ρ = bnK (fun x => ret (.sh (.bl (!x)))) (tst a ρ) := rfl
theorem e_vif {t : M Bool} {a b : M SV} : vif t a b ρ = bnK (fun x => if x = true then a else b) (t ρ) := rfl
theorem e_iteT {α β : Type} {f g : α → β} {x : α} : (if True then f else g) x = f x := rfl
theorem e_iteF {α β : Type} {f g : α → β} {x : α} : (if False then f else g) x = g x := rfl
theorem e_tup {as : M (List Op)} : vTup as ρ = bnK (fun os ρ => tpK ρ (vals os)) (as ρ) := by
  unfold vTup bnd bnK
  cases as ρ with
  | none => rfl
  | some o =>
    cases o with
    | ex c ρ' => rfl
    | ok os ρ' =>
      show (match vals os with | some ds => _ | none => _) = tpK ρ' (vals os)
      unfold tpK
      cases vals os <;> rfl
theorem k_tp : tpK ρ (some ds) = if ds.length ≤ 1000000 then some (.ok (.sh (.tup ds)) ρ) else none := rfl
theorem e_lst {as : M (List Op)} : vLst as ρ = bnK (fun os ρ => lsK ρ (vals os)) (as ρ) := by
  unfold vLst bnd bnK
  cases as ρ with
  | none => rfl
  | some o =>
    cases o with
    | ex c ρ' => rfl
    | ok os ρ' =>
      show (match vals os with | some ds => _ | none => _) = lsK ρ' (vals os)
      unfold lsK
      cases vals os <;> rfl
theorem k_ls : lsK ρ (some ds) = if ds.length ≤ 1000000 then some (.ok (.fr ds) ρ) else none := rfl
theorem e_is {p : D → Bool} {a : M Op} : vIs p a ρ = bnK (lift1 (gIs p)) (a ρ) := rfl
theorem gIs_non {p : D → Bool} : gIs p .non = some (.sh (.bl (p .non))) := rfl
theorem gIs_bl {p : D → Bool} {b : Bool} : gIs p (.bl b) = some (.sh (.bl (p (.bl b)))) := rfl
theorem gIs_int {p : D → Bool} {i : Int} : gIs p (.int i) = some (.sh (.bl (p (.int i)))) := rfl
theorem gIs_str {p : D → Bool} {s : Str} : gIs p (.str s) = some (.sh (.bl (p (.str s)))) := rfl
theorem gIs_tup {p : D → Bool} {l : List D} : gIs p (.tup l) = some (.sh (.bl (p (.tup l)))) := rfl
theorem gIs_lst {p : D → Bool} {l : List D} : gIs p (.lst l) = some (.sh (.bl (p (.lst l)))) := rfl
theorem gIs_scr {p : D → Bool} {l : List Int} : gIs p (.scr l) = some (.sh (.bl (p (.scr l)))) := rfl
theorem e_call {io : Option Nat} {Φ : List D → Option CR} {as : M (List Op)} : vCall j io Φ as ρ = bnK (fun os ρ => if os.length = j then callM io Φ os ρ else none) (as ρ) := rfl
theorem e_callM {io : Option Nat} {Φ : List D → Option CR} : callM io Φ os ρ = clK io Φ os ρ (gets ρ os) := by unfold callM clK; generalize gets ρ os = x; cases x <;> rfl
theorem k_cl {io : Option Nat} {Φ : List D → Option CR} : clK io Φ os ρ (some ds) = rsK io os ρ (Φ ds) := by
  show (match Φ ds with | none => _ | some res => _) = _
  unfold rsK
  cases Φ ds <;> rfl
theorem k_rs {io : Option Nat} {r : CR} : rsK io os ρ (some r) = if (ioOk io os ρ && (noBr io os ρ || resOk io os ρ r)) = true then some (outOf io os ρ r) else none := rfl
theorem e_if {t : M Bool} : sIf t m n ρ = exK (fun b => if b = true then m else n) (t ρ) := rfl
theorem e_sret {f : M SV} : sRet f ρ = exK (fun sv ρ => some (.rt sv ρ)) (f ρ) := rfl
theorem e_sretN : sRetN ρ = some (.rt (.sh .non) ρ) := rfl
theorem e_drop {f : M SV} : sDrop f ρ = exK (fun _ ρ => some (.nx ρ)) (f ρ) := rfl
theorem e_asg {f : M SV} {g : SV → Sl → Option Sl} : sAsg f g ρ = exK (fun sv ρ => nxK (g sv ρ)) (f ρ) := rfl
theorem k_nx {ρ' : Sl} : nxK (some ρ') = some (.nx ρ') := rfl
theorem e_gN : gN i sv ρ = if i < ρ.length then some (ρ.set i (some sv)) else none := rfl
theorem e_gT {gs : List D → Sl → Option Sl} : gT j gs (.sh (.tup l)) ρ = if l.length = j then gs l ρ else none := rfl
theorem e_gsN : gsN [] ρ = some ρ := rfl
theorem e_gsC {g : SV → Sl → Option Sl} {gs : List D → Sl → Option Sl} : gsC g gs (d :: ds) ρ = (g (.sh d) ρ).bind (gs ds) := rfl
theorem e_par {as : M (List Op)} : sPar i j as ρ = exK (fun os ρ => match vals os with | some [x, y] => if i < ρ.length ∧ j < ρ.length then some (.nx ((ρ.set i (some (.sh x))).set j (some (.sh y)))) else none | _ => none) (as ρ) := rfl
theorem e_run {io : Option Nat} : runB io j m ds = ruK io (m (startS io j ds)) := by unfold runB ruK; generalize m (startS io j ds) = x; rcases x with _ | _ | _ | _ | _ | _ <;> rfl
theorem k_ru1 {io : Option Nat} : ruK io (some (.nx ρ)) = (outS io ρ).map (.ret (.sh .non)) := rfl
theorem k_ru2 {io : Option Nat} : ruK io (some (.rt sv ρ)) = (outS io ρ).map (.ret sv) := rfl
theorem k_ru3 {io : Option Nat} : ruK io (some (.ex c ρ)) = (outS io ρ).map (.exc c) := rfl
theorem e_out1 : outS none ρ = some [] := rfl
theorem e_out2 : outS (some i) ρ = osK ρ[i]? := by
  show (match ρ[i]? with | some (some (.ow (.lst l))) => some l | _ => none) = _
  unfold osK
  generalize ρ[i]? = x
  rcases x with _ | _ | _ | c <;> first | rfl | (cases c <;> rfl)
theorem k_os : osK (some (some (.fr l))) = some l := rfl
theorem e_start {io : Option Nat} : startS io j ds = startL io ds ++ List.replicate (j - ds.length) none := rfl
theorem e_stl1 : startL none ds = shL ds := rfl
theorem e_stl2 : startL (some i) ds = (shL ds).set i (frO ds[i]?) := rfl
theorem e_fro : frO (some (.lst l)) = some (.fr l) := rfl
theorem e_isFr : isFr ρ i = frK ρ[i]? := by unfold isFr frK; generalize ρ[i]? = x; rcases x with _ | _ | _ | _ | _ | _ | _ <;> rfl
theorem k_fr1 : frK (some (some (.fr l))) = true := rfl
theorem k_fr2 : frK (some (some (.sh d))) = false := rfl
theorem k_fr3 {ks : List L2.Key} {vs : List D} : frK (some (some (.ow (.dk ks vs)))) = false := rfl
theorem k_fr4 {ks : List (List Int)} {vs : List D} : frK (some (some (.ow (.dt ks vs)))) = false := rfl
theorem k_fr5 {c : Str} {ns : List Str} {fs : List D} : frK (some (some (.ow (.ob c ns fs)))) = false := rfl
theorem e_ioOk1 : ioOk none os ρ = true := rfl
theorem e_ioOk2 : ioOk (some j) os ρ = ioK (some j) os ρ (ioSlot (some j) os) := by
  show (match ioSlot (some j) os with | some i => _ | none => _) = _
  cases ioSlot (some j) os <;> rfl
theorem k_ioOk {io : Option Nat} : ioK io os ρ (some i) = (isFr ρ i && !(brs io os).contains i) := rfl
theorem e_noBr {io : Option Nat} : noBr io os ρ = (brs io os).all fun j => !isOw ρ j := rfl
theorem e_ios1 : ioSlot (some 0) (.slot i :: os) = some i := rfl
theorem e_ios2 : ioSlot (some (j + 1)) (o :: os) = ioSlot (some j) os := by cases o <;> rfl
theorem e_brs1 {io : Option Nat} : brs io [] = [] := by unfold brs; rfl
theorem e_brs2 {io : Option Nat} : brs io (.val d :: os) = brs (decO io) os := by rcases io with _ | _ | _ <;> rfl
theorem e_brs3 : brs (some 0) (.slot i :: os) = brs none os := by rfl
theorem e_brs4 : brs (some (j + 1)) (.slot i :: os) = i :: brs (some j) os := by rfl
theorem e_brs5 : brs none (.slot i :: os) = i :: brs none os := by rfl
theorem e_dec1 : decO none = none := rfl
theorem e_dec2 : decO (some 0) = none := rfl
theorem e_dec3 : decO (some (j + 1)) = some j := rfl
theorem e_put1 : putO (some j) os l ρ = puK l ρ (ioSlot (some j) os) := by
  show (match ioSlot (some j) os with | some i => _ | none => _) = _
  cases ioSlot (some j) os <;> rfl
theorem k_put : puK l ρ (some i) = ρ.set i (some (.fr l)) := rfl
theorem e_put2 : putO none os l ρ = ρ := by
  have e : ioSlot none os = none := by unfold ioSlot; cases os <;> rfl
  unfold putO
  rw [e]
theorem e_outOf1 {io : Option Nat} : outOf io os ρ (.ret sv l) = .ok sv (putO io os l ρ) := rfl
theorem e_outOf2 {io : Option Nat} : outOf io os ρ (.exc c l) = .ex c (putO io os l ρ) := rfl
theorem e_guard : frGuard i m ρ = if isFr ρ i = true then m ρ else none := rfl
theorem e_setIx {f k : M Op} : sSetIx i f k ρ = exK (fun o => frGuard i (sEx k fun p => stK i o p)) (f ρ) := rfl
theorem e_stK : stK i (.val d) (.val (.int z)) ρ = stIK i ρ d z ρ[i]? := by
  unfold stK stIK
  cases ρ[i]? with
  | none => rfl
  | some s =>
    cases s with
    | none => rfl
    | some sv => rcases sv with _ | c <;> first | rfl | (cases c <;> rfl)
theorem k_stI : stIK i ρ d z (some (some (.fr l))) = (ixN l.length z).map fun j => .nx (ρ.set i (some (.fr (l.set j d)))) := rfl
theorem e_mt {g : List D → List D → Option (D × List D)} {as : M (List Op)} : vMt i g as ρ = if isFr ρ i = true then bnd as (mtK i g) ρ else none := rfl
theorem e_mtK {g : List D → List D → Option (D × List D)} : mtK i g os ρ = mtIK i ρ g os ρ[i]? := by
  unfold mtK mtIK
  cases ρ[i]? with
  | none => rfl
  | some s =>
    cases s with
    | none => rfl
    | some sv => rcases sv with _ | c <;> first | rfl | (cases c <;> rfl)
theorem k_mtI {g : List D → List D → Option (D × List D)} (h : vals os = some ds) : mtIK i ρ g os (some (some (.fr l))) = (g l ds).map fun r => .ok (.sh r.1) (ρ.set i (some (.fr r.2))) := by
  show (match vals os with | some ds => _ | none => _) = _
  rw [h]
  show (match g l ds with | some (d, l') => _ | none => _) = _
  cases g l ds <;> rfl
theorem e_chain {g g' : D → D → Option SV} {a b cc : M Op} : vChain g g' a b cc ρ = bnK (fun x => bnd b fun y => bnd (tst (lift2 g x y)) fun k => if k = true then bnd cc fun z => lift2 g' y z else ret (.sh (.bl false))) (a ρ) := rfl
theorem e_for {it : M Itb} {g : SV → Sl → Option Sl} : sFor it g m ρ = exK (fun ib => if ib.pk = [] then forL g m ib.ds else fun _ => none) (it ρ) := rfl
theorem e_forL1 {g : SV → Sl → Option Sl} : forL g m [] ρ = some (.nx ρ) := rfl
theorem e_liftI {a : M α} {g : α → Sl → Option Itb} : liftI a g ρ = bnK (fun o ρ => (g o ρ).map fun ib => .ok ib ρ) (a ρ) := rfl
theorem e_sub {z w : Int} : gSub (.int z) (.int w) = some (.sh (.int (z - w))) := rfl
theorem e_add {z w : Int} : gAdd (.int z) (.int w) = some (.sh (.int (z + w))) := rfl
theorem e_addL {l l' : List D} : gAdd (.lst l) (.lst l') = if l.length + l'.length ≤ 1000000 then some (.fr (l ++ l')) else none := rfl
theorem e_neg {z : Int} : gNeg (.int z) = some (.sh (.int (-z))) := rfl
theorem e_cmp {pr : Int → Int → Bool} {z w : Int} : gCmp pr (.int z) (.int w) = some (.sh (.bl (pr z w))) := rfl
theorem e_ixL {z : Int} : gIx (.lst l) (.int z) = (atI l z).map .sh := rfl
theorem e_ixT {z : Int} : gIx (.tup l) (.int z) = (atI l z).map .sh := rfl
theorem e_ixS {ns : List Int} {z : Int} : gIx (.scr ns) (.int z) = (atI ns z).map fun n => .sh (.int n) := rfl
theorem e_abs {z : Int} : gAbs [.int z] = some (.sh (.int (if z < 0 then -z else z))) := rfl
theorem e_max {z w : Int} : gMax [.int z, .int w] = some (.sh (.int (if w > z then w else z))) := rfl
theorem e_min {z w : Int} : gMin [.int z, .int w] = some (.sh (.int (if w < z then w else z))) := rfl
theorem e_intI {z : Int} : gInt [.int z] = some (.sh (.int z)) := rfl
theorem e_intB : gInt [.bl b] = some (.sh (.int (if b then 1 else 0))) := rfl
theorem e_lenL : gLen [.lst l] = some (.sh (.int l.length)) := rfl
theorem e_lenT : gLen [.tup l] = some (.sh (.int l.length)) := rfl
theorem e_lenS {ns : List Int} : gLen [.scr ns] = some (.sh (.int ns.length)) := rfl
theorem e_isT1 : isT (.int z) = true := rfl
theorem e_isT2 : isT (.tup l) = isTL l := by unfold isT; rfl
theorem e_isT3 : isT (.bl b) = true := rfl
theorem e_isTL1 : isTL [] = true := rfl
theorem e_isTL2 : isTL (d :: ds) = (isT d && isTL ds) := rfl
theorem e_resT1 : resT (.ret (.sh d) l) = (isT d && isTL l) := rfl
theorem e_resT2 : resT (.ret (.fr ds) l) = (isTL ds && isTL l) := rfl
theorem e_R1 {as : M (List Op)} : iR1 as ρ = bnK (fun os ρ => r1K ρ (gets ρ os)) (as ρ) := by
  show bnK (fun o ρ => (jR1 o ρ).map fun ib => .ok ib ρ) (as ρ) = _
  congr 1
  funext os ρ
  unfold jR1 r1K
  generalize gets ρ os = x
  rcases x with _ | x
  · rfl
  · rcases x with _ | ⟨d, x⟩
    · rfl
    · cases d <;> cases x <;> rfl
theorem k_R1 : r1K ρ (some [.int z]) = if RngOk z then some (.ok ⟨rngD 0 z.toNat, []⟩ ρ) else none := by
  show (if RngOk z then some (Itb.mk (rngD 0 z.toNat) []) else none).map (fun ib => Out.ok ib ρ) = _
  by_cases h : RngOk z
  · rw [if_pos h, if_pos h]; rfl
  · rw [if_neg h, if_neg h]; rfl
theorem e_R2 {as : M (List Op)} : iR2 as ρ = bnK (fun os ρ => r2K ρ (gets ρ os)) (as ρ) := rfl
theorem k_R2 {y z : Int} : r2K ρ (some [.int y, .int z]) = if RngOk y ∧ RngOk z then some (.ok ⟨rngD y (z - y).toNat, []⟩ ρ) else none := by
  show (if RngOk y ∧ RngOk z then some (Itb.mk (rngD y (z - y).toNat) []) else none).map (fun ib => Out.ok ib ρ) = _
  by_cases h : RngOk y ∧ RngOk z
  · rw [if_pos h, if_pos h]; rfl
  · rw [if_neg h, if_neg h]; rfl
theorem e_iLs {a : M Op} : iLs a ρ = bnK (fun o ρ => itK ρ (lsOf ρ o)) (a ρ) := rfl
theorem e_iTp {a : M Op} : iTp a ρ = bnK (fun o ρ => tIK ρ (get ρ o)) (a ρ) := by
  show bnK (fun o ρ => (jTp o ρ).map fun ib => .ok ib ρ) (a ρ) = _
  congr 1
  funext o ρ
  unfold jTp tIK
  generalize get ρ o = x
  rcases x with _ | x
  · rfl
  · cases x <;> rfl
theorem k_it {ib : Itb} : itK ρ (some ib) = some (.ok ib ρ) := rfl
theorem k_tI : tIK ρ (some (.tup l)) = some (.ok ⟨l, []⟩ ρ) := rfl
theorem e_lsV : lsOf ρ (.val (.lst l)) = some ⟨l, []⟩ := rfl
theorem e_eqI {i j : Int} : gEq (.int i) (.int j) = some (.sh (.bl (decide (i = j)))) := by
  unfold gEq eqD
  rw [if_pos ⟨rfl, rfl⟩]
  unfold toPy
  by_cases h : i = j <;> simp [PyData.eqv, h]
theorem e_neI {i j : Int} : gNe (.int i) (.int j) = some (.sh (.bl (!decide (i = j)))) := by
  unfold gNe eqD
  rw [if_pos ⟨rfl, rfl⟩]
  unfold toPy
  by_cases h : i = j <;> simp [PyData.eqv, h]
theorem e_eqB {i j : Bool} : gEq (.bl i) (.bl j) = some (.sh (.bl (decide (i = j)))) := by
  unfold gEq eqD
  rw [if_pos ⟨rfl, rfl⟩]
  unfold toPy
  cases i <;> cases j <;> simp [PyData.eqv]
theorem e_neB {i j : Bool} : gNe (.bl i) (.bl j) = some (.sh (.bl (!decide (i = j)))) := by
  unfold gNe eqD
  rw [if_pos ⟨rfl, rfl⟩]
  unfold toPy
  cases i <;> cases j <;> simp [PyData.eqv]
theorem gStr_ok {i : Int} (h : i.natAbs.log2 < 1920) : gStr [.int i] = some (.sh (.str (toString i))) := by
  show (if i.natAbs.log2 < 1920 then some (SV.sh (.str (toString i))) else none) = _
  rw [if_pos h]
theorem isInt_int {i : Int} : isInt (.int i) = true := rfl
theorem isInt_bl : isInt (.bl b) = true := rfl
theorem isInt_str {s : Str} : isInt (.str s) = false := rfl
theorem isInt_non : isInt .non = false := rfl
theorem isInt_tup : isInt (.tup l) = false := rfl
theorem isInt_lst : isInt (.lst l) = false := rfl
theorem isBl_int {i : Int} : isBl (.int i) = false := rfl
theorem isBl_bl : isBl (.bl b) = true := rfl
theorem isBl_tup : isBl (.tup l) = false := rfl
theorem isTup_int {i : Int} : isTup (.int i) = false := rfl
theorem isTup_bl : isTup (.bl b) = false := rfl
theorem isTup_str {s : Str} : isTup (.str s) = false := rfl
theorem isTup_non : isTup .non = false := rfl
theorem isTup_tup : isTup (.tup l) = true := rfl
theorem isTup_lst : isTup (.lst l) = false := rfl
theorem e_forL2 {g : SV → Sl → Option Sl} : forL g m (d :: ds) ρ = (g (.sh d) ρ).bind fun ρ1 => turnK (forL g m ds) (m ρ1) := rfl
theorem k_turn1 : turnK n (some (.nx ρ)) = n ρ := rfl
theorem k_turn2 : turnK n (some (.ct ρ)) = n ρ := rfl
theorem k_turn3 : turnK n (some (.rt sv ρ)) = some (.rt sv ρ) := rfl
theorem k_turn4 : turnK n (some (.bk ρ)) = some (.nx ρ) := rfl
theorem k_turn5 : turnK n (some (.ex c ρ)) = some (.ex c ρ) := rfl
theorem k_app : mtIK i ρ gApp [.val d] (some (some (.fr l))) = if l.length < 1000000 then some (.ok (.sh .non) (ρ.set i (some (.fr (l ++ [d]))))) else none := by
  rw [k_mtI (ds := [d]) rfl]
  show (if l.length < 1000000 then some (D.non, l ++ [d]) else none).map _ = _
  by_cases h : l.length < 1000000
  · rw [if_pos h, if_pos h]; rfl
  · rw [if_neg h, if_neg h]; rfl
theorem k_ext {l' : List D} : mtIK i ρ gExt [.val (.lst l')] (some (some (.fr l))) = if l.length + l'.length ≤ 1000000 then some (.ok (.sh .non) (ρ.set i (some (.fr (l ++ l'))))) else none := by
  rw [k_mtI (ds := [.lst l']) rfl]
  show (if l.length + l'.length ≤ 1000000 then some (D.non, l ++ l') else none).map _ = _
  by_cases h : l.length + l'.length ≤ 1000000
  · rw [if_pos h, if_pos h]; rfl
  · rw [if_neg h, if_neg h]; rfl
theorem k_rvs : mtIK i ρ gRvs [] (some (some (.fr l))) = some (.ok (.sh .non) (ρ.set i (some (.fr l.reverse)))) := by
  rw [k_mtI (ds := []) rfl]
  rfl
theorem k_pop : mtIK i ρ gPop [] (some (some (.fr l))) = l[l.length - 1]?.map fun d => .ok (.sh d) (ρ.set i (some (.fr l.dropLast))) := by
  rw [k_mtI (ds := []) rfl]
  show (l[l.length - 1]?.map fun d => (d, l.dropLast)).map _ = _
  cases l[l.length - 1]? <;> rfl
theorem e_lsS : lsOf ρ (.slot i) = lxK i ρ[i]? := by
  show (match ρ[i]? with | some (some (.ow (.lst l))) => some (Itb.mk l [(i, l)]) | some (some (.sh (.lst l))) => some (Itb.mk l []) | some (some (.sh (.scr l))) => some (Itb.mk (l.map .int) []) | _ => none) = lxK i ρ[i]?
  generalize ρ[i]? = x
  rcases x with _ | _ | x
  · rfl
  · rfl
  · rcases x with x | x
    · cases x <;> rfl
    · rfl
theorem k_ls1 : lxK i (some (some (.fr l))) = some ⟨l, [(i, l)]⟩ := rfl
theorem k_ls2 : lxK i (some (some (.sh (.lst l)))) = some ⟨l, []⟩ := rfl
theorem k_ls3 {ns : List Int} : lxK i (some (some (.sh (.scr ns)))) = some ⟨ns.map .int, []⟩ := rfl
theorem e_iZp {as : M (List Op)} : iZp as ρ = bnK (fun os ρ => itK ρ (jZp os ρ)) (as ρ) := rfl
theorem e_iEn {as : M (List Op)} : iEn as ρ = bnK (fun os ρ => itK ρ (jEn os ρ)) (as ρ) := rfl
theorem e_iRv {as : M (List Op)} : iRv as ρ = bnK (fun os ρ => itK ρ (jRev os ρ)) (as ρ) := rfl
theorem e_jZp : jZp [o, p] ρ = zpK (lsOf ρ o) (lsOf ρ p) := by
  show ((lsOf ρ o).bind fun x => (lsOf ρ p).map fun y => Itb.mk (zipD x.ds y.ds) (x.pk ++ y.pk)) = _
  unfold zpK
  cases lsOf ρ o <;> cases lsOf ρ p <;> rfl
theorem k_zp {ib jb : Itb} : zpK (some ib) (some jb) = some ⟨zipD ib.ds jb.ds, ib.pk ++ jb.pk⟩ := rfl
theorem e_jEn : jEn [o] ρ = (lsOf ρ o).map fun ib => ⟨enumD 0 ib.ds, ib.pk⟩ := rfl
theorem e_jRev : jRev [o] ρ = (lsOf ρ o).map fun ib => ⟨ib.ds.reverse, ib.pk⟩ := rfl
theorem e_sl {a : M Op} {lo hi : M (Option Int)} : vSl a lo hi ρ = bnK (fun x => bnd lo fun l => bnd hi fun h => lift1 (fun d => gSl d l h) x) (a ρ) := rfl
theorem e_pNo : pNo ρ = some (.ok none ρ) := rfl
theorem e_pIn {f : M SV} : pIn f ρ = pnK (f ρ) := by
  unfold pIn bnd pnK
  cases f ρ with
  | none => rfl
  | some o =>
    cases o with
    | ex c ρ' => rfl
    | ok sv ρ' =>
      cases sv with
      | ow l => rfl
      | sh d => cases d <;> rfl
theorem k_pn : pnK (some (.ok (.sh (.int z)) ρ)) = some (.ok (some z) ρ) := rfl
theorem e_slL {lo hi : Option Int} : gSl (.lst l) lo hi = some (.fr (cutD l lo hi)) := rfl
theorem e_slT {lo hi : Option Int} : gSl (.tup l) lo hi = if HT.sIx l.length 0 lo = 0 ∧ HT.sIx l.length l.length hi = l.length then none else some (.sh (.tup (cutD l lo hi))) := rfl
theorem cut_1 {α : Type} {x : α} {l : List α} : cutD (x :: l) (some 1) none = l := by
  unfold cutD
  have e1 : HT.sIx (x :: l).length 0 (some 1) = 1 := by
    show (if (1 : Int) < 0 then ((1 : Int) + ((x :: l).length : Int)).toNat else min (1 : Int).toNat (x :: l).length) = 1
    rw [if_neg (by decide)]
    show min 1 (l.length + 1) = 1
    omega
  have e2 : HT.sIx (x :: l).length (x :: l).length none = l.length + 1 := rfl
  rw [e1, e2]
  show List.take (l.length + 1 - 1) l = l
  exact List.take_of_length_le (by omega)
theorem atI_m1 {α : Type} {x : α} {l : List α} : atI (l ++ [x]) (-1) = some x := by
  unfold atI ixN
  rw [if_neg (by decide), if_pos (by rw [List.length_append]; simp; omega)]
  have e : (-1 + ((l ++ [x]).length : Int)).toNat = l.length := by
    rw [List.length_append]
    simp
    omega
  show (l ++ [x])[(-1 + ((l ++ [x]).length : Int)).toNat]? = _
  rw [e]
  simp
theorem atI_m2 {α : Type} {x y : α} {l : List α} : atI (l ++ [x, y]) (-2) = some x := by
  unfold atI ixN
  rw [if_neg (by decide), if_pos (by rw [List.length_append]; simp; omega)]
  have e : (-2 + ((l ++ [x, y]).length : Int)).toNat = l.length := by
    rw [List.length_append]
    simp
    omega
  show (l ++ [x, y])[(-2 + ((l ++ [x, y]).length : Int)).toNat]? = _
  rw [e]
  simp
/-- what has no dict, not deep -/
theorem okPy_of (h1 : (toPy d).canLay0 = true) (h2 : (toPy d).depth ≤ 64) : okPy d = true := by
  show ((toPy d).canLay0 && decide ((toPy d).depth ≤ 64)) = true
  rw [h1, decide_eq_true h2]
  rfl
theorem canLay_of_okPy (h : okPy d = true) : (toPy d).canLay0 = true := (Bool.and_eq_true_iff.mp h).1
theorem depth_of_okPy (h : okPy d = true) : (toPy d).depth ≤ 64 := of_decide_eq_true (Bool.and_eq_true_iff.mp h).2
theorem eq_self' (h : okPy d = true) : gEq d d = some (.sh (.bl true)) := by
  unfold gEq eqD
  rw [if_pos ⟨h, h⟩, SeqAt.eqv_refl _ (canLay_of_okPy h)]
theorem ne_self' (h : okPy d = true) : gNe d d = some (.sh (.bl false)) := by
  unfold gNe eqD
  rw [if_pos ⟨h, h⟩, SeqAt.eqv_refl _ (canLay_of_okPy h)]
  rfl
theorem okPy_all {k : Nat} (hk : k < 64) : ∀ {l : List D}, (∀ d ∈ l, (toPy d).canLay0 = true ∧ (toPy d).depth ≤ k) → PyData.canLayAll0 (toPyL l) = true ∧ PyData.depthAll (toPyL l) ≤ k
  | [], _ => ⟨rfl, Nat.zero_le _⟩
  | d :: l, h => by
    have h1 := h d List.mem_cons_self
    have h2 := okPy_all hk (l := l) fun e he => h e (List.mem_cons_of_mem _ he)
    refine ⟨?_, ?_⟩
    · show ((toPy d).canLay0 && PyData.canLayAll0 (toPyL l)) = true
      rw [h1.1, h2.1]
      rfl
    · show max _ _ ≤ k
      exact Nat.max_le.mpr ⟨h1.2, h2.2⟩
theorem isLst_lst : isLst (.lst l) = true := rfl
theorem isLst_tup : isLst (.tup l) = false := rfl
theorem isLst_int : isLst (.int z) = false := rfl
end
end Sim

namespace Sim
open PySem PySem.Spec PyProof.Rows L2
/-! ### max of four whole numbers -/
section
variable {prog : Program} {w : World} {A : Around} {E : Value → Shared → Prop} {s : Shared}
theorem max4_args (p q r t : Value) : argsOk "max" ⟨[p, q, r, t], []⟩ := by unfold argsOk; kernel_rfl
theorem max4_call {p q r t : Value} {Q : Value → Shared → Prop}
    (h : wpAny (model prog w) A.in1 (pyIter (.ref s.heap.objs.size)) (fun it z => ∃ I fp wr n P St bt, it = .ref I ∧ Walks prog w A.in1 I fp wr n P St ∧ St 0 z.heap ∧ (∀ e ∈ fp, e < z.heap.objs.size) ∧ 0 < n ∧ CmpOf prog w A.in1 .Gt P bt ∧
      ∀ v g tk, P (argBest bt (n - 1)) v → (∀ e o, e ∉ wr → z.heap.get? e = some o → g.get? e = some o) → Q v { z with heap := g, toks := tk }) E
      { s with heap := s.heap.push { cls := .type "tuple", data := .seq #[p, q, r, t] } }) :
    wpAny (model prog w) A (call (.builtin "max") [p, q, r, t]) Q E s := by
  have nm : (toString "max" ++ toString ".loop" : String) = "max.loop" := by decide
  refine call_function_tree F.kind_max F.plain_max F.entry_max (max4_args p q r t) ?_
  show wpAny (model prog w) A.in1 (Builtin.Builtins.bindParams "max" ["key", "default"] 0 ⟨[], []⟩ >>= _) _ _ s
  have bp : Builtin.Builtins.bindParams "max" ["key", "default"] 0 ⟨[], []⟩ = pure [none, none] := rfl
  refine wpAny_bind (wpAny_of_eq bp ?_)
  show wpAny (model prog w) A.in1 (newTuple [p, q, r, t] >>= _) _ _ s
  refine wpAny_bind (wpAny_newObj_type (wpAny_bind (wpAny_mono h (fun it z hz => ?_) fun _ _ e => e)))
  obtain ⟨I, fp, wr, n, P, St, bt, rfl, wk, st, lt, n0, cm, fin⟩ := hz
  refine wpAny_bind (wpAny_newObj_type ?_)
  have nf : z.heap.objs.size ∉ fp := fun m => absurd (lt z.heap.objs.size m) (Nat.lt_irrefl _)
  rw [nm]
  refine wpAny_pure ⟨plainId_quiet F.plain_max_loop _, ?_⟩
  refine codeAny_max_loop_first wk bt cm z.heap.objs.size nf n0 (wk.frame _ _ _ st fun e _ o k => Heap.get?_push_of_some _ k) (Heap.get?_push_size _ rfl) fun v g tk pv kp => ?_
  exact fin v g tk pv fun e o ne k => kp e o ne (Nat.ne_of_lt (Heap.lt_size k)) (Heap.get?_push_of_some _ k)
def mx (i j : Int) : Int := if j > i then j else i
theorem max4_ints {a b c d : Int} {t1 t2 t3 t4 : Tok} {Q : Value → Shared → Prop} (hh : A.handled = none)
    (h : ∀ g tk t, (∀ e o, s.heap.get? e = some o → g.get? e = some o) → Q (.int (mx (mx (mx a b) c) d) t) { s with heap := g, toks := tk }) :
    wpAny (model prog w) A (call (.builtin "max") [.int a t1, .int b t2, .int c t3, .int d t4]) Q E s := by
  have tu : (s.heap.push { cls := .type "tuple", data := .seq #[.int a t1, .int b t2, .int c t3, .int d t4] }).IsTuple s.heap.objs.size (intItems #[(a, t1), (b, t2), (c, t3), (d, t4)]) := ⟨_, Heap.get?_push_size _ rfl, rfl, 0, by simp [intItems]⟩
  refine max4_call (wpAny_pyIter_tuple tu ?_)
  have sz : (s.heap.push { cls := .type "tuple", data := .seq #[.int a t1, .int b t2, .int c t3, .int d t4] }).objs.size = s.heap.objs.size + 1 := Heap.size_push ..
  have ne : s.heap.objs.size ≠ (s.heap.push { cls := .type "tuple", data := .seq #[.int a t1, .int b t2, .int c t3, .int d t4] }).objs.size := by
    rw [sz]
    exact Nat.ne_of_lt (Nat.lt_succ_self _)
  refine ⟨_, [_, s.heap.objs.size], [_], _, _, _, _, rfl, Walks.tuple (A := A.in1) hh _ s.heap.objs.size ne (intItems #[(a, t1), (b, t2), (c, t3), (d, t4)]),
    ⟨⟨_, Heap.get?_push_size _ rfl, rfl, rfl⟩, tu.push _⟩, fun e he => ?_, by simp [intItems], CmpOf.ints_gt (numAt #[(a, t1), (b, t2), (c, t3), (d, t4)]) (fun _ _ => intItems_at), fun v g tk pv kp => ?_⟩
  · show e < ((s.heap.push _).push _).objs.size
    rw [Heap.size_push, sz]
    rcases List.mem_cons.mp he with rfl | he
    · rw [sz]
      exact Nat.lt_succ_self _
    · rw [List.mem_singleton] at he
      subst he
      exact Nat.lt_trans (Nat.lt_succ_self _) (Nat.lt_succ_self _)
  · have old : ∀ e o, s.heap.get? e = some o → g.get? e = some o := fun e o k => by
      refine kp e o (fun m => ?_) (Heap.get?_push_of_some _ (Heap.get?_push_of_some _ k))
      have l := Heap.lt_size k
      rcases List.mem_cons.mp m with e1 | m
      · rw [e1, sz] at l
        exact absurd (Nat.lt_of_succ_lt l) (Nat.lt_irrefl _)
      · cases m
    have pv2 : (intItems #[(a, t1), (b, t2), (c, t3), (d, t4)])[argBest (fun i j => decide (numAt #[(a, t1), (b, t2), (c, t3), (d, t4)] i > numAt #[(a, t1), (b, t2), (c, t3), (d, t4)] j)) 3]? = some v := by
      have e3 : (intItems #[(a, t1), (b, t2), (c, t3), (d, t4)]).size - 1 = 3 := by simp [intItems]
      rw [← e3]
      exact pv
    have hv : ∃ t, v = .int (mx (mx (mx a b) c) d) t := by
      unfold mx
      by_cases h1 : b > a
      · by_cases h2 : c > b
        · by_cases h3 : d > c
          · simp [argBest, numAt, h1, h2, h3, intItems] at pv2
            exact ⟨t4, by simp [h1, h2, h3, ← pv2]⟩
          · simp [argBest, numAt, h1, h2, h3, intItems] at pv2
            exact ⟨t3, by simp [h1, h2, h3, ← pv2]⟩
        · by_cases h3 : d > b
          · simp [argBest, numAt, h1, h2, h3, intItems] at pv2
            exact ⟨t4, by simp [h1, h2, h3, ← pv2]⟩
          · simp [argBest, numAt, h1, h2, h3, intItems] at pv2
            exact ⟨t2, by simp [h1, h2, h3, ← pv2]⟩
      · by_cases h2 : c > a
        · by_cases h3 : d > c
          · simp [argBest, numAt, h1, h2, h3, intItems] at pv2
            exact ⟨t4, by simp [h1, h2, h3, ← pv2]⟩
          · simp [argBest, numAt, h1, h2, h3, intItems] at pv2
            exact ⟨t3, by simp [h1, h2, h3, ← pv2]⟩
        · by_cases h3 : d > a
          · simp [argBest, numAt, h1, h2, h3, intItems] at pv2
            exact ⟨t4, by simp [h1, h2, h3, ← pv2]⟩
          · simp [argBest, numAt, h1, h2, h3, intItems] at pv2
            exact ⟨t1, by simp [h1, h2, h3, ← pv2]⟩
    obtain ⟨t, rfl⟩ := hv
    exact h g tk t old
end
def gMax4 : List D → Option SV
  | [.int a, .int b, .int c, .int d] => some (.sh (.int (mx (mx (mx a b) c) d)))
  | _ => none
def rMax4 : List V → Hp → VK → Prop := fun xs H Q => ∃ a b c d, xs = [.int a, .int b, .int c, .int d] ∧ Q (.int (mx (mx (mx a b) c) d)) H
theorem cr_max4 {X : Cx} (hc : X.calm = true) : CallR X (.builtin "max") rMax4 := by
  intro pins s σ H xs us Q I r h
  obtain ⟨a, b, c, d, rfl, q⟩ := h
  cases r with
  | cons r1 r =>
    cases r with
    | cons r2 r =>
      obtain ⟨u3, u4, rfl, r3, r4⟩ := L2.vals2 r
      obtain ⟨t1, rfl⟩ := r1
      obtain ⟨t2, rfl⟩ := r2
      obtain ⟨t3, rfl⟩ := r3
      obtain ⟨t4, rfl⟩ := r4
      exact max4_ints (I.ok.hd hc) fun g tk t k => ⟨.int (mx (mx (mx a b) c) d), H, I.kept k, ⟨_, rfl⟩, q⟩
theorem ok_max4 {K : PySem.W.Frag} : OkA K rMax4 gMax4 := by
  intro F B H σ ρ xs ds sv Q R hx hg q
  unfold gMax4 at hg
  split at hg
  · cases hg
    cases hx with
    | cons r1 t =>
      cases t with
      | cons r2 t =>
        obtain ⟨x3, x4, rfl, r3, r4⟩ := t.two
        cases r1.int
        cases r2.int
        cases r3.int
        cases r4.int
        exact ⟨_, _, _, _, rfl, q _ B H R (Same.refl _) (.sh (.int _))⟩
  · cases hg
theorem e_max4 {a b c d : Int} : gMax4 [.int a, .int b, .int c, .int d] = some (.sh (.int (mx (mx (mx a b) c) d))) := rfl
end Sim

namespace Sim
open PySem PySem.Spec PyProof.Rows L2
/-! ### list(reversed(list)) -/
section
variable {prog : Program} {w : World} {A : Around} {E : Value → Shared → Prop} {s : Shared}
theorem extend_rev {R : Result → Shared → Prop} {it l : Addr} {items : Array Value} {c₀ : Nat} (S : Addr) (hh : A.handled = none) (hit : s.heap.IsRevIter it l ((items.size : Int) - 1)) (hl : s.heap.IsList l items) (hne : l ≠ it) (hn : items.size ≤ sizeLine)
    (hSi : S ≠ it) (hSl : S ≠ l) (hS₁ : s.heap.get? S = some { cls := .type "list", data := .seq (#[] : Array Value) c₀ })
    (hQ : ∀ (h' : Heap) (tk : Nat) (acc : Array Value) (c' : Nat), (∀ b o, b ≠ it → b ≠ S → s.heap.get? b = some o → h'.get? b = some o) → h'.get? S = some { cls := .type "list", dict := none, data := .seq acc c', slots := #[] } → ItemsOf (fun i v => items[items.size - 1 - i]? = some v) acc items.size → R (.ok (.ret .none)) { s with heap := h', toks := tk }) :
    wpAny (model prog w) A.in1 (Builtin.List.listExtendWith (.ref S) (.ref it) .none)
      (fun fin s' => match fin with | .done f => R (.ok f) s' | .again c' => c'.quiet = true ∧ codeAny (model prog w) A c' R s') (fun e s' => R (.error e) s') s := by
  have W := (Walks.listRev (prog := prog) (w := w) (A := A.in1) hh it l hne items).toS
  have hSf : S ∉ [it, l] := by simp only [List.mem_cons, List.not_mem_nil, or_false, not_or]; exact ⟨hSi, hSl⟩
  have hT : s.TypeIs (.ref it) "list_reverseiterator" := Heap.IsRevIter.typeIs hit
  have h1 : Builtin.List.listSameRef (.ref S) (.ref it) = false := by simp [Builtin.List.listSameRef, hSi]
  unfold Builtin.List.listExtendWith
  refine wpAny_bind (wpAny_typeOf hT ?_)
  rw [if_neg (by rw [h1]; decide)]
  refine wpAny_bind (wpAny_pyIter_revIter hit ?_)
  refine wpAny_bind (wpAny_holding ?_)
  unfold Builtin.List.listLengthHint
  refine wpAny_bind (wpAny_specialOf hT RT.nolen_lri ?_)
  show wpAny _ A.in1 (specialOf (Value.ref it) (Str.ofString "__length_hint__") >>= _) _ _ _
  refine wpAny_bind (wpAny_specialOf hT RT.hint_lri ?_)
  generalize hid : ("list_reverseiterator.__length_hint__" : String) = id0
  wp_delta
  rw [show splitId id0 = some ("list_reverseiterator", "__length_hint__") from by subst hid; decide +kernel]
  subst hid
  refine wpAny_bind (wpAny_isInstance (b := true) hT (by rw [isSubtype_type]; kernel_rfl) ?_)
  refine wpAny_pure ?_
  rw [if_neg (by decide)]
  have e0 : ((items.size : Nat) : Int) - 1 - ((0 : Nat) : Int) = (items.size : Int) - 1 := by omega
  refine wpAny_pure ⟨plainId_quiet F.plain_extend_loop _, codeAny_extend_loopS W hn _ hSf _ items.size 0 _ _ _ rfl (Nat.zero_le _) ⟨Nat.zero_le _, by rw [e0]; exact hit, hl⟩ hS₁ (ItemsOf.nil _) fun s' acc' c' hm hS' hacc => ?_⟩
  rw [Moved.eq_with hm]
  refine hQ s'.heap s'.toks acc' c' (fun b o hb hb2 e => hm.heap b o (fun hmem => ?_) e) hS' hacc
  rcases List.mem_cons.mp hmem with e' | hmem
  · exact hb2 e'
  · exact hb (List.mem_singleton.mp hmem)
theorem init_rev {R : Result → Shared → Prop} {it l : Addr} {items : Array Value} (S : Addr) (hh : A.handled = none) (hit : s.heap.IsRevIter it l ((items.size : Int) - 1)) (hl : s.heap.IsList l items) (hne : l ≠ it) (hn : items.size ≤ sizeLine)
    (hSi : S ≠ it) (hSl : S ≠ l) (hS : s.heap.get? S = some { cls := .type "list", data := .seq #[] })
    (hQ : ∀ (h' : Heap) (tk : Nat) (acc : Array Value) (c' : Nat), (∀ b o, b ≠ it → b ≠ S → s.heap.get? b = some o → h'.get? b = some o) → h'.get? S = some { cls := .type "list", dict := none, data := .seq acc c', slots := #[] } → ItemsOf (fun i v => items[items.size - 1 - i]? = some v) acc items.size → R (.ok (.ret .none)) { s with heap := h', toks := tk }) :
    wpAny (model prog w) A.in1 (Builtin.«list.__init__» ⟨[.ref S, .ref it], []⟩)
      (fun fin s' => match fin with | .done f => R (.ok f) s' | .again c' => c'.quiet = true ∧ codeAny (model prog w) A c' R s') (fun e s' => R (.error e) s') s := by
  show wpAny _ _ (do let old ← Builtin.List.listItems (.ref S); Builtin.List.listUpdate (.ref S) (fun _ => #[]); letGo old.toList.reverse; Builtin.List.listExtendWith (.ref S) (.ref it) .none) _ _ s
  refine wpAny_bind ?_
  unfold Builtin.List.listItems
  refine wpAny_bind (wpAny_seqItems hS rfl (wpAny_pure ?_))
  show wpAny _ _ (updateSeq S (fun _ => #[]) >>= fun _ => letGo (#[] : Array Value).toList.reverse >>= fun _ => Builtin.List.listExtendWith (.ref S) (.ref it) .none) _ _ s
  refine wpAny_bind (wpAny_updateSeq hS rfl ?_)
  have hS₂ := Heap.get?_update_self (Obj.mapSeq (fun _ => (#[] : Array Value))) hS rfl
  have oth : ∀ b o, b ≠ S → s.heap.get? b = some o → (s.heap.update S (Obj.mapSeq (fun _ => (#[] : Array Value)))).get? b = some o :=
    fun b o hb e => (Heap.get?_update_other _ _ (Ne.symm hb)).trans e
  refine wpAny_bind (wpAny_letGo ?_)
  have hit2 : (s.heap.update S (Obj.mapSeq (fun _ => (#[] : Array Value)))).IsRevIter it l ((items.size : Int) - 1) := hit.at fun o e => oth it o (Ne.symm hSi) e
  have hl2 : (s.heap.update S (Obj.mapSeq (fun _ => (#[] : Array Value)))).IsList l items := by
    obtain ⟨o, e, r⟩ := hl
    exact ⟨o, oth l o (Ne.symm hSl) e, r⟩
  refine extend_rev S hh hit2 hl2 hne hn hSi hSl hS₂ fun h' tk acc c' hk hS' hacc => ?_
  exact hQ h' tk acc c' (fun b o h1 h2 e => hk b o h1 h2 (oth b o h2 e)) hS' hacc
theorem call_list_rev {Q : Value → Shared → Prop} {it l : Addr} {items : Array Value} (hh : A.handled = none) (hit : s.heap.IsRevIter it l ((items.size : Int) - 1)) (hl : s.heap.IsList l items) (hne : l ≠ it) (hn : items.size ≤ sizeLine)
    (hQ : ∀ (h' : Heap) (tk : Nat) (acc : Array Value) (c' : Nat), (∀ b o, b ≠ it → s.heap.get? b = some o → h'.get? b = some o) → h'.get? s.heap.objs.size = some { cls := .type "list", dict := none, data := .seq acc c', slots := #[] } → ItemsOf (fun i v => items[items.size - 1 - i]? = some v) acc items.size → Q (.ref s.heap.objs.size) { s with heap := h', toks := tk }) :
    wpAny (model prog w) A (call (.type "list") [.ref it]) Q E s := by
  refine callType_codes (Q₁ := fun obj s₁ => obj = .ref s.heap.objs.size ∧ s₁ = { s with heap := s.heap.push { cls := .type "list", data := .seq #[] } }) F.called_list (F.typeCall_list_1 _) F.entry_list_init
    (code_list_new _ ⟨rfl, rfl⟩) fun obj s₁ h₁ => ?_
  obtain ⟨rfl, rfl⟩ := h₁
  have hS : (s.heap.push { cls := .type "list", data := .seq #[] }).get? s.heap.objs.size = some { cls := .type "list", data := .seq #[] } := Heap.get?_push_size _ rfl
  obtain ⟨oi, hoi, _⟩ := id hit
  obtain ⟨ol, hol, _⟩ := id hl
  refine ⟨⟨_, hS, rfl⟩, F.args_list_init_2 _ _, init_rev (A := A.in1) _ hh (hit.at fun o e => Heap.get?_push_of_some _ e) (hl.push _) hne hn (Nat.ne_of_gt (Heap.lt_size hoi)) (Nat.ne_of_gt (Heap.lt_size hol)) hS fun h' tk acc c' hk hS' hacc => ?_⟩
  exact ⟨rfl, hQ h' tk acc c' (fun b o hb e => hk b o hb (Nat.ne_of_lt (Heap.lt_size e)) (Heap.get?_push_of_some _ e)) hS' hacc⟩
end
/-- list(reversed(x)), x a list: a new list -/
def tListRev (K : PySem.W.Frag) (te : TE) : TE := fun σ H Q => te σ H fun v H1 => ∃ (a : Addr) (xs : List V), v = .ref a ∧ SqL K H1 a xs ∧ ∀ q, H1 q = none → Q (.ref q) (upd H1 q (.lst xs.reverse))
section
variable {X : Cx}
theorem pe_listRev {e : Expr} {te : TE} {p p2 pos pos2 : Pos} (hc : X.calm = true) (hg : Gl X "list") (hm : X.mg "list" = none) (hg2 : Gl X "reversed") (hm2 : X.mg "reversed" = none) (he : PE X e te)
    (hs : starEach [e] X.env = (false, eval e X.env) :: starEach [] X.env := by rfl)
    (hs2 : starEach [.Call (.Name "reversed" p2) [e] [] pos2] X.env = (false, eval (.Call (.Name "reversed" p2) [e] [] pos2) X.env) :: starEach [] X.env := by rfl) :
    PE X (.Call (.Name "list" p) [.Call (.Name "reversed" p2) [e] [] pos2] [] pos) (tListRev X.K te) := by
  refine ⟨fun pins s σ H Q I h => ?_⟩
  refine Call_ (ld_blt I hg hm boot_list (PyProof.Rows.callWith_type1 (args_cons (Call_ (ld_blt I hg2 hm2 PyProof.Rows.boot_reversed (PyProof.Rows.callWith_type1 (args_cons (thn (he.run pins s σ H _ I h) fun u s1 ⟨v, H1, I1, r1, q1⟩ => args_nil ?_) hs) hs rfl))) hs2) hs2 rfl))
  obtain ⟨a, xs, ev, hq, q⟩ := q1
  subst ev
  obtain rfl : u = Value.ref a := r1
  obtain ⟨its, rv, p', hz⟩ := I1.list hq
  refine call_reversed_list p'.isList (args_nil ?_)
  have k0 : ∀ b o, s1.heap.get? b = some o → (s1.heap.push (revObj a ((its.toArray.size : Int) - 1))).get? b = some o := fun b o e => Heap.get?_push_of_some _ e
  have I2 : Inv X pins σ H1 { s1 with heap := s1.heap.push (revObj a ((its.toArray.size : Int) - 1)) } := I1.kept (t' := s1.toks) k0
  have hl := p'.isList
  obtain ⟨ol, hol, _⟩ := id hl
  have hne : a ≠ s1.heap.objs.size := Nat.ne_of_lt (Heap.lt_size hol)
  have hn : its.toArray.size ≤ sizeLine := by rw [List.size_toArray, ← rv.length]; exact hz
  have hlen : (s1.heap.push (revObj a ((its.toArray.size : Int) - 1))).objs.size = s1.heap.objs.size + 1 := Array.size_push ..
  have hfr : H1 s1.heap.objs.size = none := I1.hok.fresh (Nat.le_refl _)
  have hfr2 : H1 (s1.heap.push (revObj a ((its.toArray.size : Int) - 1))).objs.size = none := I1.hok.fresh (by omega)
  refine call_list_rev (s := { s1 with heap := s1.heap.push (revObj a ((its.toArray.size : Int) - 1)) }) (I1.ok.hd hc) ⟨_, Heap.get?_push_size _ rfl, rfl, rfl⟩ (hl.push _) hne hn fun h' tk acc c' hk hS' hi => ?_
  have I3 : Inv X pins σ (upd H1 (s1.heap.push (revObj a ((its.toArray.size : Int) - 1))).objs.size (.lst xs.reverse)) { s1 with heap := h', toks := tk } :=
    I1.laid (t' := tk) (fun b o e => hk b o (Nat.ne_of_lt (Heap.lt_size e)) (Heap.get?_push_of_some _ e)) (by rw [hlen]; omega) (show ObjOk X.prog X.w _ _ _ (.lst xs.reverse) from ⟨by rw [List.length_reverse]; exact hz, acc.toList, c', RT.vals_rev rv hi, by rw [Array.toArray_toList]; exact hS'⟩)
  exact ⟨.ref _, _, I3, rfl, q _ hfr2⟩
end
section
variable {cv : Nat → Value} {X : Cx} {W : WX} {e a b c tg : Expr} {te ta : TE} {ts : TA} {f : M SV} {fa : M Op} {fs : M (List Op)} {pos pos2 p p2 : Pos}
theorem snd_listRev (hc : X.calm = true) (hg : Gl X "list") (hm : X.mg "list" = none) (hg2 : Gl X "reversed") (hm2 : X.mg "reversed" = none) (ha : SndO cv X W e te fa) (hs : starEach [e] X.env = (false, eval e X.env) :: starEach [] X.env := by rfl)
    (hs2 : starEach [.Call (.Name "reversed" p2) [e] [] pos2] X.env = (false, eval (.Call (.Name "reversed" p2) [e] [] pos2) X.env) :: starEach [] X.env := by rfl) :
    SndE cv X W (.Call (.Name "list" p) [.Call (.Name "reversed" p2) [e] [] pos2] [] pos) (tListRev X.K te) (vRevL fa) := by
  refine ⟨pe_listRev hc hg hm hg2 hm2 ha.pe hs hs2, fun F B H σ ρ Q R q => ?_⟩
  refine ha.ad F B H σ ρ _ R (wpm_mono (wpm_bnd q) (fun o ρ1 q v B1 H1 R1 sm1 ov => ?_) fun _ _ q => q)
  obtain ⟨d, sv, e1, e2, q⟩ := wpm_lift1 q
  unfold gRv at e2
  split at e2
  · cases e2
    obtain ⟨a, xs, rfl, h1, r1⟩ := (ov.rep R1 e1).lst R1.exB
    exact ⟨a, xs, rfl, SqL.of h1, fun p hp => q _ _ _ (R1.new hp) sm1 (RV.newL R1 hp r1.reverse)⟩
  · cases e2
end
/-! ### list.count of any data -/
def rCntD (K : PySem.W.Frag) : V → List V → Hp → VK → Prop := fun x xs H Q => ∃ (p : Addr) (ys : List V) (k : V) (ds : List PyData) (d : PyData), x = .ref p ∧ xs = [k] ∧ SqL K H p ys ∧ DpAll K H ys ds ∧ Dp K H k d ∧ (∀ e ∈ ds, e.canLay0 = true) ∧ d.canLay0 = true ∧ d.depth ≤ 8 ∧ Q (.int ((ds.countP fun e => PyData.eqv e d : Nat) : Int)) H
section
noncomputable def eqAs (h : Heap) (d : PyData) (y : Value) : Bool := @decide (∃ e as, Reads h y e as ∧ e.canLay0 = true ∧ PyData.eqv e d = true) (Classical.propDecidable _)
theorem eqAs_is {h : Heap} {d e : PyData} {y : Value} {as : List Addr} (r : Reads h y e as) (hl : e.canLay0 = true) : eqAs h d y = PyData.eqv e d := by
  unfold eqAs
  cases he : PyData.eqv e d with
  | true => exact @decide_eq_true _ (Classical.propDecidable _) ⟨e, as, r, hl, he⟩
  | false =>
    refine @decide_eq_false _ (Classical.propDecidable _) fun ⟨e', as', r', _, h'⟩ => ?_
    have hu := SeqAt.plain_unique e e' y as as' (PyData.plain_of_canLay0 e hl) r r'
    rw [hu, h'] at he
    cases he
theorem eqAs_mem {h : Heap} : ∀ {its : List Value} {ds : List PyData} {as : List Addr}, ReadsAll h its ds as → (∀ e ∈ ds, e.canLay0 = true) → ∀ y ∈ its, ∃ e bs, e ∈ ds ∧ Reads h y e bs ∧ e.canLay0 = true
  | _, _, _, .nil, _, y, hy => nomatch hy
  | _, _, _, .cons r t, hc, y, hy => by
    rcases List.mem_cons.mp hy with rfl | hy
    · exact ⟨_, _, List.mem_cons_self, r, hc _ List.mem_cons_self⟩
    · obtain ⟨e, bs, h1, h2, h3⟩ := eqAs_mem t (fun e he => hc e (List.mem_cons_of_mem _ he)) y hy
      exact ⟨e, bs, List.mem_cons_of_mem _ h1, h2, h3⟩
theorem eqAs_count {h : Heap} {d : PyData} : ∀ {its : List Value} {ds : List PyData} {as : List Addr}, ReadsAll h its ds as → (∀ e ∈ ds, e.canLay0 = true) → its.countP (eqAs h d) = ds.countP fun e => PyData.eqv e d
  | _, _, _, .nil, _ => rfl
  | _, _, _, .cons r t, hc => by
    rw [List.countP_cons, List.countP_cons, eqAs_count t (fun e he => hc e (List.mem_cons_of_mem _ he)), eqAs_is r (hc _ List.mem_cons_self)]
end
section
variable {X : Cx}
theorem mt_lcountD (hu : X.A.units + 64 < cLine) : MtR X "list.count" (rCntD X.K) := by
  intro pins s σ H x xs v us Q I rx rxs h
  obtain ⟨p, ys, k, ds, d, rfl, rfl, hs, hds, hd, hc, hcd, hdd, q⟩ := h
  cases rx
  obtain ⟨u, rfl, ru⟩ := rxs.one
  obtain ⟨its, rv, ⟨⟨cls, dd, data, sl⟩, n, ho, hcl, hdn, hdt⟩, hlen⟩ := I.list hs
  simp only at hcl hdt
  subst hcl hdt
  obtain ⟨as, ra⟩ := Dp.readsAll I ds ys its hds rv
  obtain ⟨bs, rb⟩ := Dp.reads I d k u hd ru
  refine call_meets PySem.F.slot_list_count ⟨_, ho, rfl⟩ PySem.F.entry_list_count (PySem.F.args_list_count_2 _ _)
    (SeqAt.list_countAt p its.toArray n dd sl u (eqAs s.heap d)) ⟨ho, fun y hy => ?_, ?_⟩
  · obtain ⟨e, cs, _, re, ce⟩ := eqAs_mem ra hc y (by simpa using hy)
    rw [eqAs_is re ce]
    exact SeqAt.eqAt_reads e d _ _ y u cs bs re rb ce hcd (by
      have h1 : min e.depth d.depth ≤ d.depth := Nat.min_le_right _ _
      show X.A.units + 1 + min e.depth d.depth < cLine
      omega)
  · refine ⟨.int ((ds.countP fun e => PyData.eqv e d : Nat) : Int), H, I.tok _, ⟨s.toks, ?_⟩, q⟩
    have ec : its.toArray.toList.countP (eqAs s.heap d) = ds.countP fun e => PyData.eqv e d := eqAs_count ra hc
    show Value.int ((its.toArray.toList.countP (eqAs s.heap d) : Nat) : Int) s.toks = _
    rw [ec]
end
def gCnt : List D → List D → Option (D × List D)
  | l, [x] => if (l.all fun d => (toPy d).canLay0) = true ∧ (toPy x).canLay0 = true ∧ (toPy x).depth ≤ 8 then some (.int ((l.countP fun d => eqD d x : Nat) : Int), l) else none
  | _, _ => none
theorem upd_id {H : Hp} {a : Addr} {o : HO} (h : H a = some o) : upd H a o = H := by
  funext b
  unfold upd
  split
  · rename_i e
    have e2 : b = a := by simpa using e
    rw [e2, h]
  · rfl
theorem toPyL_map : ∀ l : List D, toPyL l = l.map toPy
  | [] => rfl
  | d :: l => by
    show toPy d :: toPyL l = _
    rw [toPyL_map l]
    rfl
theorem canAll : ∀ {l : List D}, (l.all fun d => (toPy d).canLay0) = true → PyData.canLayAll0 (toPyL l) = true
  | [], _ => rfl
  | d :: l, h => by
    rw [List.all_cons, Bool.and_eq_true] at h
    show ((toPy d).canLay0 && PyData.canLayAll0 (toPyL l)) = true
    rw [h.1, canAll h.2]
    rfl
theorem okm_cnt {K : PySem.W.Frag} : OkM K (rCntD K) gCnt := by
  intro B H a xs l vs ds d l' Q sB hB hH r rv hg q
  unfold gCnt at hg
  split at hg
  · rename_i x
    split at hg
    · rename_i hc
      cases hg
      cases rv with
      | cons r1 rt =>
        cases rt
        have e := q (.int ((l.countP fun d => eqD d x : Nat) : Int)) xs r (.int _)
        rw [upd_id hH] at e
        refine ⟨a, xs, _, toPyL l, toPy x, rfl, rfl, SqL.of hH, RepL.dp _ _ (canAll hc.1) (RepL.mono sB _ _ r), Rep.dp _ _ hc.2.1 (Rep.mono sB _ _ r1), ?_, hc.2.1, hc.2.2, ?_⟩
        · intro e he
          rw [toPyL_map] at he
          obtain ⟨y, hy, rfl⟩ := List.mem_map.mp he
          exact List.all_eq_true.mp hc.1 y hy
        · rw [toPyL_map, List.countP_map]
          exact e
    · cases hg
  · cases hg
/-! ### is None -/
def gIsN : D → D → Option SV
  | .non, .non => some (.sh (.bl true))
  | .lst _, .non => some (.sh (.bl false))
  | .tup _, .non => some (.sh (.bl false))
  | .int _, .non => some (.sh (.bl false))
  | _, _ => none
/-! ### range of three -/
def RgB (i j c : Int) (n : Nat) : Bool := decide (c ≠ 0) && decide (c.natAbs < 1073741824) && Builtin.Range.small i j c && decide (Builtin.Range.rangeSize i j c = n)
theorem RgB.is {i j c : Int} {n : Nat} (h : RgB i j c n = true) : L2.RgC i j c n := by
  unfold RgB at h
  simp only [Bool.and_eq_true, decide_eq_true_eq] at h
  exact ⟨h.1.1.1, h.1.1.2, h.1.2, h.2⟩
def rngC (i c : Int) (n : Nat) : List D := (List.range n).map fun k => .int (i + (k : Nat) * c)
def jR3 (os : List Op) (ρ : Sl) : Option Itb := match gets ρ os with
  | some [.int i, .int j, .int c] => if RgB i j c (Builtin.Range.rangeSize i j c).toNat = true then some ⟨rngC i c (Builtin.Range.rangeSize i j c).toNat, []⟩ else none
  | _ => none
def iR3 (as : M (List Op)) : M Itb := liftI as jR3
section
theorem itc_ok {K : PySem.W.Frag} {B : Hp} {σ : L2.St} {lo c : Int} {n : Nat} : ItOk K B σ (Itc lo c n) ⟨rngC lo c n, []⟩ := fun F2 B2 H2 σ2 ρ2 R2 sm2 g i => by
  have hl : (rngC lo c n).length = n := by unfold rngC; rw [List.length_map, List.length_range]
  refine ⟨fun d hd => ?_, fun h => ?_⟩
  · obtain ⟨hlt, e⟩ := List.getElem?_eq_some_iff.mp hd
    have hi : i < n := hl ▸ hlt
    refine ⟨hi, fun x H' hy => ?_⟩
    obtain ⟨rfl, rfl⟩ := hy
    have hd : (rngC lo c n)[i]? = some d := hd
    unfold rngC at hd
    rw [List.getElem?_map, List.getElem?_range hi] at hd
    cases hd
    exact ⟨B2, R2, Same.refl _, .int _⟩
  · show n ≤ i
    have h' : (rngC lo c n).length ≤ i := h
    rw [hl] at h'
    exact h'
variable {cv : Nat → Value} {X : Cx} {W : WX} {a b c tg : Expr} {ts : TA} {fs : M (List Op)} {pos p : Pos}
theorem sni_r3 (hg : Gl X "range") (hm : X.mg "range" = none) (ha : SndA cv X W [a, b, c] ts fs) (hs : starEach [a, b, c] X.env = (false, eval a X.env) :: starEach [b, c] X.env := by rfl) (hpl : (backTo pos (starEach [b, c] X.env)).any (·.1) = false := by rfl) :
    SndI cv X W tg (.Call (.Name "range" p) [a, b, c] [] pos) (iRng3 ts) (iR3 fs) := by
  refine ⟨pi_range3 hg hm ha.pa hs hpl, fun F B H σ ρ Q R q => ?_⟩
  refine ha.ad F B H σ ρ _ R (wpm_mono (wpm_bnd q) (fun o ρ1 q v B1 H1 R1 sm1 ov => ?_) fun _ _ q => q)
  obtain ⟨ib, e1, q⟩ := wpm_map q
  unfold jR3 at e1
  split at e1
  · rename_i i j c e2
    split at e1
    · rename_i hj
      cases e1
      have hr := ov.rep R1 e2
      cases hr with
      | cons r rt =>
        obtain ⟨y, z, rfl, r2, r3⟩ := rt.two
        cases r.int
        cases r2.int
        cases r3.int
        exact ⟨i, j, c, _, rfl, RgB.is hj, q _ B1 H1 R1 sm1 itc_ok⟩
    · cases e1
  · cases e1
end
section
variable {K : PySem.W.Frag}
theorem ok_isN : Ok2 K (fun x y H Q => y = .non ∧ Q (.bl (decide (x = .non))) H) gIsN := by
  intro F B H σ ρ x y dx dy sv Q R hx hy hg q
  unfold gIsN at hg
  have nr : ∀ {v : V}, OpRep K B H v .non → v = .non := fun h => by
    have r := h.rep R.exB
    cases r
    rfl
  split at hg
  · cases hg
    rw [nr hx, nr hy]
    exact ⟨rfl, q _ B H R (Same.refl _) (.sh (.bl _))⟩
  · cases hg
    rw [nr hy]
    obtain ⟨a, xs, rfl, _, _⟩ := hx.lst R.exB
    exact ⟨rfl, q _ B H R (Same.refl _) (.sh (.bl _))⟩
  · cases hg
    rw [nr hy]
    obtain ⟨a, xs, rfl, _, _⟩ := hx.tup R.exB
    exact ⟨rfl, q _ B H R (Same.refl _) (.sh (.bl _))⟩
  · cases hg
    rw [nr hy]
    cases hx.int
    exact ⟨rfl, q _ B H R (Same.refl _) (.sh (.bl _))⟩
  · cases hg
end
/-! ### a method that changes nothing, of any value -/
def ckL : D → Bool
  | .lst _ => true
  | .scr _ => true
  | _ => false
def ckS : D → Bool
  | .str _ => true
  | _ => false
def CkTy (K : PySem.W.Frag) (T : String) (ck : D → Bool) : Prop := ∀ (B H : Hp) (v : V) (d : D), Same B H → OpRep K B H v d → ck d = true → tyV K T v H
theorem ck_lst {K : PySem.W.Frag} : CkTy K "list" ckL := fun B H v d e r h => by
  cases d <;> try cases h
  · obtain ⟨a, xs, rfl, h1, _⟩ := r.lst e
    exact .inl ⟨rfl, _, SqL.of h1⟩
  · obtain ⟨a, rfl, h1⟩ := r.scr e
    exact .inl ⟨rfl, _, h1⟩
theorem ck_str {K : PySem.W.Frag} : CkTy K "str" ckS := fun B H v d e r h => by
  cases d <;> try cases h
  rw [r.str]
  rfl
def OkP (K : PySem.W.Frag) (r : V → List V → Hp → VK → Prop) (g : D → List D → Option SV) : Prop :=
  ∀ (F B H : Hp) (σ : L2.St) (ρ : Sl) (x : V) (xs : List V) (dx : D) (ds : List D) (sv : SV) (Q : VK), Rel K F B H σ ρ → OpRep K B H x dx → OpReps K B H xs ds → g dx ds = some sv →
    (∀ v B' H', Rel K F B' H' σ ρ → Same B B' → RV K F B' H' σ ρ v sv → Q v H') → r x xs H Q
def mfK (g : D → List D → Option SV) (ρ : Sl) : Option D → Option (List D) → Option (Out SV)
  | some x, some xs => okK ρ (g x xs)
  | _, _ => none
def mpF (g : D → List D → Option SV) (o : Op) (os : List Op) : M SV := fun ρ => mfK g ρ (get ρ o) (gets ρ os)
def ckO (ck : D → Bool) : Option D → Bool
  | some d => ck d
  | none => false
def mpN (ck : D → Bool) (g : D → List D → Option SV) (fs : M (List Op)) (o : Op) : M SV := fun ρ => if ckO ck (get ρ o) = true then bnd fs (mpF g o) ρ else none
def vMp (ck : D → Bool) (g : D → List D → Option SV) (fo : M Op) (fs : M (List Op)) : M SV := bnd fo (mpN ck g fs)
section
variable {cv : Nat → Value} {X : Cx} {W : WX} {e o : Expr} {es : List Expr} {to : TE} {ts : TA} {fo : M Op} {fs : M (List Op)} {pos apos : Pos} {T : String} {ck : D → Bool} {r : V → List V → Hp → VK → Prop} {g : D → List D → Option SV}
theorem adm_mp (hk : CkTy X.K T ck) (ok : OkP X.K r g) (ho : SndO cv X W o to fo) (ha : SndA cv X W es ts fs) : Adm cv W X.K (tBM X.K T r to ts) (vMp ck g fo fs) (RV X.K) := by
  intro F B H σ ρ Q R q
  refine ho.ad F B H σ ρ _ R (wpm_mono (wpm_bnd q) (fun o ρ1 q v B1 H1 R1 sm1 ov => ?_) fun _ _ q => q)
  unfold wpm mpN at q
  cases e0 : get ρ1 o with
  | none =>
    rw [e0] at q
    exact q.elim
  | some d =>
    by_cases hc : ck d = true
    · have hc' : ckO ck (get ρ1 o) = true := by rw [e0]; exact hc
      rw [if_pos hc'] at q
      refine ⟨hk B1 H1 v d R1.exB (ov.rep R1 e0) hc, ?_⟩
      refine ha.ad F B1 H1 σ ρ1 _ R1 (wpm_mono (wpm_bnd q) (fun os ρ2 q vs B2 H2 R2 sm2 ovs => ?_) fun c ρ2 q B2 H2 R2 sm2 => q B2 H2 R2 (sm1.trans sm2))
      unfold wpm at q
      cases e1 : get ρ2 o with
      | none =>
        have em : mpF g o os ρ2 = none := by
          unfold mpF
          rw [e1]
          rfl
        rw [em] at q
        exact q.elim
      | some x =>
        cases e2 : gets ρ2 os with
        | none =>
          have em : mpF g o os ρ2 = none := by
            unfold mpF
            rw [e1, e2]
            rfl
          rw [em] at q
          exact q.elim
        | some xs =>
          cases e3 : g x xs with
          | none =>
            have em : mpF g o os ρ2 = none := by
              unfold mpF
              rw [e1, e2]
              show (g x xs).map _ = _
              rw [e3]
              rfl
            rw [em] at q
            exact q.elim
          | some sv =>
            have em : mpF g o os ρ2 = some (.ok sv ρ2) := by
              unfold mpF
              rw [e1, e2]
              show (g x xs).map _ = _
              rw [e3]
              rfl
            rw [em] at q
            exact ok F B2 H2 σ ρ2 v vs x xs sv Q R2 ((ov.mono sm2).rep R2 e1) (ovs.rep R2 e2) e3 fun v' B' H' R' sm' rv => q v' B' H' R' ((sm1.trans sm2).trans sm') rv
    · have hc' : ¬ ckO ck (get ρ1 o) = true := by rw [e0]; exact hc
      rw [if_neg hc'] at q
      exact q.elim
theorem snd_mp {name : Str} {id : String} (pa : PlainAttrs T) (slot : Slot T name id) (hty : typeOf (.builtin id) = pure (.type "method_descriptor")) (hm : MtR X id r) (hk : CkTy X.K T ck) (ok : OkP X.K r g) (ho : SndO cv X W o to fo) (ha : SndA cv X W (e :: es) ts fs)
    (hbase : attributeBase o name X.env (eval o X.env) = eval o X.env := by rfl)
    (hfew : ((backTo pos (starEach (e :: es) X.env)).all (fun x => !x.1) && (backToKw pos (keywordEach [] X.env)).all (fun x => x.1.isSome) && decide ((e :: es).length + ([] : List Keyword).length + (if ([] : List Keyword).isEmpty then 0 else 1) < 30)) = true := by rfl)
    (hline : (apos.endLine == pos.line) = true := by rfl) (hst : starEach (e :: es) X.env = (false, eval e X.env) :: starEach es X.env := by rfl) (hpl : (backTo pos (starEach es X.env)).any (·.1) = false := by rfl) :
    SndE cv X W (.Call (.Attribute o name apos) (e :: es) [] pos) (tBM X.K T r to ts) (vMp ck g fo fs) := ⟨pe_bm pa slot hty hm ho.pe ha.pa hbase hfew hline hst hpl, adm_mp hk ok ho ha⟩
end
def gCn : D → List D → Option SV
  | .lst l, [x] => if (l.all fun d => (toPy d).canLay0) = true ∧ (toPy x).canLay0 = true ∧ (toPy x).depth ≤ 8 then some (.sh (.int ((l.countP fun d => eqD d x : Nat) : Int))) else none
  | _, _ => none
theorem ok_cn {K : PySem.W.Frag} : OkP K (rCntD K) gCn := by
  intro F B H σ ρ x xs dx ds sv Q R hx hxs hg q
  unfold gCn at hg
  split at hg
  · rename_i l y
    split at hg
    · rename_i hc
      cases hg
      obtain ⟨a, ys, rfl, h1, r1⟩ := hx.lst R.exB
      obtain ⟨v, rfl, rv⟩ := hxs.one
      refine ⟨a, ys, v, toPyL l, toPy y, rfl, rfl, SqL.of h1, RepL.dp _ _ (canAll hc.1) (RepL.mono R.exB _ _ r1), Rep.dp _ _ hc.2.1 (rv.rep R.exB), ?_, hc.2.1, hc.2.2, ?_⟩
      · intro e he
        rw [toPyL_map] at he
        obtain ⟨y, hy, rfl⟩ := List.mem_map.mp he
        exact List.all_eq_true.mp hc.1 y hy
      · rw [toPyL_map, List.countP_map]
        exact q _ B H R (Same.refl _) (.sh (.int _))
    · cases hg
  · cases hg
/-! ### runs -/
section
variable {ρ : Sl} {o : Op} {os : List Op} {ck : D → Bool} {g : D → List D → Option SV} {x : D} {xs : List D} {fo : M Op} {fs : M (List Op)}
theorem e_mp : vMp ck g fo fs ρ = bnK (mpN ck g fs) (fo ρ) := rfl
theorem e_mpN : mpN ck g fs o ρ = if ckO ck (get ρ o) = true then bnd fs (mpF g o) ρ else none := rfl
theorem e_mpF : mpF g o os ρ = mfK g ρ (get ρ o) (gets ρ os) := rfl
theorem k_mf : mfK g ρ (some x) (some xs) = okK ρ (g x xs) := rfl
theorem k_ck : ckO ck (some x) = ck x := rfl
theorem ckL_1 {l : List D} : ckL (.lst l) = true := rfl
theorem ckS_1 {s : Str} : ckS (.str s) = true := rfl
theorem e_revL {fa : M Op} : vRevL fa = vOp1 gRv fa := rfl
theorem e_gRv {l : List D} : gRv (.lst l) = some (.fr l.reverse) := rfl
theorem e_iR3 {as : M (List Op)} : iR3 as ρ = bnK (fun os ρ => itK ρ (jR3 os ρ)) (as ρ) := rfl
def r3K : Option (List D) → Option Itb
  | some [.int i, .int j, .int c] => if RgB i j c (Builtin.Range.rangeSize i j c).toNat = true then some ⟨rngC i c (Builtin.Range.rangeSize i j c).toNat, []⟩ else none
  | _ => none
theorem e_jR3 : jR3 os ρ = r3K (gets ρ os) := rfl
theorem k_R3 {i j c : Int} : r3K (some [.int i, .int j, .int c]) = if RgB i j c (Builtin.Range.rangeSize i j c).toNat = true then some ⟨rngC i c (Builtin.Range.rangeSize i j c).toNat, []⟩ else none := rfl
theorem isN_1 : gIsN .non .non = some (.sh (.bl true)) := rfl
theorem isN_2 {l : List D} : gIsN (.lst l) .non = some (.sh (.bl false)) := rfl
end
end Sim

namespace Sim
open PySem PySem.Spec PyProof.Rows L2
/-! ### a call that is handed a new list, to be changed and then forgotten -/
section
variable {K : PySem.W.Frag} {F B H : Hp} {σ : L2.St} {ρ : Sl}
theorem Owns.app {i : Nat} {a : Addr} {x : Option V} {y : Option SV} (hl : ρ.length = σ.length) (o : Owns σ ρ i a) : Owns (σ ++ [x]) (ρ ++ [y]) i a := by
  obtain ⟨⟨l, h1⟩, h2⟩ := o
  have i1 : i < ρ.length := (List.getElem?_eq_some_iff.mp h1).1
  exact ⟨⟨l, by rw [List.getElem?_append_left i1]; exact h1⟩, by rw [List.getElem?_append_left (by omega)]; exact h2⟩
theorem Rel.pop {x : Option V} {y : Option SV} (hl : ρ.length = σ.length) (R : Rel K F B H (σ ++ [x]) (ρ ++ [y])) : Rel K F B H σ ρ := by
  refine ⟨R.exB, R.exF, R.dis, hl, fun i sv h => ?_, fun i j a o1 o2 => R.sep i j a (o1.app hl) (o2.app hl)⟩
  have i1 : i < ρ.length := (List.getElem?_eq_some_iff.mp h).1
  have s := R.slot i sv (by rw [List.getElem?_append_left i1]; exact h)
  rw [List.getElem?_append_left (by omega)] at s
  exact s
theorem RV.pop {x : Option V} {y : Option SV} {v : V} {sv : SV} (hl : ρ.length = σ.length) (r : RV K F B H (σ ++ [x]) (ρ ++ [y]) v sv) : RV K F B H σ ρ v sv := by
  cases r with
  | sh r => exact .sh r
  | fr hF hB hH hO r no => exact .fr hF hB hH hO r fun i o => no i (o.app hl)
theorem Rel.push {a : Addr} {xs : List V} {l : List D} (R : Rel K F B H σ ρ) (hF : F a = none) (hB : B a = none) (hH : H a = some (.lst xs)) (r : RepL K B xs l) (no : ∀ i, ¬ Owns σ ρ i a) : Rel K F B H (σ ++ [some (.ref a)]) (ρ ++ [some (.fr l)]) := by
  have hl := R.len
  have bk : ∀ {i : Nat} {b : Addr}, Owns (σ ++ [some (.ref a)]) (ρ ++ [some (.fr l)]) i b → (Owns σ ρ i b ∧ i < ρ.length) ∨ (i = ρ.length ∧ b = a) := fun {i b} o => by
    obtain ⟨⟨l', h1⟩, h2⟩ := o
    by_cases hi : i < ρ.length
    · rw [List.getElem?_append_left hi] at h1
      rw [List.getElem?_append_left (by omega)] at h2
      exact .inl ⟨⟨⟨l', h1⟩, h2⟩, hi⟩
    · have hi2 : i < (ρ ++ [some (SV.fr l)]).length := (List.getElem?_eq_some_iff.mp h1).1
      rw [List.length_append, List.length_cons, List.length_nil] at hi2
      have e : i = ρ.length := by omega
      subst e
      rw [List.getElem?_append_right (by omega), show ρ.length - σ.length = 0 by omega] at h2
      cases h2
      exact .inr ⟨rfl, rfl⟩
  refine ⟨R.exB, R.exF, R.dis, by rw [List.length_append, List.length_append, hl]; rfl, fun i sv h => ?_, fun i j b o1 o2 => ?_⟩
  · by_cases hi : i < ρ.length
    · rw [List.getElem?_append_left hi] at h
      rw [List.getElem?_append_left (by omega)]
      exact R.slot i sv h
    · have hi2 : i < (ρ ++ [some (SV.fr l)]).length := (List.getElem?_eq_some_iff.mp h).1
      rw [List.length_append, List.length_cons, List.length_nil] at hi2
      have e : i = ρ.length := by omega
      subst e
      rw [List.getElem?_append_right (by omega), show ρ.length - ρ.length = 0 by omega] at h
      cases h
      rw [List.getElem?_append_right (by omega), show ρ.length - σ.length = 0 by omega]
      exact .fr hF hB hH rfl r
  · rcases bk o1 with ⟨p1, i1⟩ | ⟨rfl, rfl⟩ <;> rcases bk o2 with ⟨p2, i2⟩ | ⟨rfl, e⟩
    · exact R.sep i j b p1 p2
    · subst e
      exact (no _ p1).elim
    · exact (no _ p2).elim
    · rfl
end
def cfK (ρ : Sl) : Option CR → Option (Out SV)
  | some (.ret r _) => some (.ok r ρ)
  | _ => none
def vCallFK (Φ : List D → Option CR) (sv : SV) : M SV := fun ρ => match sv with
  | .ow (.lst l) => cfK ρ (Φ [.lst l])
  | _ => none
def vCallF (Φ : List D → Option CR) (f : M SV) : M SV := bnd f (vCallFK Φ)
section
variable {cv : Nat → Value} {X : Cx} {W : WX} {e : Expr} {te : TE} {f : M SV} {pos p : Pos}
theorem snd_callF {k : Nat} {Φ : List D → Option CR} {fa : Addr} {fd : FuncData} {ps : List Str} {x : Str} (G : FnOk X.prog X.w X.K X.mg X.base (L2.CX X.prog X.w) k fa fd ps (spI cv X.K 1 (some 0) Φ)) (hr : Room k X.A) (hg : Gl X x) (hm : X.mg x = some (.ref fa))
    (hk : PySem.W.keepIn X.K (.ref fa) = true) (hb : Binds X.K fd ps []) (tk : Takes X W) (ha : SndE cv X W e te f) (hdb : (x == ("__debug__" : Str)) = false := by decide)
    (he : starEach [e] X.env = (false, eval e X.env) :: starEach [] X.env := by rfl) (hpl : (backTo pos (starEach [] X.env)).any (·.1) = false := by rfl) :
    SndE cv X W (.Call (.Name x p) [e] [] pos) (tCallS (spI cv X.K 1 (some 0) Φ) (WE W) (tCons te tNil)) (vCallF Φ f) := by
  refine ⟨pe_callS G hr hg hm hk hb (fun σ => passAt tk σ) (pa_cons ha.pe pa_nil he) hdb he hpl, fun F B H σ ρ Q R q => ?_⟩
  refine ha.ad F B H σ ρ _ R (wpm_mono (wpm_bnd q) (fun sv ρ1 q v B1 H1 R1 sm1 rv => ?_) fun _ _ q => q)
  cases sv with
  | sh d => exact q.elim
  | ow c =>
   cases c with
   | dk _ _ => exact q.elim
   | dt _ _ => exact q.elim
   | ob _ _ _ => exact q.elim
   | lst l =>
    cases e : Φ [.lst l] with
    | none =>
      have q' : wpm (fun _ => cfK ρ1 (Φ [.lst l])) ρ1 (fun a ρ' => ∀ v B' H', Rel X.K F B' H' σ ρ' → Same B B' → RV X.K F B' H' σ ρ' v a → Q v H') (fun c ρ' => ∀ B' H', Rel X.K F B' H' σ ρ' → Same B B' → W (cv c) none σ H') := q
      rw [e] at q'
      exact q'.elim
    | some res =>
      have q' : wpm (fun _ => cfK ρ1 (Φ [.lst l])) ρ1 (fun a ρ' => ∀ v B' H', Rel X.K F B' H' σ ρ' → Same B B' → RV X.K F B' H' σ ρ' v a → Q v H') (fun c ρ' => ∀ B' H', Rel X.K F B' H' σ ρ' → Same B B' → W (cv c) none σ H') := q
      rw [e] at q'
      cases res with
      | exc c out => exact q'.elim
      | ret r out =>
        have q2 : ∀ v B' H', Rel X.K F B' H' σ ρ1 → Same B B' → RV X.K F B' H' σ ρ1 v r → Q v H' := q'
        cases rv with
        | @fr a o xs _ hF hB hH hO rl no =>
          cases hO
          have rl : RepL X.K B1 xs l := rl
          have R2 := R1.push hF hB hH rl no
          have hl := R1.len
          have g1 : (σ ++ [some (V.ref a)])[ρ1.length]? = some (some (.ref a)) := by
            rw [List.getElem?_append_right (by omega), show ρ1.length - σ.length = 0 by omega]
            rfl
          have g2 : (ρ1 ++ [some (SV.fr l)])[ρ1.length]? = some (some (.fr l)) := by
            rw [List.getElem?_append_right (by omega), show ρ1.length - ρ1.length = 0 by omega]
            rfl
          refine adm_callM (vs := [.ref a]) (os := [.slot ρ1.length]) R2 (.cons (.slot g1) .nil) rfl ?_
          have eg : gets (ρ1 ++ [some (SV.fr l)]) [.slot ρ1.length] = some [.lst l] := by
            rw [e_gets2, e_get2, g2]
            rfl
          have hio : (ioOk (some 0) [.slot ρ1.length] (ρ1 ++ [some (SV.fr l)]) && (noBr (some 0) [.slot ρ1.length] (ρ1 ++ [some (SV.fr l)]) || resOk (some 0) [.slot ρ1.length] (ρ1 ++ [some (SV.fr l)]) (.ret r out))) = true := by
            have e1 : isFr (ρ1 ++ [some (SV.fr l)]) ρ1.length = true := by
              unfold isFr
              rw [g2]
            show ((isFr (ρ1 ++ [some (SV.fr l)]) ρ1.length && true) && (true || _)) = true
            rw [e1]
            rfl
          have es : (ρ1 ++ [some (SV.fr l)]).set ρ1.length (some (.fr out)) = ρ1 ++ [some (.fr out)] := by
            rw [List.set_append_right _ _ (Nat.le_refl _), Nat.sub_self]
            rfl
          have ec : callM (some 0) Φ [.slot ρ1.length] (ρ1 ++ [some (SV.fr l)]) = some (.ok r (ρ1 ++ [some (.fr out)])) := by
            unfold callM
            rw [eg]
            simp only [e]
            rw [if_pos hio]
            show some (Out.ok r ((ρ1 ++ [some (SV.fr l)]).set ρ1.length (some (.fr out)))) = _
            rw [es]
          unfold wpm
          rw [ec]
          exact fun v B' H' R' sm rv => q2 v B' H' (R'.pop hl) (sm1.trans sm) (rv.pop hl)
end
theorem e_callF {Φ : List D → Option CR} {f : M SV} {ρ : Sl} : vCallF Φ f ρ = bnK (vCallFK Φ) (f ρ) := rfl
theorem k_callF {Φ : List D → Option CR} {l : List D} {ρ : Sl} : vCallFK Φ (.fr l) ρ = cfK ρ (Φ [.lst l]) := rfl
theorem k_cf {r : SV} {out : List D} {ρ : Sl} : cfK ρ (some (.ret r out)) = some (.ok r ρ) := rfl
end Sim

namespace Sim
open PySem PySem.Spec PyProof.Rows L2
/-! ### dicts whose keys are tuples of whole numbers: read alone -/
def rDIn (K : PySem.W.Frag) (neg : Bool) : R2 := fun y x H Q => ∃ (a b : Addr) (kvs : List (List L2.Key × V)) (k : List L2.Key), x = .ref a ∧ y = .ref b ∧ H a = some (.dT kvs) ∧ SqT K H b (k.map kV) ∧ Q (.bl (neg ^^ (valV kvs k).isSome)) H
def rDIx (K : PySem.W.Frag) : R2 := fun x y H Q => ∃ (a b : Addr) (kvs : List (List L2.Key × V)) (k : List L2.Key) (v : V), x = .ref a ∧ y = .ref b ∧ H a = some (.dT kvs) ∧ SqT K H b (k.map kV) ∧ valV kvs k = some v ∧ Q v H
section
variable {X : Cx} {pins : List (Addr × Obj)} {σ : L2.St} {H : Hp} {s : Shared} {a b : Addr}
theorem key_sq {ks : List L2.Key} (I : Inv X pins σ H s) (e : SqT X.K H b (ks.map kV)) : (tupleKind (mixKind X.prog X.w)).is s.heap ks b := by
  obtain ⟨its, r, ⟨o, h1, h2, n, h3⟩, _⟩ := I.tuple e
  exact ⟨o, its.toArray, n, h1, h2, h3, by simpa using items_are r⟩
theorem op_dIn (hu : X.A.units + 1 < cLine) : OpR X (compareOp .In) (rDIn X.K false) := by
  intro pins s σ H y x u v Q I ry rx h
  obtain ⟨a, b, kvs, k, rfl, rfl, e, eb, q⟩ := h
  cases (show u = Value.ref b from ry)
  cases (show v = Value.ref a from rx)
  obtain ⟨z, hd, xs, rel, dd⟩ := dt_rd I.hok (.inl e)
  refine wpAny_in_heap (tupleKind_room_in1 hu) (key_sq I eb) hd dd ?_
  have q2 := (rel.val k).isSome_eq
  rw [Option.isSome_map] at q2
  rw [← q2]
  refine ⟨.bl (valV kvs k).isSome, H, I.tok _, rfl, ?_⟩
  rw [Bool.false_xor] at q
  exact q
theorem op_dNotIn (hu : X.A.units + 1 < cLine) : OpR X (compareOp .NotIn) (rDIn X.K true) := by
  intro pins s σ H y x u v Q I ry rx h
  obtain ⟨a, b, kvs, k, rfl, rfl, e, eb, q⟩ := h
  cases (show u = Value.ref b from ry)
  cases (show v = Value.ref a from rx)
  obtain ⟨z, hd, xs, rel, dd⟩ := dt_rd I.hok (.inl e)
  refine wpAny_notIn_heap (tupleKind_room_in1 hu) (key_sq I eb) hd dd ?_
  have q2 := (rel.val k).isSome_eq
  rw [Option.isSome_map] at q2
  rw [← q2]
  refine ⟨.bl (!(valV kvs k).isSome), H, I.tok _, rfl, ?_⟩
  rw [Bool.true_xor] at q
  exact q
theorem pe_dgetS {o i : Expr} {pos : Pos} {td ty : TE} (hu : X.A.units + 1 < cLine) (ho : PE X o td) (hi : PE X i ty) (hs : NoSl i) : PE X (.Subscript o i pos) (tOp (rDIx X.K) td ty) := by
  refine ⟨fun pins s σ H Q I h => ?_⟩
  refine subD_of PySem.F.slot_dict_getitem.lookup hs (thn (ho.run pins s σ H _ I h) fun u s1 ⟨x, H1, I1, rx, q1⟩ => thn (hi.run pins s1 σ H1 _ I1 q1) fun iv s2 ⟨y, H2, I2, ry, q2⟩ => ?_)
  obtain ⟨a, b, kvs, k, v, rfl, rfl, e, eb, hv, q⟩ := q2
  obtain rfl : u = Value.ref a := rx
  obtain rfl : iv = Value.ref b := ry
  obtain ⟨z, hd, xs, rel, dd⟩ := dt_rd I2.hok (.inl e)
  obtain ⟨w', hw, rw'⟩ := RelO.some_of (v := v) (o := (atKey xs k).map (·.2)) (by rw [← hv]; exact rel.val k)
  obtain ⟨p, hp, hp2⟩ := Option.map_eq_some_iff.mp hw
  refine ⟨dd.typeIs, wpAny_getItem_heap (tupleKind_room_in1 hu) (key_sq I2 eb) dd hp ?_⟩
  rw [hp2]
  exact ⟨v, H2, I2.tok _, rw', q⟩
end
def dctV (ks : List (List Int)) (vs : List D) (k : List Int) : Option D := (ks.zip vs).lookup k
def gIn (neg : Bool) : D → D → Option SV
  | .tup l, .dct ks _ => (intL l).map fun k => .sh (.bl (neg ^^ decide (k ∈ ks)))
  | _, _ => none
def gDx : D → D → Option SV
  | .dct ks vs, .tup l => (intL l).bind fun k => (dctV ks vs k).map .sh
  | _, _ => none
section
variable {K : PySem.W.Frag} {H : Hp}
theorem keyL_inj {k j : List Int} (h : keyL k = keyL j) : k = j := by
  unfold keyL at h
  induction k generalizing j with
  | nil =>
    cases j with
    | nil => rfl
    | cons b j => cases h
  | cons a k ih =>
    cases j with
    | nil => cases h
    | cons b j =>
      rw [List.map_cons, List.map_cons] at h
      injection h with h1 h2
      injection h1 with h1
      rw [h1, ih h2]
theorem keyL_kV (k : List Int) : (keyL k).map kV = k.map V.int := by
  unfold keyL
  rw [List.map_map]
  rfl
theorem dct_val {k : List Int} : ∀ {ks : List (List Int)} {xs : List V} {vs : List D}, ks.length = vs.length → RepL K H xs vs →
    (∀ d, dctV ks vs k = some d → ∃ v, valV ((ks.map keyL).zip xs) (keyL k) = some v ∧ Rep K H v d) ∧ (valV ((ks.map keyL).zip xs) (keyL k)).isSome = decide (k ∈ ks)
  | [], xs, vs, hl, r => by
    cases r with
    | nil =>
      refine ⟨fun d h => ?_, rfl⟩
      have h' : (none : Option D) = some d := h
      cases h'
    | cons _ _ => cases hl
  | j :: ks, xs, vs, hl, r => by
    cases r with
    | nil => cases hl
    | @cons v d xs vs h t =>
      obtain ⟨i1, i2⟩ := dct_val (ks := ks) (k := k) (by simpa using hl) t
      by_cases e : j = k
      · subst e
        have e1 : valV ((keyL j, v) :: (ks.map keyL).zip xs) (keyL j) = some v := valV_pos rfl
        refine ⟨fun d' hd => ⟨v, e1, ?_⟩, ?_⟩
        · have e2 : dctV (j :: ks) (d :: vs) j = some d := by
            unfold dctV
            rw [List.zip_cons_cons, List.lookup_cons, beq_self_eq_true]
          rw [e2] at hd
          cases hd
          exact h
        · show (valV ((keyL j, v) :: (ks.map keyL).zip xs) (keyL j)).isSome = _
          rw [e1]
          simp
      · have ne : ¬ keyL j = keyL k := fun h => e (keyL_inj h)
        have e1 : valV ((keyL j, v) :: (ks.map keyL).zip xs) (keyL k) = valV ((ks.map keyL).zip xs) (keyL k) := valV_neg ne
        refine ⟨fun d' hd => ?_, ?_⟩
        · have e2 : dctV (j :: ks) (d :: vs) k = dctV ks vs k := by
            unfold dctV
            rw [List.zip_cons_cons, List.lookup_cons, beq_eq_false_iff_ne.mpr (Ne.symm e)]
          rw [e2] at hd
          exact (show valV ((keyL j, v) :: (ks.map keyL).zip xs) (keyL k) = _ from e1) ▸ i1 d' hd
        · show (valV ((keyL j, v) :: (ks.map keyL).zip xs) (keyL k)).isSome = _
          rw [e1, i2]
          simp [Ne.symm e]
theorem OpRep.dct {B : Hp} {v : V} (e : Same B H) {ks : List (List Int)} {vs : List D} (h : OpRep K B H v (.dct ks vs)) : ∃ a xs, v = .ref a ∧ H a = some (.dT ((ks.map keyL).zip xs)) ∧ ks.length = vs.length ∧ RepL K B xs vs := by
  cases h with
  | sh r =>
    cases r with
    | dct h hl r => exact ⟨_, _, rfl, e _ _ h, hl, r⟩
  | @own a o xs c _ hB hH hO r e =>
    cases c with
    | dt ks' vs' =>
      cases e
      obtain ⟨rfl, hl⟩ := hO
      exact ⟨_, _, rfl, hH, hl, r⟩
    | lst _ => cases e
    | dk _ _ => cases e
    | ob _ _ _ => cases e
theorem key_of_tup {B : Hp} {v : V} {l : List D} {k : List Int} (e : Same B H) (hl : intL l = some k) (h : OpRep K B H v (.tup l)) : ∃ b, v = .ref b ∧ SqT K H b ((keyL k).map kV) := by
  obtain ⟨b, xs, rfl, h1, r1⟩ := h.tup e
  rw [intL_map hl] at r1
  rw [r1.of_ints] at h1
  exact ⟨b, rfl, by rw [keyL_kV]; exact h1⟩
theorem ok_dIn {neg : Bool} : Ok2 K (rDIn K neg) (gIn neg) := by
  intro F B H σ ρ x y dx dy sv Q R hx hy hg q
  unfold gIn at hg
  split at hg
  · rename_i l ks vs
    cases e : intL l with
    | none =>
      rw [e] at hg
      cases hg
    | some k =>
      rw [e] at hg
      cases hg
      obtain ⟨b, rfl, hb⟩ := key_of_tup R.exB e hx
      obtain ⟨a, xs, rfl, ha, hl, r⟩ := hy.dct R.exB
      refine ⟨a, b, _, keyL k, rfl, rfl, ha, hb, ?_⟩
      rw [(dct_val (k := k) hl r).2]
      exact q _ B H R (Same.refl _) (.sh (.bl _))
  · cases hg
theorem ok_dIx : Ok2 K (rDIx K) gDx := by
  intro F B H σ ρ x y dx dy sv Q R hx hy hg q
  unfold gDx at hg
  split at hg
  · rename_i ks vs l
    cases e : intL l with
    | none =>
      rw [e] at hg
      cases hg
    | some k =>
      rw [e] at hg
      cases e2 : dctV ks vs k with
      | none =>
        simp only [Option.bind_some, e2, Option.map_none] at hg
        cases hg
      | some d =>
        simp only [Option.bind_some, e2, Option.map_some] at hg
        cases hg
        obtain ⟨b, rfl, hb⟩ := key_of_tup R.exB e hy
        obtain ⟨a, xs, rfl, ha, hl, r⟩ := hx.dct R.exB
        obtain ⟨v, hv, rv⟩ := (dct_val (k := k) hl r).1 d e2
        exact ⟨a, b, _, keyL k, v, rfl, rfl, ha, hb, hv, q v B H R (Same.refl _) (.sh rv)⟩
  · cases hg
end
section
variable {cv : Nat → Value} {X : Cx} {W : WX} {a b : Expr} {ta tb : TE} {fa fb : M Op} {pos : Pos}
theorem snd_dIx (hu : X.A.units + 1 < cLine) (ha : SndO cv X W a ta fa) (hb : SndO cv X W b tb fb) (hs : NoSl b) : SndE cv X W (.Subscript a b pos) (tOp (rDIx X.K) ta tb) (vOp2 gDx fa fb) := ⟨pe_dgetS hu ha.pe hb.pe hs, adm_op2 ok_dIx ha hb⟩
end
/-! ### instances: read alone -/
def gFld0 (c f : Str) : D → Option SV
  | .ob c' ns fs => if c' = c then ((ns.zip fs).lookup f).map .sh else none
  | _ => none
def obF : D → D
  | .lv n => lvFull n
  | d => d
def gFld (c f : Str) (d : D) : Option SV := gFld0 c f (obF d)
theorem obF_cases (d : D) : (∃ n, d = .lv n ∧ obF d = lvFull n) ∨ obF d = d := by
  cases d with
  | lv n => exact .inl ⟨n, rfl, rfl⟩
  | _ => exact .inr rfl
section
variable {K : PySem.W.Frag} {H : Hp}
theorem zip_lookup {f : Str} : ∀ {ns : List Str} {xs : List V} {fs : List D}, RepL K H xs fs → ∀ d, (ns.zip fs).lookup f = some d → ∃ v, (ns.zip xs).lookup f = some v ∧ Rep K H v d
  | [], _, _, _, d, h => nomatch h
  | n :: ns, _, _, .nil, d, h => nomatch h
  | n :: ns, _, _, @RepL.cons _ _ v d0 vs ds h t, d, hd => by
    rw [List.zip_cons_cons, List.lookup_cons] at hd ⊢
    cases e : f == n with
    | true =>
      rw [e] at hd
      cases hd
      exact ⟨v, rfl, h⟩
    | false =>
      rw [e] at hd
      exact zip_lookup t d hd
theorem zip_none {f : Str} : ∀ {ns : List Str} {xs : List V}, f ∉ ns → (ns.zip xs).lookup f = none
  | [], _, _ => rfl
  | n :: ns, [], _ => rfl
  | n :: ns, x :: xs, h => by
    rw [List.zip_cons_cons, List.lookup_cons]
    have h1 : f ≠ n := fun e => h (e ▸ List.mem_cons_self)
    have h2 : f ∉ ns := fun e => h (List.mem_cons_of_mem _ e)
    rw [beq_eq_false_iff_ne.mpr h1]
    exact zip_none h2
theorem OpRep.lvF {B : Hp} {v : V} {n : Int} (h : OpRep K B H v (.lv n)) : OpRep K B H v (lvFull n) := by
  cases h with
  | sh r => exact .sh r.full
  | @own a o xs c _ hB hH hO r e => cases c <;> cases e
theorem OpRep.ob {B : Hp} {v : V} (e : Same B H) {c : Str} {ns : List Str} {fs : List D} (h : OpRep K B H v (.ob c ns fs)) : ∃ a C dx xs, v = .ref a ∧ PySem.W.nsIn K mainGlobals c = some (some (.ref C)) ∧ H a = some (.ins C dx (ns.zip xs)) ∧ ns.length = fs.length ∧ RepL K B xs fs := by
  cases h with
  | sh r =>
    cases r with
    | ob hc h hl r => exact ⟨_, _, _, _, rfl, hc, e _ _ h, hl, r⟩
  | @own a o xs cc _ hB hH hO r e =>
    cases cc with
    | ob c' ns' fs' =>
      cases e
      obtain ⟨C, dx, hc, rfl, hl⟩ := hO
      exact ⟨_, _, _, _, rfl, hc, hH, hl, r⟩
    | lst _ => cases e
    | dk _ _ => cases e
    | dt _ _ => cases e
end
section
variable {cv : Nat → Value} {X : Cx} {W : WX} {e : Expr} {es : List Expr} {te : TE} {ts : TA} {fe : M Op} {fs : M (List Op)} {pos apos : Pos} {C : Addr} {c f m : Str}
theorem OpRep.obF {K : PySem.W.Frag} {B H : Hp} {v : V} {d : D} (h : OpRep K B H v d) : OpRep K B H v (Sim.obF d) := by
  rcases obF_cases d with ⟨n, rfl, e⟩ | e
  · rw [e]
    exact h.lvF
  · rw [e]
    exact h
theorem snd_fld (hC : PySem.W.nsIn X.K mainGlobals c = some (some (.ref C))) (cl : Cls X.K C) (na : NoAttr X.K C f) (ha : SndO cv X W e te fe) (hb : attributeBase e f X.env (eval e X.env) = eval e X.env) : SndE cv X W (.Attribute e f pos) (tFld X.K te f) (vOp1 (gFld c f) fe) := by
  refine ⟨pe_fld ha.pe hb, fun F B H σ ρ Q R q => ?_⟩
  refine ha.ad F B H σ ρ _ R (wpm_mono (wpm_bnd q) (fun o ρ1 q v B1 H1 R1 sm1 ov => ?_) fun _ _ q => q)
  obtain ⟨d, sv, e1, e2, q⟩ := wpm_lift1 q
  unfold gFld gFld0 at e2
  split at e2
  · rename_i c' ns fs eob
    split at e2
    · rename_i hc
      subst hc
      cases e3 : (ns.zip fs).lookup f with
      | none =>
        rw [e3] at e2
        cases e2
      | some df =>
        rw [e3] at e2
        cases e2
        obtain ⟨a, C', dx, xs, rfl, hC', hH, hl, r⟩ := (eob ▸ (ov.rep R1 e1).obF).ob R1.exB
        rw [hC] at hC'
        cases hC'
        obtain ⟨w, hw, rw'⟩ := zip_lookup r df e3
        exact ⟨a, C, dx, _, w, rfl, hH, cl, na, hw, q w B1 H1 R1 sm1 (.sh rw')⟩
    · cases e2
  · cases e2
end
/-! ### a method of an instance -/
def isOb0 (c m : Str) : D → Bool
  | .ob c' ns _ => decide (c' = c) && !(ns.contains m)
  | _ => false
def isOb (c m : Str) : Option D → Bool
  | some d => isOb0 c m (obF d)
  | none => false
theorem isOb_at {c m : Str} {o : Option D} (h : isOb c m o = true) : ∃ d c' ns fs, o = some d ∧ obF d = .ob c' ns fs ∧ (decide (c' = c) && !(ns.contains m)) = true := by
  cases o with
  | none => cases h
  | some d =>
    have h : isOb0 c m (obF d) = true := h
    unfold isOb0 at h
    split at h
    · rename_i c' ns fs e
      exact ⟨d, c', ns, fs, rfl, e, h⟩
    · cases h
def okO : Option (Out SV) → Option (Out SV)
  | some (.ok a ρ) => some (.ok a ρ)
  | _ => none
def mtC (n : Nat) (Φ : List D → Option CR) (o : Op) (os : List Op) : M SV := fun ρ => if os.length = n then okO (callM none Φ (o :: os) ρ) else none
def mtO (c m : Str) (n : Nat) (Φ : List D → Option CR) (fs : M (List Op)) (o : Op) : M SV := fun ρ => if isOb c m (get ρ o) = true then bnd fs (mtC n Φ o) ρ else none
def vMeth (c m : Str) (n : Nat) (Φ : List D → Option CR) (fo : M Op) (fs : M (List Op)) : M SV := bnd fo (mtO c m n Φ fs)
section
variable {cv : Nat → Value} {X : Cx} {W : WX} {o e : Expr} {es : List Expr} {to : TE} {ts : TA} {fo : M Op} {fs : M (List Op)} {pos apos : Pos} {C : Addr} {c m : Str}
theorem adm_meth {n : Nat} {Φ : List D → Option CR} (hC : PySem.W.nsIn X.K mainGlobals c = some (some (.ref C))) (ho : SndO cv X W o to fo) (ha : SndA cv X W es ts fs) :
    Adm cv W X.K (tMeth C m (spI cv X.K (n + 1) none Φ) [] E0 to ts) (vMeth c m n Φ fo fs) (RV X.K) := by
  intro F B H σ ρ Q R q0
  refine ho.ad F B H σ ρ _ R (wpm_mono (wpm_bnd q0) (fun o ρ1 q1 v B1 H1 R1 sm1 ov => ?_) fun _ _ q => q)
  unfold wpm mtO at q1
  by_cases hc : isOb c m (get ρ1 o) = true
  · have q : wpm (bnd fs (mtC n Φ o)) ρ1 (fun a ρ' => ∀ (v : V) (B' H' : Hp), Rel X.K F B' H' σ ρ' → Same B B' → RV X.K F B' H' σ ρ' v a → Q v H') (fun c ρ' => ∀ (B' H' : Hp), Rel X.K F B' H' σ ρ' → Same B B' → W (cv c) none σ H') := by
      simp only [if_pos hc] at q1
      exact q1
    clear q1 q0
    obtain ⟨d0, c', ns, fs', e0, eob, hc2⟩ := isOb_at hc
    rw [Bool.and_eq_true, decide_eq_true_eq] at hc2
    obtain ⟨rfl, hm⟩ := hc2
    obtain ⟨a, C', dx, xs, rfl, hC', hH, hl, r⟩ := (eob ▸ (ov.rep R1 e0).obF).ob R1.exB
    rw [hC] at hC'
    cases hC'
    have hn : m ∉ ns := by
      intro h
      rw [List.contains_iff_mem.mpr h] at hm
      cases hm
    refine ⟨a, dx, _, rfl, hH, zip_none hn, ?_⟩
    refine ha.ad F B1 H1 σ ρ1 _ R1 (wpm_mono (wpm_bnd q) (fun os ρ2 q vs B2 H2 R2 sm2 ovs => ?_) fun cc ρ2 q B2 H2 R2 sm2 => q B2 H2 R2 (sm1.trans sm2))
    rw [List.append_nil]
    unfold wpm mtC at q
    by_cases hl2 : os.length = n
    · simp only [if_pos hl2] at q
      refine adm_callM R2 (.cons (ov.mono sm2) ovs) (by rw [List.length_cons, hl2]) ?_
      unfold wpm
      cases e : callM none Φ (o :: os) ρ2 with
      | none =>
        rw [e] at q
        exact q.elim
      | some r =>
        cases r with
        | ex cc ρ3 =>
          rw [e] at q
          exact q.elim
        | ok sv ρ3 =>
          rw [e] at q
          have q2 : ∀ v' B' H', Rel X.K F B' H' σ ρ3 → Same B B' → RV X.K F B' H' σ ρ3 v' sv → Q v' H' := q
          exact fun v' B' H' R' sm rv => q2 v' B' H' R' ((sm1.trans sm2).trans sm) rv
    · simp only [if_neg hl2] at q
  · simp only [if_neg hc] at q1
theorem snd_meth {pl : Sem Bool} {n k : Nat} {Φ : List D → Option CR} {f : Addr} {fd : FuncData} {ps : List Str} (hC : PySem.W.nsIn X.K mainGlobals c = some (some (.ref C))) (cl : Cls X.K C) (hm : Meth X.K C m f)
    (G : FnOk X.prog X.w X.K X.mg X.base (L2.CX X.prog X.w) k f fd ps (spI cv X.K (n + 1) none Φ)) (hr : Room k X.A) (hb : Binds X.K fd ps []) (ho : SndO cv X W o to fo) (ha : SndA cv X W (e :: es) ts fs)
    (hst : starEach (e :: es) X.env = (false, eval e X.env) :: starEach es X.env := by rfl) (hpl : (backTo pos (starEach es X.env)).any (·.1) = false := by rfl)
    (ht : eval (.Call (.Attribute o m apos) (e :: es) [] pos) X.env = (do
      let ov ← eval o X.env
      standAt apos.atName
      let (f, first) ← holding [ov] (getMethod ov m pl)
      callWith pos f first (backTo pos (starEach (e :: es) X.env)) (backToKw pos (keywordEach [] X.env))) := by rfl) :
    SndE cv X W (.Call (.Attribute o m apos) (e :: es) [] pos) (tMeth C m (spI cv X.K (n + 1) none Φ) [] E0 to ts) (vMeth c m n Φ fo fs) :=
  ⟨pe_meth ho.pe cl hm G hr hb .nil passL ha.pa hst hpl ht, adm_meth hC ho ha⟩
theorem snd_meth0 {pl : Sem Bool} {k : Nat} {Φ : List D → Option CR} {f : Addr} {fd : FuncData} {ps : List Str} (hC : PySem.W.nsIn X.K mainGlobals c = some (some (.ref C))) (cl : Cls X.K C) (hm : Meth X.K C m f)
    (G : FnOk X.prog X.w X.K X.mg X.base (L2.CX X.prog X.w) k f fd ps (spI cv X.K 1 none Φ)) (hr : Room k X.A) (hb : Binds X.K fd ps []) (ho : SndO cv X W o to fo)
    (ht : eval (.Call (.Attribute o m apos) [] [] pos) X.env = (do
      let ov ← eval o X.env
      standAt apos.atName
      let (f, first) ← holding [ov] (getMethod ov m pl)
      callWith pos f first (backTo pos (starEach [] X.env)) (backToKw pos (keywordEach [] X.env))) := by rfl) :
    SndE cv X W (.Call (.Attribute o m apos) [] [] pos) (tMeth C m (spI cv X.K 1 none Φ) [] E0 to tNil) (vMeth c m 0 Φ fo aNil) :=
  ⟨pe_meth0 ho.pe cl hm G hr hb .nil passL ht, adm_meth (n := 0) hC ho snd_anil⟩
end
/-! ### an instance made: all that is new is shared from then on -/
def NewR (K : PySem.W.Frag) (B H H' : Hp) (x : Addr) (v : V) (d : D) : Prop := Rep K (fun a => if a = x ∨ H a = none then H' a else B a) v d
theorem NewR.of {K : PySem.W.Frag} {B H H' : Hp} {x : Addr} {v : V} {d : D} (h : Rep K (fun a => if a = x ∨ H a = none then H' a else none) v d) : NewR K B H H' x v d :=
  Rep.mono (fun a o e => by
    by_cases hc : a = x ∨ H a = none
    · simp only [if_pos hc] at e ⊢
      exact e
    · simp only [if_neg hc] at e
      cases e) _ _ h
/-- what __init__ promises: the class's data as Φ tells it of the arguments -/
def spMk (K : PySem.W.Frag) (c : Str) (n : Nat) (Φ : List D → Option D) : Sp := fun vs H Q _ => ∃ (x dx C : Addr) (ws : List V) (ds : List D) (B : Hp) (d : D), vs = .ref x :: ws ∧ PySem.W.nsIn K mainGlobals c = some (some (.ref C)) ∧ H x = some (.ins C dx []) ∧
  RepL K B ws ds ∧ Same B H ∧ ws.length = n ∧ Φ ds = some d ∧ B x = none ∧ ∀ H', (∀ b o, H b = some o → b ≠ x → H' b = some o) → NewR K B H H' x (.ref x) d → Q .non H'
def mkF (Φ : List D → Option D) : List D → Option SV := fun ds => (Φ ds).map .sh
section
variable {cv : Nat → Value} {X : Cx} {W : WX} {e : Expr} {es : List Expr} {ts : TA} {fs : M (List Op)} {pos p : Pos} {C f : Addr} {c : Str}
theorem sharedL {K : PySem.W.Frag} {B : Hp} {σ : L2.St} {vs : List V} {os : List Op} (h : OpVs K B σ vs os) : ∀ {ds : List D}, vals os = some ds → RepL K B vs ds := by
  induction h with
  | nil =>
    intro ds e
    cases e
    exact .nil
  | @cons v o vs os h t ih =>
    intro ds e
    cases h with
    | val r =>
      cases e2 : vals os with
      | none =>
        rw [e_vals2, e2] at e
        cases e
      | some ds2 =>
        rw [e_vals2, e2] at e
        cases e
        exact .cons r (ih e2)
    | slot hs => cases e
def mkO (n : Nat) (Φ : List D → Option D) (ρ : Sl) : Option (List D) → Option (Out SV)
  | some ds => if ds.length = n then (Φ ds).map fun d => .ok (.sh d) ρ else none
  | none => none
def vMk (n : Nat) (Φ : List D → Option D) (fs : M (List Op)) : M SV := bnd fs fun os ρ => mkO n Φ ρ (vals os)
theorem adm_mk {n : Nat} {Φ : List D → Option D} (hC : PySem.W.nsIn X.K mainGlobals c = some (some (.ref C))) (ha : SndA cv X W es ts fs) : Adm cv W X.K (tMake C (spMk X.K c n Φ) [] E0 ts) (vMk n Φ fs) (RV X.K) := by
  intro F B H σ ρ Q R q0
  refine ha.ad F B H σ ρ _ R (wpm_mono (wpm_bnd q0) (fun os ρ1 q1 vs B1 H1 R1 sm1 ovs => ?_) fun _ _ q => q)
  unfold wpm at q1
  cases e1 : vals os with
  | none =>
    rw [e1] at q1
    exact q1.elim
  | some ds =>
    rw [e1] at q1
    dsimp only at q1
    by_cases hl : ds.length = n
    · have em : mkO n Φ ρ1 (some ds) = (Φ ds).map fun d => .ok (.sh d) ρ1 := if_pos hl
      rw [em] at q1
      cases e2 : Φ ds with
      | none =>
        rw [e2] at q1
        exact q1.elim
      | some d =>
        rw [e2] at q1
        have q2 : ∀ v' B' H', Rel X.K F B' H' σ ρ1 → Same B B' → RV X.K F B' H' σ ρ1 v' (.sh d) → Q v' H' := q1
        clear q1 q0
        intro x dx hx hdx hne
        have rl := sharedL ovs e1
        rw [List.append_nil]
        have s12 : Same H1 (upd (upd H1 dx (.own x)) x (.ins C dx [])) := fun a o e => by
          rw [upd_ne (ne_of_none e hx), upd_ne (ne_of_none e hdx)]
          exact e
        refine ⟨x, dx, C, vs, ds, B1, d, rfl, hC, upd_same, rl, R1.exB.trans s12, by rw [rl.length, hl], e2, R1.exB.free hx, fun H' k nr => ⟨rfl, ?_⟩⟩
        have s1' : Same H1 H' := fun a o e => k a o (s12 a o e) (ne_of_none e hx)
        obtain ⟨B', hB'⟩ : ∃ B' : Hp, B' = fun a => if H1 a = none then H' a else B1 a := ⟨_, rfl⟩
        have By : ∀ {a}, H1 a = none → B' a = H' a := fun {a} h => by rw [hB']; exact if_pos h
        have Bn : ∀ {a o}, H1 a = some o → B' a = B1 a := fun {a o} h => by
          rw [hB']
          exact if_neg (by rw [h]; exact fun e => nomatch e)
        have sB : Same B1 B' := fun a o e => by
          rw [Bn (R1.exB a o e)]
          exact e
        have sBH : Same B' H' := fun a o e => by
          cases h : H1 a with
          | none =>
            rw [By h] at e
            exact e
          | some o' =>
            rw [Bn h] at e
            exact s1' a o (R1.exB a o e)
        have sF : Same F H' := fun a o e => s1' a o (R1.exF a o e)
        have dis : ∀ a o, F a = some o → B' a = none := fun a o e => by
          rw [Bn (R1.exF a o e)]
          exact R1.dis a o e
        have R2 : Rel X.K F B' H' σ ρ1 := by
          refine ⟨sBH, sF, dis, R1.len, fun i sv h => ?_, R1.sep⟩
          have sl := R1.slot i sv h
          generalize σ[i]? = w at sl
          cases sl with
          | sh r => exact .sh (r.mono sB _ _)
          | fr hF hB hH hO r => exact .fr hF (by rw [Bn hH]; exact hB) (s1' _ _ hH) hO (r.mono sB _ _)
        refine q2 _ B' H' R2 (sm1.trans sB) (.sh (Rep.mono (fun a o e => ?_) d _ nr))
        by_cases hc : a = x ∨ upd (upd H1 dx (.own x)) x (.ins C dx []) a = none
        · have e' : H' a = some o := by
            have h2 := e
            simp only [if_pos hc] at h2
            exact h2
          have hn : H1 a = none := by
            rcases hc with rfl | hc
            · exact hx
            · cases h : H1 a with
              | none => rfl
              | some o' =>
                rw [s12 a o' h] at hc
                cases hc
          rw [By hn]
          exact e'
        · have h2 := e
          simp only [if_neg hc] at h2
          rw [Bn (R1.exB a o h2)]
          exact h2
    · have em : mkO n Φ ρ1 (some ds) = none := if_neg hl
      rw [em] at q1
      exact q1.elim
theorem snd_make {n k : Nat} {Φ : List D → Option D} {fd : FuncData} {ps : List Str} {x : Str} (hC : PySem.W.nsIn X.K mainGlobals c = some (some (.ref C))) (M : Mk X.K C f) (G : FnOk X.prog X.w X.K X.mg X.base (L2.CX X.prog X.w) k f fd ps (spMk X.K c n Φ)) (hr : Room (k + 1) X.A)
    (hg : Gl X x) (hm : X.mg x = some (.ref C)) (hb : Binds X.K fd ps []) (ha : SndA cv X W (e :: es) ts fs)
    (hdb : (x == ("__debug__" : Str)) = false := by decide) (he : starEach (e :: es) X.env = (false, eval e X.env) :: starEach es X.env := by rfl) (hpl : (backTo pos (starEach es X.env)).any (·.1) = false := by rfl) :
    SndE cv X W (.Call (.Name x p) (e :: es) [] pos) (tMake C (spMk X.K c n Φ) [] E0 ts) (vMk n Φ fs) := ⟨pe_make M G hr hg hm hb .nil passL ha.pa hdb he hpl, adm_mk hC ha⟩
end
def mkQ (ρ : Sl) : Option D → Option (Out SV)
  | some d => some (.ok (.sh d) ρ)
  | none => none
section
variable {ρ : Sl} {o : Op} {os : List Op} {fo : M Op} {fs : M (List Op)} {c m f : Str} {n : Nat} {Φ : List D → Option CR} {Ψ : List D → Option D}
theorem e_meth : vMeth c m n Φ fo fs ρ = bnK (mtO c m n Φ fs) (fo ρ) := rfl
theorem e_mtO : mtO c m n Φ fs o ρ = if isOb c m (get ρ o) = true then bnd fs (mtC n Φ o) ρ else none := rfl
theorem k_isOb {ns : List Str} {fd : List D} : isOb c m (some (.ob c ns fd)) = !(ns.contains m) := by
  show (decide (c = c) && _) = _
  rw [decide_eq_true rfl, Bool.true_and]
theorem e_mtC : mtC n Φ o os ρ = if os.length = n then okO (callM none Φ (o :: os) ρ) else none := rfl
theorem k_okO {sv : SV} : okO (some (.ok sv ρ)) = some (.ok sv ρ) := rfl
theorem e_mk : vMk n Ψ fs ρ = bnK (fun os ρ => mkO n Ψ ρ (vals os)) (fs ρ) := rfl
theorem k_mk {ds : List D} : mkO n Ψ ρ (some ds) = if ds.length = n then mkQ ρ (Ψ ds) else none := by
  show (if ds.length = n then (Ψ ds).map (fun d => Out.ok (SV.sh d) ρ) else none) = _
  cases Ψ ds <;> rfl
theorem k_mkQ {d : D} : mkQ ρ (some d) = some (.ok (.sh d) ρ) := rfl
theorem k_fld {ns : List Str} {fd : List D} : gFld c f (.ob c ns fd) = ((ns.zip fd).lookup f).map .sh := by
  show (if c = c then _ else none) = _
  rw [if_pos rfl]
end
end Sim

namespace Sim
open PySem PySem.Spec PyProof.Rows L2
/-! ### classes as the top has made them -/
structure ClsIs (K : PySem.W.Frag) (mg : Str → Option Value) (c : Str) (C : Addr) : Prop where
  hC : PySem.W.nsIn K mainGlobals c = some (some (.ref C))
  cl : Cls K C
  mgC : mg c = some (.ref C)
  mks : PySem.W.makesIn K C = true
  kp : PySem.W.keepIn K (.ref C) = true
def FldAt (K : PySem.W.Frag) (c f : Str) : Prop := ∃ C, PySem.W.nsIn K mainGlobals c = some (some (.ref C)) ∧ Cls K C ∧ NoAttr K C f
def MethAt (K : PySem.W.Frag) (c m : Str) (st : Stmt) (ps : List Str) : Prop := ∃ C f fd, PySem.W.nsIn K mainGlobals c = some (some (.ref C)) ∧ Cls K C ∧ Meth K C m f ∧ Fun K m (c ++ "." ++ m) st f fd ∧ Binds K fd ps []
def HasM (P : Program) (w : World) (K : PySem.W.Frag) (mg : Str → Option Value) (base : Heap) (cv : Nat → Value) (k n : Nat) (Φ : List D → Option CR) (c m : Str) (ps : List Str) : Prop :=
  ∃ C f fd, PySem.W.nsIn K mainGlobals c = some (some (.ref C)) ∧ Cls K C ∧ Meth K C m f ∧ FnOk P w K mg base (L2.CX P w) k f fd ps (spI cv K (n + 1) none Φ) ∧ Binds K fd ps []
/-- a method by any promise -/
def HasP (P : Program) (w : World) (K : PySem.W.Frag) (mg : Str → Option Value) (base : Heap) (k : Nat) (sp : Addr → Sp) (c m : Str) (ps : List Str) : Prop :=
  ∃ C f fd, PySem.W.nsIn K mainGlobals c = some (some (.ref C)) ∧ Cls K C ∧ Meth K C m f ∧ FnOk P w K mg base (L2.CX P w) k f fd ps (sp C) ∧ Binds K fd ps []
def HasC (P : Program) (w : World) (K : PySem.W.Frag) (mg : Str → Option Value) (base : Heap) (k n : Nat) (Φ : List D → Option D) (c : Str) (ps : List Str) : Prop :=
  ∃ C f fd, PySem.W.nsIn K mainGlobals c = some (some (.ref C)) ∧ Cls K C ∧ Mk K C f ∧ mg c = some (.ref C) ∧ FnOk P w K mg base (L2.CX P w) k f fd ps (spMk K c n Φ) ∧ Binds K fd ps []
section
variable {K : PySem.W.Frag} {h : Heap} {mg : Str → Option Value} {c : Str} {C : Addr} {R : Prop}
theorem with_cls (X : K.In h) (G : h.Ns mainGlobals mg) (a : PySem.W.nsIn K mainGlobals c = some (some (.ref C))) (pg : PySem.W.plainGet K C Str.empty = true) (hd : PySem.W.hasDictIn K C = true) (po : PySem.W.plainOver K C = true)
    (sa : PySem.W.findIn K (.ref C) "__setattr__" = some (some (.builtin "object.__setattr__"))) (mk : PySem.W.makesIn K C = true) (kc : PySem.W.keepIn K (.ref C) = true) (n : ClsIs K mg c C → R) : R :=
  n ⟨a, ⟨pg, hd, po, sa⟩, PySem.W.mg_of X G a, mk, kc⟩
theorem with_fld {f : Str} (I : ClsIs K mg c C) (a : PySem.W.findIn K (.ref C) f = some none) (n : FldAt K c f → R) : R := n ⟨C, I.hC, I.cl, a⟩
theorem with_meth {m q : Str} {st : Stmt} {ps : List Str} {f : Addr} {od an : Option Addr} {sl : Array (Option Value)} {oc kV dc pm cd ct : Value} (I : ClsIs K mg c C) (hq : q = c ++ "." ++ m)
    (a : PySem.W.findIn K (.ref C) m = some (some (.ref f))) (i : PySem.W.isFn K (.ref f) = true) (l : K.lookup f = some ⟨oc, od, .func (PySem.W.fnOf m q (defArgs st) (defBody st) (defScope st) .none kV dc pm an cd ct), sl⟩) (cc : PySem.W.codeIn K cd q = true) (k : PySem.W.keepIn K (.ref f) = true)
    (b : ∀ (kV doc pm : Value) (an : Option Addr) (cdv ct : Value) (us : List Value), us.length = ps.length → bindArgs (PySem.W.fnOf m q (defArgs st) (defBody st) (defScope st) .none kV doc pm an cdv ct) ⟨us, []⟩ = pure (ps.zip us)) (n : MethAt K c m st ps → R) : R := by
  subst hq
  have F := fun_mk (st := st) l cc k
  exact n ⟨C, f, _, I.hC, I.cl, ⟨a, i, k⟩, F, F.binds b⟩
theorem MethAt.mk {m : Str} {st : Stmt} {ps : List Str} (I : ClsIs K mg c C) (M : MethAt K c m st ps) : ∃ f fd, Meth K C m f ∧ Fun K m (c ++ "." ++ m) st f fd ∧ Binds K fd ps [] := by
  obtain ⟨C', f, fd, h1, _, h2, h3, h4⟩ := M
  have e := I.hC
  rw [h1] at e
  cases e
  exact ⟨f, fd, h2, h3, h4⟩
end
end Sim

namespace Sim
open PySem PySem.Spec PyProof.Rows L2
/-! ### the levels, as plain data -/
def lvD : List D → Option D
  | [.int n] => if 1 ≤ n ∧ n ≤ 48 then some (lvOb n) else none
  | _ => none
def dtP (ps : List (List Int × Int)) : List (List L2.Key × V) := ps.map fun p => (keyL p.1, V.int p.2)
theorem put_dtP (ps : List (List Int × Int)) (k : List Int) (v : Int) : putK (dtP ps) (keyL k) (.int v) = dtP (putP ps k v) := by
  have ha : ((dtP ps).any fun kv => decide (kv.1 = keyL k)) = ps.any fun p => decide (p.1 = k) := by
    unfold dtP
    rw [List.any_map]
    congr 1
    funext p
    show decide (keyL p.1 = keyL k) = decide (p.1 = k)
    by_cases h : p.1 = k
    · rw [h]; simp
    · rw [decide_eq_false h, decide_eq_false fun e => h (keyL_inj e)]
  unfold putK putP
  rw [ha]
  split
  · unfold dtP
    rw [List.map_map, List.map_map]
    refine List.map_congr_left fun p _ => ?_
    show (if keyL p.1 = keyL k then (keyL p.1, V.int v) else (keyL p.1, V.int p.2)) = _
    by_cases h : p.1 = k
    · rw [if_pos (by rw [h])]
      show _ = (keyL (if p.1 = k then (p.1, v) else p).1, V.int (if p.1 = k then (p.1, v) else p).2)
      rw [if_pos h]
    · rw [if_neg fun e => h (keyL_inj e)]
      show _ = (keyL (if p.1 = k then (p.1, v) else p).1, V.int (if p.1 = k then (p.1, v) else p).2)
      rw [if_neg h]
  · unfold dtP
    rw [List.map_append]
    rfl
theorem putP_len (ps : List (List Int × Int)) (k : List Int) (v : Int) : (putP ps k v).length ≤ ps.length + 1 := by
  unfold putP
  split
  · rw [List.length_map]; omega
  · rw [List.length_append]; exact Nat.le_refl _
theorem takeP_len (n : Int) (i u v : Int) : ∀ (T : List Int) (ps : List (List Int × Int)), (takeP n T i u v ps).length ≤ ps.length + T.length
  | [], ps => Nat.le_refl _
  | k :: T, ps => by
    have h := takeP_len n i u v T (putP ps [k * u % n, k * v % n] i)
    have h2 := putP_len ps [k * u % n, k * v % n] i
    rw [List.length_cons]
    show (takeP n T i u v (putP ps [k * u % n, k * v % n] i)).length ≤ _
    omega
theorem val_dtP (ps : List (List Int × Int)) (k : List Int) : (valV (dtP ps) (keyL k)).isSome = ps.any fun p => decide (p.1 = k) := by
  rw [← valV_any]
  unfold dtP
  rw [List.any_map]
  congr 1
  funext p
  show decide (keyL p.1 = keyL k) = decide (p.1 = k)
  by_cases h : p.1 = k
  · rw [h]; simp
  · rw [decide_eq_false h, decide_eq_false fun e => h (keyL_inj e)]
/-! ### the promise of take -/
def lvF (n : Int) (kA nA tA : Addr) : List (Str × V) := [("n", .int n), ("kinds", .ref kA), ("numbers", .ref nA), ("times", .ref tA)]
def spTake (C : Addr) : Sp := fun vs H Q _ => ∃ (x dx kA nA tA : Addr) (n u v : Int) (T : List Int) (xs : List V) (ps : List (List Int × Int)), vs = [.ref x, .int u, .int v] ∧ H x = some (.ins C dx (lvF n kA nA tA)) ∧ H kA = some (.lst xs) ∧ H nA = some (.dT (dtP ps)) ∧
  H tA = some (.lst (T.map V.int)) ∧ kA ≠ tA ∧ 0 < n ∧ (∀ k ∈ T, 0 ≤ k ∧ k ≤ 48) ∧ xs.length ≤ 5000 ∧ ps.length + T.length ≤ 300000 ∧
  ∀ (H' : Hp) (t : Addr), H' t = some (.tup [.int u, .int v]) → H t = none → H' kA = some (.lst (xs ++ [.ref t])) → H' nA = some (.dT (dtP (takeP n T xs.length u v ps))) → (∀ b o, H b = some o → b ≠ kA → b ≠ nA → H' b = some o) → Q .non H'
theorem FldAt.na {K : PySem.W.Frag} {mg : Str → Option Value} {c f : Str} {C : Addr} (I : ClsIs K mg c C) (F : FldAt K c f) : NoAttr K C f := by
  obtain ⟨C', h1, _, h3⟩ := F
  have e := I.hC
  rw [h1] at e
  cases e
  exact h3
end Sim

namespace Sim
open PySem PySem.Spec PyProof.Rows L2
/-! ### for Level.__init__ -/
def exprAt (st : Stmt) (i : Nat) : Expr := match (defBody st).getD i (.Pass ⟨0, 0, 0, 0⟩) with
  | .Assign _ v _ => v
  | .Expr e _ => e
  | _ => .Constant .none 0 ⟨0, 0, 0, 0⟩
def forBody : Stmt → Stmt
  | .For _ _ (s :: _) _ _ => s
  | s => s
def condAt (st : Stmt) (i : Nat) : Expr := match forBody (forBody ((defBody st).getD i (.Pass ⟨0, 0, 0, 0⟩))) with
  | .If (.BoolOp _ (a :: _) _) _ _ _ => a
  | _ => .Constant .none 0 ⟨0, 0, 0, 0⟩
theorem sim_run {α β : Type} {cv : Nat → Value} {W : WX} {K : PySem.W.Frag} {t : L2.St → Hp → (α → Hp → Prop) → Prop} {m : M β} {Post : Hp → Hp → Hp → L2.St → Sl → α → β → Prop} (h : Adm cv W K t m Post) {F B H : Hp} {σ : L2.St} {ρ ρ' : Sl} {a : β} {Q : α → Hp → Prop} (R : Rel K F B H σ ρ)
    (hm : m ρ = some (.ok a ρ')) (k : ∀ v B' H', Rel K F B' H' σ ρ' → Same B B' → Post F B' H' σ ρ' v a → Q v H') : t σ H Q := by
  refine h F B H σ ρ Q R ?_
  unfold wpm
  rw [hm]
  exact k
theorem rel0 {K : PySem.W.Frag} {H : Hp} {σ : L2.St} {ρ : Sl} (hl : ρ.length = σ.length) (hs : ∀ (i : Nat) (sv : SV), ρ[i]? = some (some sv) → ∃ z, sv = .sh (.int z) ∧ σ[i]? = some (some (.int z))) : Rel K H (fun _ => none) H σ ρ := by
  refine ⟨(fun _ _ e => nomatch e), Same.refl _, fun _ _ _ => rfl, hl, fun i sv h => ?_, fun i j a o1 o2 => ?_⟩
  · obtain ⟨z, rfl, e⟩ := hs i sv h
    rw [e]
    exact .sh (.int z)
  · obtain ⟨⟨l, e⟩, _⟩ := o1
    obtain ⟨z, e2, _⟩ := hs i _ e
    cases e2
def newP (H0 H : Hp) (x : Addr) : Hp := fun a => if a = x ∨ H0 a = none then H a else none
theorem newP_at {H0 H : Hp} {x a : Addr} (h : a = x ∨ H0 a = none) : newP H0 H x a = H a := if_pos h
theorem newP_mono {H0 H H' : Hp} {x : Addr} (e : Same H H') : Same (newP H0 H x) (newP H0 H' x) := fun a o h => by
  unfold newP at h ⊢
  split at h
  · rename_i hc
    rw [if_pos hc]
    exact e a o h
  · cases h
abbrev kD (ks : List (Int × Int)) : List D := ks.map fun q => D.tup [.int q.1, .int q.2]
theorem kD_T : ∀ ks : List (Int × Int), isTL (kD ks) = true
  | [] => rfl
  | q :: ks => kD_T ks
/-- what stands while the symbols are laid in -/
structure LvI (K : PySem.W.Frag) (C x dx kA nA tA : Addr) (n : Int) (T : List Int) (H0 H : Hp) (s : List (Int × Int) × List (List Int × Int)) : Prop where
  ox : H x = some (.ins C dx (lvF n kA nA tA))
  on : H nA = some (.dT (dtP s.2))
  ot : H tA = some (.lst (T.map V.int))
  ok : ∃ xs, H kA = some (.lst xs) ∧ RepL K (newP H0 H x) xs (kD s.1)
  kp : ∀ b o, H0 b = some o → b ≠ x → H b = some o
section
variable {K : PySem.W.Frag} {C x dx kA nA tA : Addr} {n : Int} {T : List Int} {H0 H H' : Hp} {s : List (Int × Int) × List (List Int × Int)}
theorem LvI.mono (I : LvI K C x dx kA nA tA n T H0 H s) (e : Same H H') : LvI K C x dx kA nA tA n T H0 H' s := by
  obtain ⟨xs, h1, h2⟩ := I.ok
  exact ⟨e _ _ I.ox, e _ _ I.on, e _ _ I.ot, ⟨xs, e _ _ h1, RepL.mono (newP_mono e) _ _ h2⟩, fun b o h hb => e _ _ (I.kp b o h hb)⟩
theorem LvI.put {xs : List V} {t : Addr} {u v : Int} {ps : List (List Int × Int)} (I : LvI K C x dx kA nA tA n T H0 H s) (hk : H kA = some (.lst xs)) (hr : RepL K (newP H0 H x) xs (kD s.1)) (k0 : H0 kA = none) (n0 : H0 nA = none) (xk : x ≠ kA) (xn : x ≠ nA) (tk : tA ≠ kA) (tn : tA ≠ nA)
    (h1 : H' t = some (.tup [.int u, .int v])) (h2 : H t = none) (h3 : H' kA = some (.lst (xs ++ [.ref t]))) (h4 : H' nA = some (.dT (dtP ps))) (h5 : ∀ b o, H b = some o → b ≠ kA → b ≠ nA → H' b = some o) : LvI K C x dx kA nA tA n T H0 H' (s.1 ++ [(u, v)], ps) := by
  have ht0 : H0 t = none := by
    cases e : H0 t with
    | none => rfl
    | some o =>
      by_cases h : t = x
      · subst h
        rw [I.ox] at h2
        cases h2
      · rw [I.kp _ _ e h] at h2
        cases h2
  refine ⟨h5 _ _ I.ox xk xn, h4, h5 _ _ I.ot tk tn, ⟨_, h3, ?_⟩, fun b o h hb => h5 _ _ (I.kp b o h hb) (ne_of_none h k0) (ne_of_none h n0)⟩
  have e1 : RepL K (newP H0 H' x) xs (kD s.1) := RepL.tmono (fun a ys q => by
    unfold newP at q ⊢
    split at q
    · rename_i hc
      rw [if_pos hc]
      exact h5 _ _ q (ne_of q hk (by intro z; cases z)) (ne_of q I.on (by intro z; cases z))
    · cases q) _ _ (kD_T _) hr
  have e2 : kD (s.1 ++ [(u, v)]) = kD s.1 ++ [D.tup [.int u, .int v]] := List.map_append
  show RepL K (newP H0 H' x) (xs ++ [.ref t]) (kD (s.1 ++ [(u, v)]))
  rw [e2]
  exact e1.append (.cons (.tup (.inl (by rw [newP_at (.inr ht0)]; exact h1)) (.cons (.int u) (.cons (.int v) .nil))) .nil)
theorem dtP_zip : ∀ ps : List (List Int × Int), dtP ps = ((ps.map (·.1)).map keyL).zip (ps.map fun p => V.int p.2)
  | [] => rfl
  | p :: ps => by
    show (keyL p.1, V.int p.2) :: dtP ps = (keyL p.1, V.int p.2) :: _
    rw [dtP_zip ps]
    rfl
theorem ints_rep {H : Hp} : ∀ ps : List (List Int × Int), RepL K H (ps.map fun p => V.int p.2) (ps.map fun p => D.int p.2)
  | [] => .nil
  | p :: ps => .cons (.int _) (ints_rep ps)
theorem LvI.fin (I : LvI K C x dx kA nA tA n (lvT n) H0 H (lvEnd n)) (hC : PySem.W.nsIn K mainGlobals "Level" = some (some (.ref C))) (k0 : H0 kA = none) (n0 : H0 nA = none) (t0 : H0 tA = none) {B : Hp} : NewR K B H0 H x (.ref x) (lvOb n) := by
  refine NewR.of ?_
  obtain ⟨xs, h1, h2⟩ := I.ok
  have e1 : newP H0 H x x = some (.ins C dx (lvNames.zip [.int n, .ref kA, .ref nA, .ref tA])) := by
    rw [newP_at (.inl rfl)]
    exact I.ox
  have e2 : newP H0 H x kA = some (.lst xs) := by
    rw [newP_at (.inr k0)]
    exact h1
  have e3 : newP H0 H x nA = some (.dT ((((lvEnd n).2.map (·.1)).map keyL).zip ((lvEnd n).2.map fun p => V.int p.2))) := by
    rw [newP_at (.inr n0), ← dtP_zip]
    exact I.on
  have e4 : newP H0 H x tA = some (.lst ((lvT n).map V.int)) := by
    rw [newP_at (.inr t0)]
    exact I.ot
  exact Rep.lv_of (.ob hC e1 rfl (.cons (.int n) (.cons (.lst e2 h2) (.cons (.dct e3 (by rw [List.length_map, List.length_map]) (ints_rep _)) (.cons (.lst e4 (RepL.ints _)) .nil)))))
end
theorem lvStep_len (n : Int) (T : List Int) (s : List (Int × Int) × List (List Int × Int)) (u v : Int) : (lvStep n T s u v).1.length ≤ s.1.length + 1 ∧ (lvStep n T s u v).2.length ≤ s.2.length + T.length := by
  unfold lvStep
  split
  · refine ⟨?_, takeP_len _ _ _ _ _ _⟩
    show (s.1 ++ [(u, v)]).length ≤ _
    rw [List.length_append]
    exact Nat.le_refl _
  · exact ⟨by omega, by omega⟩
theorem lvRow_succ (n : Int) (T : List Int) (s : List (Int × Int) × List (List Int × Int)) (u : Int) (m : Nat) : lvRow n T s u (m + 1) = lvStep n T (lvRow n T s u m) u m := by
  unfold lvRow
  rw [List.range_succ, List.foldl_append]
  rfl
theorem lvAll_succ (n : Int) (T : List Int) (m : Nat) : lvAll n T (m + 1) = lvRow n T (lvAll n T m) m n.toNat := by
  unfold lvAll
  rw [List.range_succ, List.foldl_append]
  rfl
theorem lvRow_len (n : Int) (T : List Int) (s : List (Int × Int) × List (List Int × Int)) (u : Int) : ∀ m : Nat, (lvRow n T s u m).1.length ≤ s.1.length + m ∧ (lvRow n T s u m).2.length ≤ s.2.length + m * T.length
  | 0 => ⟨Nat.le_refl _, by rw [Nat.zero_mul]; exact Nat.le_refl _⟩
  | m + 1 => by
    obtain ⟨h1, h2⟩ := lvRow_len n T s u m
    obtain ⟨h3, h4⟩ := lvStep_len n T (lvRow n T s u m) u m
    rw [lvRow_succ, Nat.add_mul, Nat.one_mul]
    omega
theorem lvAll_len (n : Int) (T : List Int) : ∀ m : Nat, (lvAll n T m).1.length ≤ m * n.toNat ∧ (lvAll n T m).2.length ≤ m * (n.toNat * T.length)
  | 0 => ⟨Nat.le_of_eq (by rw [Nat.zero_mul]; rfl), Nat.le_of_eq (by rw [Nat.zero_mul]; rfl)⟩
  | m + 1 => by
    obtain ⟨h1, h2⟩ := lvAll_len n T m
    obtain ⟨h3, h4⟩ := lvRow_len n T (lvAll n T m) m n.toNat
    rw [lvAll_succ, Nat.add_mul, Nat.one_mul, Nat.add_mul, Nat.one_mul]
    omega
theorem lvT_mem {n : Int} (h0 : 1 ≤ n) (h : n ≤ 48) : (∀ k ∈ lvT n, 0 ≤ k ∧ k ≤ 48) ∧ (lvT n).length ≤ 48 := by
  unfold lvT
  refine ⟨fun k hk => ?_, Nat.le_trans (List.length_filter_le _ _) (by rw [List.length_map, List.length_range]; omega)⟩
  obtain ⟨j, hj, rfl⟩ := List.mem_map.mp (List.mem_filter.mp hk).1
  have := List.mem_range.mp hj
  omega
theorem lv_room {n : Int} (h0 : 1 ≤ n) (h : n ≤ 48) {i j : Nat} (hi : i ≤ 48) (hj : j ≤ 48) (u : Int) : (lvRow n (lvT n) (lvAll n (lvT n) i) u j).1.length ≤ 5000 ∧ (lvRow n (lvT n) (lvAll n (lvT n) i) u j).2.length + (lvT n).length ≤ 300000 := by
  obtain ⟨h1, h2⟩ := lvAll_len n (lvT n) i
  obtain ⟨h3, h4⟩ := lvRow_len n (lvT n) (lvAll n (lvT n) i) u j
  obtain ⟨_, h5⟩ := lvT_mem h0 h
  have hn : n.toNat ≤ 48 := by omega
  have e1 : i * n.toNat ≤ 48 * 48 := Nat.mul_le_mul hi hn
  have e2 : n.toNat * (lvT n).length ≤ 48 * 48 := Nat.mul_le_mul hn h5
  have e3 : i * (n.toNat * (lvT n).length) ≤ 48 * (48 * 48) := Nat.mul_le_mul hi e2
  have e4 : j * (lvT n).length ≤ 48 * 48 := Nat.mul_le_mul hj h5
  omega
theorem putF_lv (n : Int) (kA nA tA : Addr) : putF "times" (.ref tA) (putF "numbers" (.ref nA) (putF "kinds" (.ref kA) (putF "n" (.int n) []))) = lvF n kA nA tA := by
  have e1 : ¬ (("n" : Str) = "kinds") := by decide +kernel
  have e2 : ¬ (("n" : Str) = "numbers") := by decide +kernel
  have e3 : ¬ (("n" : Str) = "times") := by decide +kernel
  have e4 : ¬ (("kinds" : Str) = "numbers") := by decide +kernel
  have e5 : ¬ (("kinds" : Str) = "times") := by decide +kernel
  have e6 : ¬ (("numbers" : Str) = "times") := by decide +kernel
  unfold lvF
  simp only [putF, if_neg e1, if_neg e2, if_neg e3, if_neg e4, if_neg e5, if_neg e6]
theorem putF_len (f : Str) (v : V) : ∀ fs : List (Str × V), (putF f v fs).length ≤ fs.length + 1
  | [] => Nat.le_refl _
  | (g, y) :: r => by
    unfold putF
    split
    · rw [List.length_cons, List.length_cons]
      omega
    · rw [List.length_cons, List.length_cons]
      have := putF_len f v r
      omega
end Sim


namespace Sim
open PySem PySem.Spec PyProof.Rows L2
/-! ### the levels' data, told fast -/
def lookP (ps : List (List Int × Int)) (k : List Int) : Option Int := (ps.find? fun p => decide (p.1 = k)).map (·.2)
theorem lookP_any (ps : List (List Int × Int)) (k : List Int) : (ps.any fun p => decide (p.1 = k)) = (lookP ps k).isSome := by
  unfold lookP
  induction ps with
  | nil => rfl
  | cons p ps ih =>
    rw [List.any_cons, List.find?_cons]
    cases h : decide (p.1 = k) with
    | true => rfl
    | false => rw [Bool.false_or, ih]
theorem look_map (k : List Int) (v : Int) (j : List Int) : ∀ ps : List (List Int × Int), lookP (ps.map fun p => if p.1 = k then (p.1, v) else p) j = if j = k then (lookP ps j).map fun _ => v else lookP ps j
  | [] => by
    unfold lookP
    split <;> rfl
  | p :: ps => by
    have ih := look_map k v j ps
    unfold lookP at ih ⊢
    rw [List.map_cons, List.find?_cons, List.find?_cons]
    have e1 : (if p.1 = k then (p.1, v) else p).1 = p.1 := by split <;> rfl
    rw [e1]
    by_cases h : p.1 = j
    · rw [decide_eq_true h]
      by_cases hk : j = k
      · rw [if_pos hk, if_pos (h.trans hk)]
        rfl
      · rw [if_neg hk, if_neg fun e => hk (h.symm.trans e)]
    · rw [decide_eq_false h]
      exact ih
theorem look_app (ps : List (List Int × Int)) (k : List Int) (v : Int) (j : List Int) (h : lookP ps k = none) : lookP (ps ++ [(k, v)]) j = if j = k then some v else lookP ps j := by
  unfold lookP at h ⊢
  rw [List.find?_append]
  by_cases e : j = k
  · subst e
    rw [if_pos rfl]
    have h2 : ps.find? (fun p => decide (p.1 = j)) = none := by
      cases h3 : ps.find? (fun p => decide (p.1 = j)) with
      | none => rfl
      | some q =>
        rw [h3] at h
        cases h
    rw [h2]
    simp
  · rw [if_neg e]
    cases h3 : ps.find? (fun p => decide (p.1 = j)) with
    | none => simp [Ne.symm e]
    | some q => rfl
theorem look_put (ps : List (List Int × Int)) (k : List Int) (v : Int) (j : List Int) : lookP (putP ps k v) j = if j = k then some v else lookP ps j := by
  unfold putP
  rw [lookP_any]
  cases h : lookP ps k with
  | none =>
    rw [if_neg (by decide)]
    exact look_app ps k v j h
  | some w =>
    rw [if_pos (show (some w).isSome = true from rfl), look_map]
    by_cases e : j = k
    · rw [if_pos e, if_pos e, e, h]
      rfl
    · rw [if_neg e, if_neg e]
theorem cast_mod (k u n : Nat) : (k : Int) * (u : Int) % (n : Int) = ((k * u % n : Nat) : Int) := by
  rw [Int.natCast_emod, Int.natCast_mul]
/-- a fold that is worked out turn by turn -/
def sfold (f : Nat → Nat → Nat) : Nat → Nat → Nat → Nat
  | 0, _, S => S
  | m + 1, i, S => match f S i with
    | 0 => sfold f m (i + 1) 0
    | s + 1 => sfold f m (i + 1) (s + 1)
theorem sfold_one (f : Nat → Nat → Nat) (m i S : Nat) : sfold f (m + 1) i S = sfold f m (i + 1) (f S i) := by
  show (match f S i with | 0 => sfold f m (i + 1) 0 | s + 1 => sfold f m (i + 1) (s + 1)) = _
  cases f S i <;> rfl
theorem sfold_eq (f : Nat → Nat → Nat) : ∀ m i S : Nat, sfold f m i S = (List.range' i m).foldl f S
  | 0, _, _ => rfl
  | m + 1, i, S => by
    rw [sfold_one, sfold_eq f m (i + 1), List.range'_succ]
    rfl
theorem sfold_range (f : Nat → Nat → Nat) (m S : Nat) : sfold f m 0 S = (List.range m).foldl f S := by
  rw [sfold_eq, List.range_eq_range']
/-- the seen pairs as a number's binary digits, the count beside -/
def bTake (n : Nat) (T : List Nat) (u v M : Nat) : Nat := T.foldl (fun M k => M ||| 2 ^ ((k * u % n) * n + k * v % n)) M
def bStep (n : Nat) (T : List Nat) (u S v : Nat) : Nat := if (Nat.gcd (Nat.gcd u v) n == 1 && !((S / 4096).testBit (u * n + v))) = true then bTake n T u v (S / 4096) * 4096 + (S % 4096 + 1) else S
def bRow (n : Nat) (T : List Nat) (S u : Nat) : Nat := sfold (bStep n T u) n 0 S
def bAll (n : Nat) (T : List Nat) : Nat := sfold (bRow n T) n 0 0
def fT (n : Nat) : List Nat := ((List.range n).map (· + 1)).filter fun k => Nat.gcd k n == 1
def bEnd (n : Nat) : Nat := bAll n (fT n)
structure BRel (n : Nat) (s : List (Int × Int) × List (List Int × Int)) (S : Nat) : Prop where
  c : S % 4096 = s.1.length
  at_ : ∀ a b : Nat, a < n → b < n → (lookP s.2 [(a : Int), (b : Int)]).isSome = (S / 4096).testBit (a * n + b)
theorem enc_inj {n a b c d : Nat} (hb : b < n) (hd : d < n) (h : a * n + b = c * n + d) : a = c ∧ b = d := by
  have h0 : 0 < n := by omega
  have e1 : (a * n + b) / n = a := by rw [Nat.add_comm, Nat.add_mul_div_right _ _ h0, Nat.div_eq_of_lt hb, Nat.zero_add]
  have e2 : (c * n + d) / n = c := by rw [Nat.add_comm, Nat.add_mul_div_right _ _ h0, Nat.div_eq_of_lt hd, Nat.zero_add]
  have e3 : a = c := by rw [← e1, h, e2]
  subst e3
  exact ⟨rfl, by omega⟩
theorem bTake_rel {n : Nat} (hn : 0 < n) {i : Int} {u v : Nat} : ∀ (T : List Nat) (ps : List (List Int × Int)) (M : Nat), (∀ a b : Nat, a < n → b < n → (lookP ps [(a : Int), (b : Int)]).isSome = M.testBit (a * n + b)) →
    ∀ a b : Nat, a < n → b < n → (lookP (takeP n (T.map fun (k : Nat) => (k : Int)) i u v ps) [(a : Int), (b : Int)]).isSome = (bTake n T u v M).testBit (a * n + b)
  | [], ps, M, h2 => h2
  | k :: T, ps, M, h2 => by
    refine bTake_rel hn T (putP ps [(k : Int) * u % n, (k : Int) * v % n] i) (M ||| 2 ^ ((k * u % n) * n + k * v % n)) fun a b ha hb => ?_
    rw [look_put, Nat.testBit_or, Nat.testBit_two_pow, cast_mod, cast_mod]
    by_cases e : a = k * u % n ∧ b = k * v % n
    · rw [if_pos (by rw [e.1, e.2]), e.1, e.2, decide_eq_true rfl, Bool.or_true]
      rfl
    · rw [if_neg fun q => e (by
        injection q with q1 q2
        injection q2 with q2 _
        exact ⟨by exact_mod_cast q1, by exact_mod_cast q2⟩), h2 a b ha hb, decide_eq_false fun q => e (by
        obtain ⟨q1, q2⟩ := enc_inj (Nat.mod_lt _ hn) hb q
        exact ⟨q1.symm, q2.symm⟩), Bool.or_false]
theorem bStep_rel {n : Nat} (hn : 0 < n) {T : List Nat} {s : List (Int × Int) × List (List Int × Int)} {S : Nat} (r : BRel n s S) (hl : s.1.length < 4000) {u v : Nat} (hu : u < n) (hv : v < n) : BRel n (lvStep n (T.map fun (k : Nat) => (k : Int)) s u v) (bStep n T u S v) := by
  have eg : decide (Int.gcd (Int.gcd (u : Int) (v : Int) : Nat) (n : Int) = 1) = (Nat.gcd (Nat.gcd u v) n == 1) := by
    show decide (Nat.gcd (Nat.gcd u v) n = 1) = _
    by_cases h : Nat.gcd (Nat.gcd u v) n = 1
    · rw [decide_eq_true h, h]; rfl
    · rw [decide_eq_false h]; simp [h]
  have eo : lvOk n u v s.2 = (Nat.gcd (Nat.gcd u v) n == 1 && !((S / 4096).testBit (u * n + v))) := by
    unfold lvOk
    rw [eg, lookP_any, r.at_ u v hu hv]
  unfold lvStep bStep
  rw [eo]
  split
  · have hc := r.c
    have e1 : (bTake n T u v (S / 4096) * 4096 + (S % 4096 + 1)) % 4096 = S % 4096 + 1 := by omega
    have e2 : (bTake n T u v (S / 4096) * 4096 + (S % 4096 + 1)) / 4096 = bTake n T u v (S / 4096) := by omega
    refine ⟨?_, fun a b ha hb => ?_⟩
    · rw [e1, hc]
      show _ = (s.1 ++ [((u : Int), (v : Int))]).length
      rw [List.length_append]
      rfl
    · rw [e2]
      exact bTake_rel hn T s.2 (S / 4096) r.at_ a b ha hb
  · exact r
theorem bRow_rel {n : Nat} (hn : 0 < n) {T : List Nat} {s : List (Int × Int) × List (List Int × Int)} {S : Nat} (r : BRel n s S) (hl : s.1.length + n < 4000) {u : Nat} (hu : u < n) : ∀ m : Nat, m ≤ n → BRel n (lvRow n (T.map fun (k : Nat) => (k : Int)) s u m) ((List.range m).foldl (bStep n T u) S)
  | 0, _ => r
  | m + 1, h => by
    have ih := bRow_rel hn r hl hu m (by omega) (T := T)
    have hl2 := (lvRow_len n (T.map fun (k : Nat) => (k : Int)) s u m).1
    rw [lvRow_succ, List.range_succ, List.foldl_append]
    exact bStep_rel hn ih (by omega) hu (by omega)
theorem bAll_rel {n : Nat} (hn : 0 < n) (h48 : n ≤ 48) {T : List Nat} : ∀ m : Nat, m ≤ n → BRel n (lvAll n (T.map fun (k : Nat) => (k : Int)) m) ((List.range m).foldl (bRow n T) 0)
  | 0, _ => ⟨rfl, fun a b _ _ => by
    show (lookP [] [(a : Int), (b : Int)]).isSome = (0 / 4096).testBit (a * n + b)
    rw [Nat.zero_div, Nat.zero_testBit]
    rfl⟩
  | m + 1, h => by
    have ih := bAll_rel hn h48 (T := T) m (by omega)
    have hl := (lvAll_len n (T.map fun (k : Nat) => (k : Int)) m).1
    rw [Int.toNat_natCast] at hl
    have hm : m * n ≤ 47 * 48 := Nat.mul_le_mul (by omega) h48
    rw [lvAll_succ, List.range_succ, List.foldl_append, Int.toNat_natCast]
    show BRel n _ (bRow n T _ m)
    unfold bRow
    rw [sfold_range]
    exact bRow_rel hn ih (by omega) (by omega) n (Nat.le_refl n)
theorem fT_is (n : Nat) : lvT n = (fT n).map fun (k : Nat) => (k : Int) := by
  unfold lvT fT
  rw [Int.toNat_natCast]
  generalize List.range n = l
  induction l with
  | nil => rfl
  | cons k l ih =>
    rw [List.map_cons, List.map_cons, List.filter_cons, List.filter_cons]
    have e : decide (Int.gcd (1 + (k : Int)) (n : Int) = 1) = (Nat.gcd (k + 1) n == 1) := by
      have e1 : (1 + (k : Int)) = ((k + 1 : Nat) : Int) := by omega
      rw [e1]
      show decide (Nat.gcd (k + 1) n = 1) = _
      by_cases h : Nat.gcd (k + 1) n = 1
      · rw [decide_eq_true h, h]; rfl
      · rw [decide_eq_false h]; simp [h]
    rw [e]
    split
    · rw [List.map_cons, ih]
      congr 1
      omega
    · exact ih
theorem bEnd_rel {n : Nat} (hn : 0 < n) (h48 : n ≤ 48) : BRel n (lvEnd n) (bEnd n) := by
  unfold lvEnd bEnd bAll
  rw [fT_is, Int.toNat_natCast, sfold_range]
  exact bAll_rel hn h48 n (Nat.le_refl n)
end Sim

namespace Sim
open PySem PySem.Spec PyProof.Rows L2
/-! ### errors of the text's own classes -/
structure ExcIs (K : PySem.W.Frag) (mg : Str → Option Value) (x : Str) (C : Addr) : Prop where
  mgC : mg x = some (.ref C)
  xC : PySem.W.excIn K C [.type "ValueError", .type "Exception", .type "BaseException", .type "object"] "ValueError.__new__" = true
  kC : PySem.W.keepIn K (.ref C) = true
  bC : PySem.W.subIn K (.ref C) (.type "BaseException") = some true
  tC : PySem.W.typeIn K (.ref C) = some (.type "type")
  ec : ExcC K C
section
variable {cv : Nat → Value} {X : Cx} {W : WX} {x m : Str} {C : Addr} {p p2 pos pos2 : Pos} {c j : Nat}
theorem sns_raiseOwn (I : ExcIs X.K X.mg x C) (hcv : cv c = .ref C) (hc : X.calm = true) (tk : Takes X W) (hg : Gl X x) (hdb : (x == ("__debug__" : Str)) = false := by decide) :
    SndS cv X W (.Raise (some (.Call (.Name x p) [.Constant (.str m) j p2] [] pos2)) none pos) (fun _ σ H => W (cv c) none σ H) (sRaise c) [] :=
  sns_raise hc tk (by rw [hcv]; exact pmk_own PySem.F.excBase_ValueError I.xC I.mgC I.kC (raises_own I.bC I.tC) hg hdb)
end

/-! ### a def called where an error is handled: it sees the error, and raises nothing -/
structure FnX (P : Program) (w : World) (K : PySem.W.Frag) (mg : Str → Option Value) (base : Heap) (CX : CXT) (k : Nat) (f : Addr) (fd : FuncData) (ps : List Str) (cls : Value) (sp : Addr → Sp) : Prop where
  len : ∀ a vs H Q E, sp a vs H Q E → vs.length = ps.length
  run : ∀ (A : Around) (outer : List Env) (s : Shared) (H : Hp) (args : Args) (us : List Value) (vs : List V) (Q : VK) (E : XK) (p : Addr × Obj), L2H.RoomH k A → Zc cls none p.2 → (∃ vs, p.2.data = .fields vs) → L2H.PinOk outer H s p → Env0 P w K mg base A outer s H → BindsTo s fd args (ps.zip us) → Vals vs us → sp p.1 vs H Q E →
    codeAny (model P w) A (.call (.ref f) args) (L2.CR CX outer P w H s Q E) s
section
variable {P : Program} {w' : World} {K : PySem.W.Frag} {mg : Str → Option Value} {base : Heap} {cv : Nat → Value}
theorem fn_okX {x qual : Str} {st : Stmt} {f : Addr} {fd : FuncData} {N ps : List Str} {k n : Nat} {cls : Value} {Φ : Addr → List D → Option CR} {m : Addr → SM} {w : List Nat} (G : Fun K x qual st f fd) (S : FnScope N ps (defScope st)) (hn : ps.length = n)
    (body : ∀ (cdv : Value) (A : Around) (outer : List Env) (s : Shared) (H : Hp) (E : XK) (p : Addr × Obj), L2H.RoomH k (A.deeper (envOfC qual (defScope st) s.heap.objs.size f cdv)) → Zc cls none p.2 → (∃ vs, p.2.data = .fields vs) →
      ∃ t, SndSs cv (L2H.cxH (L2.CX P w') P w' K mg base N qual (defScope st) f cdv A outer s H E p) (fun cls d _ H => E cls d H) (defBody st) t (m p.1) w)
    (run : ∀ a ds res, Φ a ds = some res → runB none N.length (m a) ds = some res) : FnX P w' K mg base (L2.CX P w') (k + 1) f fd ps cls (fun a => spI cv K n none (Φ a)) := by
  obtain ⟨oc, od, kV, doc, pm, an, cdv, ct, osl, rfl, lk, hcd⟩ := G.ex
  refine ⟨fun a vs H Q E h => h.1.trans hn.symm, fun A outer s H args us vs Q E p hr hz hf hpin e0 hb r hsp => ?_⟩
  have hl : vs.length = ps.length := hsp.1.trans hn.symm
  have KX : K.In s.heap := e0.mod.kin.keeps fun b o e => (e0.bs b o e).1
  have lim : s.heap.NoLimit := e0.mod.nolimit.keeps fun b o e => (e0.bs b o e).1
  have hkind : ∀ y ∈ ps.zip us, (defScope st).names.lookup y.1 = some .local ∨ ((defScope st).names.lookup y.1 = some .cell ∧ ((cellsFrom (s.heap.objs.size + 1) (defScope st).names []).lookup y.1).isSome = true) := fun ⟨n, v⟩ hy => by
    rcases S.par n (List.of_mem_zip hy).1 with q | q
    · exact .inl q
    · exact .inr ⟨q, PySem.W.cellsFrom_some _ _ _ (.inl q)⟩
  refine codeAny_call_function hr.depth (KX _ _ lk) rfl S.co S.gen rfl (PySem.W.codeRec_of KX hcd) (hb _ _ _ _ ?_)
  refine wpAny_newFunctionEnv_cells S.kind hkind fun env he s1 xx => ?_
  subst he
  refine ⟨lim.keeps xx.toInCall.keep, codeAny_func ?_⟩
  obtain ⟨t, b⟩ := body cdv A outer s H E p (hr.deeper _) hz hf
  have I : Inv (L2H.cxH (L2.CX P w') P w' K mg base N qual (defScope st) f cdv A outer s H E p) [] (L2.start N vs) H s1 := L2H.inv_startH S hpin e0 hl r xx
  have hq := ends_of (io := none) (W := fun cls d _ H => E cls d H) (fun _ _ _ _ h => h) (fun i h => nomatch h) b.ad (run p.1) hsp
  refine wpAny_mono (b.ps.run [] s1 (L2.start N vs) H _ I hq) (fun fl s' hs => ?_) fun e s' hs => hs
  have fin : ∀ {σ' : L2.St} {H' : Hp} {v : V} {u : Value}, Inv (L2H.cxH (L2.CX P w') P w' K mg base N qual (defScope st) f cdv A outer s H E p) [] σ' H' s' → L2.RelV v u → Q v H' → CE outer P w' H s Q u s' :=
    fun {σ' H' v u} J rv q => ⟨v, H', J.os, J.bare, J.base, J.hok, rv, q⟩
  cases fl with
  | ret u =>
    obtain ⟨v, σ', H', J, rv, q⟩ := hs
    exact fin J rv q
  | next =>
    obtain ⟨σ', H', J, q⟩ := hs
    exact fin (v := V.non) (u := Value.none) J rfl q
  | brk =>
    obtain ⟨_, _, _, q⟩ := hs
    exact False.elim q
  | cont =>
    obtain ⟨_, _, _, q⟩ := hs
    exact False.elim q
end
section
variable {X : Cx} {CX : CXT} {k : Nat} {f : Addr} {fd : FuncData} {ps : List Str} {cls : Value} {sp : Addr → Sp} {E : L2.St → XK} {x : Str} {q pos : Pos} {e : Expr} {es : List Expr} {t : TA} {pe : Addr × Obj}
theorem run_fnX {pins : List (Addr × Obj)} {σ : L2.St} {H : Hp} {s : Shared} {Q : VK} {us : List Value} {vs : List V} (F : FnX X.prog X.w X.K X.mg X.base CX k f fd ps cls sp) (hr : L2H.RoomH k X.A) (hp : pe ∈ X.pn) (hz : Zc cls none pe.2) (hf : ∃ vs, pe.2.data = .fields vs) (hb : Binds X.K fd ps []) (hx : PassesAt CX X σ (E σ))
    (I : Inv X pins σ H s) (r : Vals vs us) (h : sp pe.1 vs H Q (E σ)) : wpAny (model X.prog X.w) X.A (call (.ref f) us) (EP X pins σ Q) X.xe s := by
  have hl : us.length = ps.length := by rw [← r.length]; exact F.len _ _ _ _ _ h
  have b := hb s us I.kIn (by rw [List.append_nil]; exact hl)
  rw [List.append_nil] at b
  have P1 := I.pin pe (List.mem_append_left _ hp)
  have hpin : L2H.PinOk X.stack H s pe := ⟨P1.1, P1.2.1, fun hm => (List.mem_cons.mp (I.stkSub pe.1 hm)).elim P1.2.2.1 P1.2.2.2.1, P1.2.2.2.2⟩
  refine wpAny_call (codeAny_mono (F.run X.A X.stack s H ⟨us, []⟩ us vs Q (E σ) pe hr hz hf hpin I.env0 b r h) fun r s' hq => ?_)
  cases r with
  | error e => exact hx pins H s e s' I hq
  | ok fl =>
    cases fl with
    | ret u => exact I.after hq
    | next => exact False.elim hq
    | brk => exact False.elim hq
    | cont => exact False.elim hq
theorem pe_callX (F : FnX X.prog X.w X.K X.mg X.base CX k f fd ps cls sp) (hr : L2H.RoomH k X.A) (hp : pe ∈ X.pn) (hz : Zc cls none pe.2) (hf : ∃ vs, pe.2.data = .fields vs) (hg : Gl X x) (hm : X.mg x = some (.ref f)) (hk : PySem.W.keepIn X.K (.ref f) = true) (hb : Binds X.K fd ps []) (hx : ∀ σ, PassesAt CX X σ (E σ))
    (ha : PA X (e :: es) t) (hdb : (x == ("__debug__" : Str)) = false := by decide) (he : starEach (e :: es) X.env = (false, eval e X.env) :: starEach es X.env := by rfl) (hpl : (backTo pos (starEach es X.env)).any (·.1) = false := by rfl) :
    PE X (.Call (.Name x q) (e :: es) [] pos) (tCallS (sp pe.1) E t) := by
  refine ⟨fun pins s σ H Q I h => ?_⟩
  refine wpAny_Call_Name_kw (ld_glob I hg hm ?_ hdb)
  refine PySem.W.callWith_K (h₀ := X.base) I.ok.mod.kin hk (thn (ha.run pos pins s σ H _ I h) fun us s1 ⟨vs, H1, I1, r, q⟩ => ⟨I1.kIn, ?_⟩) he hpl
  exact run_fnX F hr hp hz hf hb (hx σ) I1 r q
end
section
variable {cv : Nat → Value} {X : Cx} {W : WX} {e : Expr} {es : List Expr} {ts : TA} {fs : M (List Op)} {pos p pt : Pos} {pe : Addr × Obj}
theorem snd_callX {n k : Nat} {Φ : Addr → List D → Option CR} {f : Addr} {fd : FuncData} {ps : List Str} {x : Str} {cls : Value} (G : FnX X.prog X.w X.K X.mg X.base (L2.CX X.prog X.w) k f fd ps cls (fun a => spI cv X.K n none (Φ a))) (hr : L2H.RoomH k X.A) (hp : pe ∈ X.pn) (hz : Zc cls none pe.2) (hf : ∃ vs, pe.2.data = .fields vs) (hg : Gl X x) (hm : X.mg x = some (.ref f))
    (hk : PySem.W.keepIn X.K (.ref f) = true) (hb : Binds X.K fd ps []) (tk : Takes X W) (ha : SndA cv X W (e :: es) ts fs) (hdb : (x == ("__debug__" : Str)) = false := by decide)
    (he : starEach (e :: es) X.env = (false, eval e X.env) :: starEach es X.env := by rfl) (hpl : (backTo pos (starEach es X.env)).any (·.1) = false := by rfl) :
    SndE cv X W (.Call (.Name x p) (e :: es) [] pos) (tCallS (spI cv X.K n none (Φ pe.1)) (WE W) ts) (vCall n none (Φ pe.1) fs) := by
  refine ⟨pe_callX G hr hp hz hf hg hm hk hb (fun σ => passAt tk σ) ha.pa hdb he hpl, fun F B H σ ρ Q R q => ?_⟩
  refine ha.ad F B H σ ρ _ R (wpm_mono (wpm_bnd q) (fun os ρ1 q vs B1 H1 R1 sm1 ov => ?_) fun _ _ q => q)
  unfold wpm at q
  by_cases hl : os.length = n
  · simp only [if_pos hl] at q
    exact adm_callM R1 ov hl (wpm_mono (m := callM none (Φ pe.1) os) q (fun a ρ' q v B' H' R' sm rv => q v B' H' R' (sm1.trans sm) rv) fun c ρ' q B' H' R' sm => q B' H' R' (sm1.trans sm))
  · simp only [if_neg hl] at q
/-- isinstance of the handled error -/
theorem call_isX {D : Addr} (C : ExcC X.K D) (hp : pe ∈ X.pn) (hz : Zc (.ref D) none pe.2) (hf : ∃ vs, pe.2.data = .fields vs) : CallR X (.builtin "isinstance") (rIsE X.K D pe.1) := by
  intro pins s σ H xs us Q I r h
  obtain ⟨c, cv, b, rfl, hcv, e, q⟩ := h
  cases r with
  | cons rx rr =>
    cases rr with
    | cons rt rr =>
      cases rr
      cases rx
      have ec := hcv _ rt
      subst ec
      obtain ⟨hget, _⟩ := I.pin pe (List.mem_append.mpr (.inl hp))
      obtain ⟨vs, hv⟩ := hf
      have J : PySem.W.InstAt s.heap pe.1 pe.2 D none := by
        obtain ⟨a, oc, od, oda, osl⟩ := pe
        obtain ⟨h1, h2⟩ := hz
        dsimp only at h1 h2 hv
        subst h1 h2 hv
        exact ⟨hget, rfl, rfl, trivial⟩
      exact PySem.W.kia_one (PySem.W.handS_kitx_exc C.hg C.hk C.hs C.hd C.ha C.hn C.ht C.hm) I.kIn J e (fun z => nomatch z) fun tk => ⟨.bl b, H, I.kept (t' := tk) fun _ _ z => z, rfl, q⟩
open Classical in
noncomputable def vIsX (ad : Addr) (b : Bool) (a : M Op) : M SV := bnd a fun o ρ => if get ρ o = some (.adr ad) then some (.ok (.sh (.bl b)) ρ) else none
theorem snd_isX {D : Addr} {x : Str} {a : Expr} {ta : TE} {fa : M Op} {cvl : V} {u : Value} {b : Bool} {pp : Pos} (C : ExcC X.K D) (hp : pe ∈ X.pn) (hz : Zc (.ref D) none pe.2) (hf : ∃ vs, pe.2.data = .fields vs) (hgi : Gl X "isinstance") (hmi : X.mg "isinstance" = none)
    (hc : PE X (.Name x pt) (tC cvl)) (hu : ∀ v, RelV cvl v → v = u) (hk : PySem.W.kitOne X.K (.ref D) u = some b) (ha : SndO cv X W a ta fa)
    (he : starEach [a, .Name x pt] X.env = (false, eval a X.env) :: starEach [.Name x pt] X.env := by rfl) (he1 : starEach [.Name x pt] X.env = (false, eval (.Name x pt) X.env) :: starEach [] X.env := by rfl)
    (hpl : (backTo pos (starEach [.Name x pt] X.env)).any (·.1) = false := by rfl) :
    SndE cv X W (.Call (.Name "isinstance" pp) [a, .Name x pt] [] pos) (tCB (rIsE X.K D pe.1) (tCons ta (tCons (tC cvl) tNil))) (vIsX pe.1 b fa) := by
  refine ⟨pe_callB (call_isX C hp hz hf) hgi hmi boot_isinstance (pa_cons ha.pe (pa_cons hc pa_nil he1) he) (by decide) (by decide) he hpl, fun F B H σ ρ Q R q => ?_⟩
  refine ha.ad F B H σ ρ _ R (wpm_mono (wpm_bnd q) (fun o ρ1 q v B1 H1 R1 sm1 ov => ?_) fun _ _ q => q)
  unfold wpm at q
  by_cases e1 : get ρ1 o = some (.adr pe.1)
  · simp only [if_pos e1] at q
    have ev : v = .ref pe.1 := by
      have r := ov.rep R1 e1
      cases r with
      | sh r =>
        cases r
        rfl
      | @own a o xs c _ hB hH hO r e => cases c <;> cases e
    subst ev
    exact ⟨cvl, u, b, rfl, hu, hk, q _ B1 H1 R1 sm1 (.sh (.bl b))⟩
  · simp only [if_neg e1] at q
end
end Sim

namespace Sim
open PySem PySem.Spec PyProof.Rows L2
/-! ### try: .. except X as e: .. -/
def dropE (i : Nat) : Option SO → Option SO
  | some (.nx ρ) => some (.nx (ρ.set i none))
  | some (.rt sv ρ) => some (.rt sv (ρ.set i none))
  | some (.bk ρ) => some (.bk (ρ.set i none))
  | some (.ct ρ) => some (.ct (ρ.set i none))
  | _ => none
def sufE (i : Nat) (n : Addr → SM) (ρ : Sl) (a : Addr) : Option SO := dropE i (n a (ρ.set i (some (.sh (.adr a)))))
open Classical in
noncomputable def exTry (cs : List Nat) (i : Nat) (n : Nat → Addr → SM) : Option SO → Option SO
  | some (.ex c ρ) => if c ∈ cs ∧ i < ρ.length ∧ ∀ a, sufE i (n c) ρ a = sufE i (n c) ρ 0 then sufE i (n c) ρ 0 else none
  | o => o
noncomputable def sTry (m : SM) (cs : List Nat) (i : Nat) (n : Nat → Addr → SM) : SM := fun ρ => exTry cs i n (m ρ)
theorem e_try {cs : List Nat} {i c : Nat} {n : Nat → Addr → SM} {ρ : Sl} {r : Option SO} (hc : c ∈ cs) (hi : i < ρ.length) (h : ∀ a, sufE i (n c) ρ a = r) : exTry cs i n (some (.ex c ρ)) = r := by
  have e : exTry cs i n (some (.ex c ρ)) = sufE i (n c) ρ 0 := by
    unfold exTry
    exact if_pos ⟨hc, hi, fun a => (h a).trans (h 0).symm⟩
  exact e.trans (h 0)
section
variable {K : PySem.W.Frag} {F B H : Hp} {σ : L2.St} {ρ : Sl} {i : Nat}
theorem Rel.unset (R : Rel K F B H σ ρ) : Rel K F B H (σ.set i none) (ρ.set i none) := by
  refine ⟨R.exB, R.exF, R.dis, by rw [List.length_set, List.length_set]; exact R.len, fun j s h => ?_, fun j k a h1 h2 => ?_⟩
  · by_cases e : i = j
    · subst e
      by_cases hi : i < ρ.length
      · rw [List.getElem?_set_self hi] at h
        cases h
      · rw [List.getElem?_eq_none (by rw [List.length_set]; omega)] at h
        cases h
    · rw [List.getElem?_set_ne e] at h
      rw [List.getElem?_set_ne e]
      exact R.slot j s h
  · have own : ∀ {j : Nat} {a : Addr}, Owns (σ.set i none) (ρ.set i none) j a → Owns σ ρ j a := fun {j a} o => by
      obtain ⟨⟨ds, h⟩, h2⟩ := o
      by_cases e : i = j
      · subst e
        by_cases hi : i < ρ.length
        · rw [List.getElem?_set_self hi] at h
          cases h
        · rw [List.getElem?_eq_none (by rw [List.length_set]; omega)] at h
          cases h
      · rw [List.getElem?_set_ne e] at h
        rw [List.getElem?_set_ne e] at h2
        exact ⟨⟨ds, h⟩, h2⟩
    exact R.sep j k a (own h1) (own h2)
theorem RV.unset {v : V} {sv : SV} (r : RV K F B H σ ρ v sv) : RV K F B H (σ.set i none) (ρ.set i none) v sv := by
  cases r with
  | sh r => exact .sh r
  | fr hF hB hH hO r no =>
    refine .fr hF hB hH hO r fun j o => ?_
    obtain ⟨⟨ds, h⟩, h2⟩ := o
    by_cases e : i = j
    · subst e
      by_cases hi : i < ρ.length
      · rw [List.getElem?_set_self hi] at h
        cases h
      · rw [List.getElem?_eq_none (by rw [List.length_set]; omega)] at h
        cases h
    · rw [List.getElem?_set_ne e] at h
      rw [List.getElem?_set_ne e] at h2
      exact no j ⟨⟨ds, h⟩, h2⟩
theorem Agr.set {w : List Nat} {σ1 : L2.St} {x : Option V} (h : Agr w σ σ1) : Agr (w ++ [i]) σ (σ1.set i x) := fun j hj => by
  rw [List.mem_append, not_or, List.mem_singleton] at hj
  rw [List.getElem?_set_ne (Ne.symm hj.2)]
  exact h j hj.1
end
section
variable {cv : Nat → Value} {X : Cx} {W : WX} {i : Nat} {m : SM} {n : Nat → Addr → SM} {w w' : List Nat} {cs : List Nat} {tb : WX → TS} {ts : Nat → Addr → TS} {x y : Str} {np pos pos' : Pos} {body suite : List Stmt} {b₀ : Stmt}
/-- what the suite wishes, by the class of the error -/
def tSuf (cv : Nat → Value) (cs : List Nat) (ts : Nat → Addr → TS) : Addr → Value → Option Addr → TS := fun a cls d D σ H => ∃ c, c ∈ cs ∧ cls = cv c ∧ d = none ∧ ts c a D σ H
theorem pss_suf {X' : Cx} {a : Addr} {cls : Value} {d : Option Addr} {sts : List Stmt} (h : ∀ c, c ∈ cs → cls = cv c → d = none → PSs X' sts (ts c a)) : PSs X' sts (tSuf cv cs ts a cls d) :=
  ⟨fun pins s σ H D I ⟨c, hc, h1, h2, q⟩ => (h c hc h1 h2).run pins s σ H D I q⟩
theorem adm_try {RE : Value} (hb : ∀ W, AdmS cv W X.K (tb W) m w) (hs : ∀ c a, c ∈ cs → AdmS cv (fun _ _ _ _ => False) X.K (ts c a) (n c a) w')
    (he : ∀ c, c ∈ cs → PySem.W.exmOne X.K (cv c) RE = some true) (Wout : WX) : AdmS cv W X.K (fun D σ H => tb (wAs X.K RE i (tSuf cv cs ts) Wout D) D σ H) (sTry m cs i n) (w ++ ([i] ++ (w' ++ [i]))) := by
  intro F B H σ ρ D R q
  refine hb (wAs X.K RE i (tSuf cv cs ts) Wout D) F B H σ ρ D R ?_
  have ml : ∀ {σ' : L2.St}, Agr w σ σ' → Agr (w ++ ([i] ++ (w' ++ [i]))) σ σ' := fun ag => ag.mono fun j h => List.mem_append_left _ h
  unfold sTry exTry at q
  cases e : m ρ with
  | none =>
    rw [e] at q
    exact q.elim
  | some o =>
    rw [e] at q
    cases o with
    | nx ρ1 => exact fun σ' B' H' R' sm ag => q σ' B' H' R' sm (ml ag)
    | rt sv ρ1 => exact fun v σ' B' H' R' sm ag rv => q v σ' B' H' R' sm (ml ag) rv
    | bk ρ1 => exact fun σ' B' H' R' sm ag => q σ' B' H' R' sm (ml ag)
    | ct ρ1 => exact fun σ' B' H' R' sm ag => q σ' B' H' R' sm (ml ag)
    | ex c ρ1 =>
      intro σ' B' H' R' sm ag
      by_cases hc : c ∈ cs ∧ i < ρ1.length ∧ ∀ a, sufE i (n c) ρ1 a = sufE i (n c) ρ1 0
      · obtain ⟨c1, c2, c3⟩ := hc
        simp only [if_pos (show c ∈ cs ∧ i < ρ1.length ∧ ∀ a, sufE i (n c) ρ1 a = sufE i (n c) ρ1 0 from ⟨c1, c2, c3⟩)] at q
        refine ⟨true, he c c1, fun _ a ha => ⟨c, c1, rfl, rfl, ?_⟩, fun z => nomatch z⟩
        rw [← c3 a] at q
        unfold sufE at q
        have R2 := R'.store (.sh (.adr a)) c2
        refine hs c a c1 F B' H' _ _ _ R2 ?_
        have ag2 : Agr (w ++ [i]) σ (σ'.set i (some (.ref a))) := ag.set
        have ag3 : ∀ {σ3 : L2.St}, Agr w' (σ'.set i (some (.ref a))) σ3 → Agr (w ++ ([i] ++ (w' ++ [i]))) σ (σ3.set i none) := fun {σ3} a3 => by
          have h := (ag2.trans a3).set (i := i) (x := none)
          exact h.mono fun j hj => by simpa [List.append_assoc] using hj
        cases e2 : n c a (ρ1.set i (some (.sh (.adr a)))) with
        | none =>
          rw [e2] at q
          exact q.elim
        | some o2 =>
          rw [e2] at q
          cases o2 with
          | nx ρ3 => exact fun σ3 B3 H3 R3 sm3 a3 => q _ B3 H3 R3.unset (sm.trans sm3) (ag3 a3)
          | rt sv ρ3 => exact fun v σ3 B3 H3 R3 sm3 a3 rv => q v _ B3 H3 R3.unset (sm.trans sm3) (ag3 a3) rv.unset
          | bk ρ3 => exact fun σ3 B3 H3 R3 sm3 a3 => q _ B3 H3 R3.unset (sm.trans sm3) (ag3 a3)
          | ct ρ3 => exact fun σ3 B3 H3 R3 sm3 a3 => q _ B3 H3 R3.unset (sm.trans sm3) (ag3 a3)
          | ex c' ρ3 => exact q.elim
      · simp only [if_neg hc] at q
        exact q.elim
theorem sns_try {RE : Value} (hst : X.stack = X.env :: X.outer) (hfr : X.env.frame = some X.env.locals) (hN : X.N.Nodup) (hi : X.N[i]? = some y) (hln : X.env.kindOf y = some .local) (hc : Names X x RE)
    (hb : ∀ (W : WX) (pn : List (Addr × Obj)) (xe : Value → Shared → Prop), Takes (X.tr pn xe) W → PassesOwn (model X.prog X.w) X.A X.env xe → PSs (X.tr pn xe) body (tb W)) (hbA : ∀ W, AdmS cv W X.K (tb W) m w)
    (hs : ∀ c, c ∈ cs → ∀ (a : Addr) (oe : Obj) (pn : List (Addr × Obj)), Zc (cv c) none oe → (∃ vs, oe.data = .fields vs) → PSs (X.suite a ((a, oe) :: pn)) (b₀ :: suite) (ts c a)) (hsA : ∀ c a, c ∈ cs → AdmS cv (fun _ _ _ _ => False) X.K (ts c a) (n c a) w')
    (he : ∀ c, c ∈ cs → PySem.W.exmOne X.K (cv c) RE = some true) :
    SndS cv X W (.Try body [.ExceptHandler (some (.Name x np)) (some y) (b₀ :: suite) pos'] [] [] pos) (fun D σ H => tb (wAs X.K RE i (tSuf cv cs ts) (fun _ _ _ _ => False) D) D σ H) (sTry m cs i n) (w ++ ([i] ++ (w' ++ [i]))) :=
  ⟨ps_try_as hst hfr hN hi hln hc takes0 hb (fun a oe cls d pn hz hf => pss_suf fun c hc h1 h2 => by
      subst h1 h2
      exact hs c hc a oe pn hz hf), adm_try hbA hsA he _⟩
end
end Sim

namespace Sim
open PySem PySem.Spec PyProof.Rows L2
section
variable {cv : Nat → Value} {X : Cx} {W : WX} {i : Nat} {m : SM} {n : Nat → Addr → SM} {w w' : List Nat} {cs : List Nat} {x y : Str} {np pos pos' : Pos} {body suite : List Stmt} {b₀ : Stmt}
/-- try, by the derivations of its two parts -/
theorem sns_try2 {RE : Value} {tb : WX → List (Addr × Obj) → (Value → Shared → Prop) → TS} {ts : Nat → Addr → Obj → List (Addr × Obj) → TS}
    (hst : X.stack = X.env :: X.outer) (hfr : X.env.frame = some X.env.locals) (hN : X.N.Nodup) (hi : X.N[i]? = some y) (hln : X.env.kindOf y = some .local) (hc : Names X x RE)
    (he : ∀ c, c ∈ cs → PySem.W.exmOne X.K (cv c) RE = some true)
    (hb : ∀ (W : WX) (pn : List (Addr × Obj)) (xe : Value → Shared → Prop), Takes (X.tr pn xe) W → SndSs cv (X.tr pn xe) W body (tb W pn xe) m w)
    (hs : ∀ c, c ∈ cs → ∀ (a : Addr) (oe : Obj) (pn : List (Addr × Obj)), Zc (cv c) none oe → (∃ vs, oe.data = .fields vs) → SndSs cv (X.suite a ((a, oe) :: pn)) (fun _ _ _ _ => False) (b₀ :: suite) (ts c a oe pn) (n c a) w')
    (rb : ∀ W pn xe, tb W pn xe = tb W [] (fun _ _ => True) := by intros; rfl) (rs : ∀ c a oe pn, ts c a oe pn = ts c a ⟨cv c, none, .fields #[], #[]⟩ [] := by intros; rfl) :
    SndS cv X W (.Try body [.ExceptHandler (some (.Name x np)) (some y) (b₀ :: suite) pos'] [] [] pos) (fun D σ H => tb (wAs X.K RE i (tSuf cv cs fun c a => ts c a ⟨cv c, none, .fields #[], #[]⟩ []) (fun _ _ _ _ => False) D) [] (fun _ _ => True) D σ H) (sTry m cs i n) (w ++ ([i] ++ (w' ++ [i]))) :=
  sns_try (tb := fun W => tb W [] (fun _ _ => True)) (ts := fun c a => ts c a ⟨cv c, none, .fields #[], #[]⟩ []) hst hfr hN hi hln hc
    (fun W pn xe tk _ => by
      rw [← rb W pn xe]
      exact (hb W pn xe tk).ps)
    (fun W => (hb W [] (fun _ _ => True) fun _ _ _ => trivial).ad)
    (fun c hc a oe pn hz hf => by
      rw [← rs c a oe pn]
      exact (hs c hc a oe pn hz hf).ps)
    (fun c a hc => (hs c hc a ⟨cv c, none, .fields #[], #[]⟩ [] ⟨rfl, rfl⟩ ⟨_, rfl⟩).ad) he
end
theorem roomH_mark {k : Nat} {A : Around} {v : Option Value} (r : Room k A) : L2H.RoomH k (A.mark v) := ⟨r.dp, r.un⟩
theorem all_nil {P : Nat → Prop} : ∀ c, c ∈ ([] : List Nat) → P c := fun _ h => nomatch h
theorem all_cons {P : Nat → Prop} {a : Nat} {l : List Nat} (h : P a) (t : ∀ c, c ∈ l → P c) : ∀ c, c ∈ a :: l → P c := fun c hc => by
  rcases List.mem_cons.mp hc with rfl | hc
  · exact h
  · exact t c hc
section
variable {cv : Nat → Value} {dv : Nat → Addr} {X : Cx} {W : WX} {pos pt pp : Pos} {pe : Addr × Obj} {cs : List Nat} {c : Nat} {p : Nat → Bool}
/-- isinstance of the handled error, its class told by its number -/
theorem snd_isXK {x : Str} {a : Expr} {ta : TE} {fa : M Op} {cvl : V} {u : Value} (hcv : ∀ c, cv c = .ref (dv c)) (hcs : c ∈ cs) (ec : ∀ c, c ∈ cs → ExcC X.K (dv c)) (hp : pe ∈ X.pn) (hz : Zc (cv c) none pe.2) (hf : ∃ vs, pe.2.data = .fields vs) (hgi : Gl X "isinstance") (hmi : X.mg "isinstance" = none)
    (hc : PE X (.Name x pt) (tC cvl)) (hu : ∀ v, RelV cvl v → v = u) (hk : ∀ c, c ∈ cs → PySem.W.kitOne X.K (.ref (dv c)) u = some (p c)) (ha : SndO cv X W a ta fa)
    (he : starEach [a, .Name x pt] X.env = (false, eval a X.env) :: starEach [.Name x pt] X.env := by rfl) (he1 : starEach [.Name x pt] X.env = (false, eval (.Name x pt) X.env) :: starEach [] X.env := by rfl)
    (hpl : (backTo pos (starEach [.Name x pt] X.env)).any (·.1) = false := by rfl) :
    SndE cv X W (.Call (.Name "isinstance" pp) [a, .Name x pt] [] pos) (tCB (rIsE X.K (dv c) pe.1) (tCons ta (tCons (tC cvl) tNil))) (vIsX pe.1 (p c) fa) :=
  snd_isX (ec c hcs) hp (by rw [← hcv c]; exact hz) hf hgi hmi hc hu (hk c hcs) ha he he1 hpl
end
section
variable {K : PySem.W.Frag} {h : Heap} {mg : Str → Option Value} {x : Str} {C : Addr} {R : Prop}
theorem with_exc (X : K.In h) (G : h.Ns mainGlobals mg) (a : PySem.W.nsIn K mainGlobals x = some (some (.ref C))) (q : PySem.W.excIn K C [.type "ValueError", .type "Exception", .type "BaseException", .type "object"] "ValueError.__new__" = true) (kC : PySem.W.keepIn K (.ref C) = true)
    (bC : PySem.W.subIn K (.ref C) (.type "BaseException") = some true) (tC : PySem.W.typeIn K (.ref C) = some (.type "type")) (hg : PySem.W.findIn K (.ref C) "__getattribute__" = some (some (.builtin "BaseException.__getattribute__"))) (hk : PySem.W.findIn K (.ref C) "__getattr__" = some none)
    (hd : PySem.W.hasDictIn K C = true) (ha : PySem.W.findIn K (.ref C) "__class__" = some (some (.builtin "object.__class__"))) (hn : PySem.W.specialIn K (.builtin "object.__class__") "__get__" = some (some (.builtin "getset_descriptor.__get__"))) (ht : PySem.W.takesIn K (.builtin "object.__class__") = some true)
    (hm : PySem.W.mroIn K C (.type "object") = some true) (n : ExcIs K mg x C → R) : R :=
  n ⟨PySem.W.mg_of X G a, q, kC, bC, tC, ⟨hg, hk, bC, hd, ha, hn, ht, hm⟩⟩
end
end Sim

namespace Sim
open PySem PySem.Spec PyProof.Rows L2
theorem unitsH {k : Nat} {A : Around} (r : L2H.RoomH k A) : A.units + 64 < cLine := by have := r.un; omega
/-! ### list.index of a truth -/
def gIdB : D → List D → Option SV
  | .lst l, [.bl b] => (blL l).bind fun bs => if b ∈ bs then some (.sh (.int ((bs.idxOf b : Nat) : Int))) else none
  | _, _ => none
theorem rep_bls {K : PySem.W.Frag} {H : Hp} : ∀ {bs : List Bool} {xs : List V}, RepL K H xs (bs.map D.bl) → xs = bs.map V.bl
  | [], _, .nil => rfl
  | b :: bs, _, .cons r t => by
    cases r
    rw [rep_bls t]
    rfl
theorem idx_least {b : Bool} : ∀ {bs : List Bool} {m : Nat} {x : Bool}, m < bs.idxOf b → bs[m]? = some x → (x == b) = false
  | [], m, x, _, h => by simp at h
  | c :: bs, m, x, hm, h => by
    rw [List.idxOf_cons] at hm
    by_cases e : (c == b) = true
    · rw [e] at hm
      simp at hm
    · have e' : (c == b) = false := Bool.eq_false_iff.mpr e
      rw [e'] at hm
      cases m with
      | zero =>
        simp at h
        subst h
        exact e'
      | succ m =>
        exact idx_least (bs := bs) (m := m) (by simpa using hm) (by simpa using h)
theorem ok_idB {K : PySem.W.Frag} : OkP K (rIndex K) gIdB := by
  intro F B H σ ρ x xs dx ds sv Q R hx hxs hg q
  unfold gIdB at hg
  split at hg
  · rename_i l b
    cases e : blL l with
    | none =>
      rw [e] at hg
      cases hg
    | some bs =>
      rw [e, Option.bind_some] at hg
      split at hg
      · rename_i hb
        cases hg
        obtain ⟨a, ys, rfl, h1, r1⟩ := hx.lst R.exB
        obtain ⟨v, rfl, rv⟩ := hxs.one
        have hl := blL_map e
        subst hl
        have hy := rep_bls r1
        subst hy
        have hv := rv.bl
        subst hv
        have hlt : bs.idxOf b < bs.length := List.idxOf_lt_length_iff.mpr hb
        refine ⟨a, bs.map V.bl, .bl b, bs.idxOf b, .bl b, rfl, rfl, SqL.of h1, rfl, ?_, ?_, ?_, ?_, q _ B H R (Same.refl _) (.sh (.int _))⟩
        · rw [List.all_map]
          exact List.all_eq_true.mpr fun _ _ => rfl
        · rw [List.getElem?_map, List.getElem?_eq_getElem hlt, List.getElem_idxOf hlt]
          rfl
        · show (b == b) = true
          simp
        · intro m z hm hz
          rw [List.getElem?_map] at hz
          cases e2 : bs[m]? with
          | none =>
            rw [e2] at hz
            cases hz
          | some c =>
            rw [e2] at hz
            cases hz
            exact idx_least hm e2
      · cases hg
  · cases hg
/-! ### what a walk wants of the errors -/
def HasX (P : Program) (w : World) (K : PySem.W.Frag) (mg : Str → Option Value) (base : Heap) (cv : Nat → Value) (k n : Nat) (cs : List Nat) (Φ : Nat → Addr → List D → Option CR) (x : Str) (ps : List Str) : Prop :=
  ∃ f fd, (∀ c, c ∈ cs → FnX P w K mg base (L2.CX P w) k f fd ps (cv c) (fun a => spI cv K n none (Φ c a))) ∧ mg x = some (.ref f) ∧ PySem.W.keepIn K (.ref f) = true ∧ Binds K fd ps []
def ExcAt (K : PySem.W.Frag) (mg : Str → Option Value) (cv : Nat → Value) (x : Str) (i : Nat) : Prop := ∃ C, ExcIs K mg x C ∧ cv i = .ref C
def KitAt (K : PySem.W.Frag) (mg : Str → Option Value) (dv : Nat → Addr) (cs : List Nat) (x : Str) (p : Nat → Bool) : Prop := ∃ C, mg x = some (.ref C) ∧ ∀ c, c ∈ cs → PySem.W.kitOne K (.ref (dv c)) (.ref C) = some (p c)
def KitT (K : PySem.W.Frag) (dv : Nat → Addr) (cs : List Nat) (T : String) (p : Nat → Bool) : Prop := ∀ c, c ∈ cs → PySem.W.kitOne K (.ref (dv c)) (.type T) = some (p c)
def ExmAt (K : PySem.W.Frag) (mg : Str → Option Value) (cv : Nat → Value) (cs : List Nat) (x : Str) : Prop := ∃ C, mg x = some (.ref C) ∧ ∀ c, c ∈ cs → PySem.W.exmOne K (cv c) (.ref C) = some true
abbrev ExcIs.adr {K : PySem.W.Frag} {mg : Str → Option Value} {x : Str} {C : Addr} (_ : ExcIs K mg x C) : Addr := C
section
variable {K : PySem.W.Frag} {h : Heap} {mg : Str → Option Value} {x y : Str} {C D : Addr} {b : Bool} {T : String} {R : Prop}
theorem with_gref (X : K.In h) (G : h.Ns mainGlobals mg) (a : PySem.W.nsIn K mainGlobals x = some (some (.ref C))) (n : mg x = some (.ref C) → R) : R := n (PySem.W.mg_of X G a)
theorem kit_cls {t : Value} (hd : PySem.W.hasDictIn K D = true) (ht : PySem.W.typeIn K (.ref D) = some (.type "type")) : PySem.W.kitCls K t (.ref D) = PySem.W.subIn K t (.ref D) := by
  obtain ⟨cd, hc, _⟩ := PySem.W.any_some hd
  have e2 : ((PySem.W.clsIn K D).isSome && PySem.W.typeIn K (.ref D) == some (.type "type")) = true := by rw [hc, ht] <;> rfl
  exact if_pos e2
theorem with_kit (I : ExcIs K mg x C) (g : mg y = some (.ref D)) (b : Bool) (hd : PySem.W.hasDictIn K D = true) (ht : PySem.W.typeIn K (.ref D) = some (.type "type")) (a : PySem.W.subIn K (.ref C) (.ref D) = some b) (hb : C = D → b = true) (n : PySem.W.kitOne K (.ref C) (.ref D) = some b → R) : R := by
  refine n ?_
  unfold PySem.W.kitOne
  by_cases e : ((Value.ref C) == (Value.ref D)) = true
  · rw [if_pos e, hb (Value.ref.inj (beq_iff_eq.mp e))]
  · rw [if_neg e, kit_cls hd ht]
    exact a
theorem with_kitT (I : ExcIs K mg x C) (T : String) (b : Bool) (hm : PySem.W.kitMeta T = true) (a : PySem.W.subIn K (.ref C) (.type T) = some b) (n : PySem.W.kitOne K (.ref C) (.type T) = some b → R) : R := by
  refine n ?_
  unfold PySem.W.kitOne
  have e : ¬ ((Value.ref C) == (Value.type T)) = true := fun z => by cases (beq_iff_eq.mp z)
  rw [if_neg e]
  exact (if_pos hm).trans a
theorem with_exm (I : ExcIs K mg x C) (g : mg y = some (.ref D)) (bD : PySem.W.subIn K (.ref D) (.type "BaseException") = some true) (hd : PySem.W.hasDictIn K D = true) (ht : PySem.W.typeIn K (.ref D) = some (.type "type")) (a : PySem.W.subIn K (.ref C) (.ref D) = some true) (n : PySem.W.exmOne K (.ref C) (.ref D) = some true → R) : R :=
  n (PySem.W.exm_ref bD hd ht a)
end
end Sim

namespace Sim
open PySem PySem.Spec PyProof.Rows L2
/-! ### dicts that a slot owns -/
def keyD : D → Option L2.Key
  | .int i => some (.inl i)
  | .str s => some (.inr s)
  | _ => none
theorem keyD_rep {K : PySem.W.Frag} {B H : Hp} {v : V} {d : D} {k : L2.Key} (h : OpRep K B H v d) (e : keyD d = some k) : v = kV k := by
  cases d with
  | int i =>
    cases e
    exact h.int
  | str s =>
    cases e
    exact h.str
  | _ => cases e
def setVs {κ : Type} [DecidableEq κ] (k : κ) (d : D) : List κ → List D → List D
  | k' :: ks, v :: vs => (if k' = k then d else v) :: setVs k d ks vs
  | _, _ => []
def putKs {κ : Type} [DecidableEq κ] (ks : List κ) (k : κ) : List κ := if k ∈ ks then ks else ks ++ [k]
def putVs {κ : Type} [DecidableEq κ] (ks : List κ) (vs : List D) (k : κ) (d : D) : List D := if k ∈ ks then setVs k d ks vs else vs ++ [d]
def lookD {κ : Type} [DecidableEq κ] (ks : List κ) (vs : List D) (k : κ) : Option D := (ks.zip vs).lookup k
section
variable {κ : Type} [DecidableEq κ]
theorem setVs_length (k : κ) (d : D) : ∀ (ks : List κ) (vs : List D), ks.length = vs.length → (setVs k d ks vs).length = vs.length
  | [], [], _ => rfl
  | _ :: ks, _ :: vs, h => by
    show (setVs k d ks vs).length + 1 = vs.length + 1
    rw [setVs_length k d ks vs (Nat.succ.inj h)]
theorem put_length (ks : List κ) (vs : List D) (k : κ) (d : D) (h : ks.length = vs.length) : (putKs ks k).length = (putVs ks vs k d).length := by
  unfold putKs putVs
  by_cases e : k ∈ ks
  · rw [if_pos e, if_pos e, setVs_length k d ks vs h, h]
  · rw [if_neg e, if_neg e, List.length_append, List.length_append, h]
    rfl
theorem zip_any {xs : List V} {k : κ} : ∀ {ks : List κ}, ks.length = xs.length → ((ks.zip xs).any fun kv => decide (kv.1 = k)) = decide (k ∈ ks) := by
  intro ks
  induction ks generalizing xs with
  | nil => intro _; simp
  | cons j ks ih =>
    intro h
    cases xs with
    | nil => simp at h
    | cons x xs =>
      rw [List.zip_cons_cons, List.any_cons, ih (by simpa using h)]
      by_cases e : j = k
      · simp [e]
      · simp [e, Ne.symm e]
/-- the rows of a dict, put -/
theorem rep_put {K : PySem.W.Frag} {H : Hp} {k : κ} {v : V} {d : D} (rv : Rep K H v d) {ks : List κ} {xs : List V} {vs : List D} (hl : ks.length = vs.length) (r : RepL K H xs vs) :
    ∃ ys, putK (ks.zip xs) k v = (putKs ks k).zip ys ∧ RepL K H ys (putVs ks vs k d) := by
  have hx : ks.length = xs.length := by rw [r.length, hl]
  unfold putK putKs putVs
  rw [zip_any hx]
  by_cases e : k ∈ ks
  · simp only [e, decide_true, if_true]
    clear e
    induction ks generalizing xs vs with
    | nil => exact ⟨[], rfl, .nil⟩
    | cons j ks ih =>
      cases r with
      | nil => simp at hl
      | @cons x d0 xs vs r0 t =>
        obtain ⟨ys, h1, h2⟩ := ih (Nat.succ.inj hl) t (Nat.succ.inj hx)
        by_cases e : j = k
        · refine ⟨v :: ys, ?_, ?_⟩
          · rw [List.zip_cons_cons, List.map_cons, h1, List.zip_cons_cons]
            simp [e]
          · show RepL K H (v :: ys) ((if j = k then d else d0) :: setVs k d ks vs)
            rw [if_pos e]
            exact .cons rv h2
        · refine ⟨x :: ys, ?_, ?_⟩
          · rw [List.zip_cons_cons, List.map_cons, h1, List.zip_cons_cons]
            simp [e]
          · show RepL K H (x :: ys) ((if j = k then d else d0) :: setVs k d ks vs)
            rw [if_neg e]
            exact .cons r0 h2
  · simp only [e, decide_false, if_false]
    refine ⟨xs ++ [v], ?_, r.append (.cons rv .nil)⟩
    rw [List.zip_append hx]
    rfl
theorem rep_look {K : PySem.W.Frag} {H : Hp} {k : κ} : ∀ {ks : List κ} {xs : List V} {vs : List D}, ks.length = vs.length → RepL K H xs vs →
    (∀ d, lookD ks vs k = some d → ∃ v, valV (ks.zip xs) k = some v ∧ Rep K H v d) ∧ (lookD ks vs k = none → valV (ks.zip xs) k = none) ∧ (valV (ks.zip xs) k).isSome = decide (k ∈ ks)
  | [], _, _, _, r => ⟨fun d h => (nomatch h), fun _ => rfl, rfl⟩
  | j :: ks, _, _, hl, .nil => by simp at hl
  | j :: ks, v :: xs, d0 :: vs, hl, .cons r0 t => by
    obtain ⟨i1, i2, i3⟩ := rep_look (k := k) (Nat.succ.inj hl) t
    by_cases e : j = k
    · subst e
      have e1 : valV (((j, v) :: ks.zip xs)) j = some v := valV_pos rfl
      refine ⟨fun d h => ⟨v, e1, ?_⟩, fun h => ?_, ?_⟩
      · have h : ((j, d0) :: ks.zip vs).lookup j = some d := h
        rw [List.lookup_cons, beq_self_eq_true] at h
        cases h
        exact r0
      · have h : ((j, d0) :: ks.zip vs).lookup j = none := h
        rw [List.lookup_cons, beq_self_eq_true] at h
        cases h
      · show (valV ((j, v) :: ks.zip xs) j).isSome = _
        rw [e1]
        simp
    · have e1 : valV ((j, v) :: ks.zip xs) k = valV (ks.zip xs) k := valV_neg e
      have e2 : lookD (j :: ks) (d0 :: vs) k = lookD ks vs k := by
        show ((j, d0) :: ks.zip vs).lookup k = _
        rw [List.lookup_cons, beq_eq_false_iff_ne.mpr (Ne.symm e)]
        rfl
      rw [e2]
      show (∀ d, _ → ∃ w, valV ((j, v) :: ks.zip xs) k = some w ∧ _) ∧ (_ → valV ((j, v) :: ks.zip xs) k = none) ∧ (valV ((j, v) :: ks.zip xs) k).isSome = _
      rw [e1]
      refine ⟨i1, i2, ?_⟩
      rw [i3]
      simp [Ne.symm e]
end
theorem OpRep.dck {K : PySem.W.Frag} {B H : Hp} {v : V} (e : Same B H) {ks : List L2.Key} {vs : List D} (h : OpRep K B H v (.dck ks vs)) : ∃ a xs, v = .ref a ∧ H a = some (.dK (ks.zip xs)) ∧ ks.length = vs.length ∧ RepL K B xs vs := by
  cases h with
  | sh r =>
    cases r with
    | dck h hl r => exact ⟨_, _, rfl, e _ _ h, hl, r⟩
  | @own a o xs c _ hB hH hO r e =>
    cases c with
    | dk ks' vs' =>
      cases e
      obtain ⟨rfl, hl⟩ := hO
      exact ⟨_, _, rfl, hH, hl, r⟩
    | lst _ => cases e
    | dt _ _ => cases e
    | ob _ _ _ => cases e
/-! #### {} and {k: v} -/
def vDnK : M SV := ret (.ow (.dk [] []))
def vDnT : M SV := ret (.ow (.dt [] []))
section
variable {cv : Nat → Value} {X : Cx} {W : WX} {a b e o : Expr} {ta tb te : TE} {fa fb : M Op} {f : M SV} {pos pos' p p2 : Pos}
theorem snd_dnK : SndE cv X W (.Dict [] [] pos) tDNewK vDnK := ⟨pe_dnewK, fun F B H σ ρ Q R h p hp => h (.ref p) B _ (R.new hp) (Same.refl _) (RV.newO (c := .dk [] []) (xs := []) R hp ⟨rfl, rfl⟩ .nil)⟩
theorem snd_dnT : SndE cv X W (.Dict [] [] pos) tDNewT vDnT := ⟨pe_dnewT, fun F B H σ ρ Q R h p hp => h (.ref p) B _ (R.new hp) (Same.refl _) (RV.newO (c := .dt [] []) (xs := []) R hp ⟨rfl, rfl⟩ .nil)⟩
theorem Rel.addFo {K : PySem.W.Frag} {F B H : Hp} {σ : L2.St} {ρ : Sl} {d : Addr} {o : HO} (R : Rel K F B H σ ρ) (hd : H d = none) : Rel K (upd F d o) B (upd H d o) σ ρ := by
  have R1 := R.new (o := o) hd
  refine ⟨R1.exB, fun a o e => ?_, fun a o e => ?_, R.len, fun i sv h => ?_, R.sep⟩
  · by_cases z : a = d
    · subst z
      rw [upd_same] at e ⊢
      exact e
    · rw [upd_ne z] at e
      exact R1.exF _ _ e
  · by_cases z : a = d
    · rw [z]
      exact R.exB.free hd
    · rw [upd_ne z] at e
      exact R.dis a _ e
  · have s := R.slot i sv h
    generalize hg : σ[i]? = w at s
    cases s with
    | sh r => exact .sh r
    | @fr a o' xs' ds hF hB' hH hO r =>
      have z : a ≠ d := fun z => by
        rw [z, hd] at hH
        cases hH
      refine .fr ?_ hB' ?_ hO r
      · rw [upd_ne z]
        exact hF
      · rw [upd_ne z]
        exact hH
/-- what was set aside is changed, and nobody's -/
theorem Rel.free {K : PySem.W.Frag} {F B H : Hp} {σ : L2.St} {ρ : Sl} {d : Addr} {o o' : HO} (R : Rel K (upd F d o) B H σ ρ) (hF : F d = none) : Rel K F B (upd H d o') σ ρ ∧ B d = none ∧ ∀ i, ¬ Owns σ ρ i d := by
  have hB : B d = none := R.dis d o upd_same
  have no : ∀ i, ¬ Owns σ ρ i d := fun i w => by
    obtain ⟨_, _, _, _, h, _⟩ := w.at R
    rw [upd_same] at h
    cases h
  refine ⟨⟨fun a x e => ?_, fun a x e => ?_, fun a x e => ?_, R.len, fun i sv h => ?_, R.sep⟩, hB, no⟩
  · rw [upd_ne fun z => by rw [z, hB] at e; cases e]
    exact R.exB a x e
  · rw [upd_ne fun z => by rw [z, hF] at e; cases e]
    refine R.exF a x ?_
    rw [upd_ne fun z => by rw [z, hF] at e; cases e]
    exact e
  · refine R.dis a x ?_
    rw [upd_ne fun z => by rw [z, hF] at e; cases e]
    exact e
  · have s := R.slot i sv h
    generalize hg : σ[i]? = w at s
    cases s with
    | sh r => exact .sh r
    | @fr a oo xs' c hF' hB' hH hO r =>
      have z : a ≠ d := fun z => by
        rw [z, upd_same] at hF'
        cases hF'
      rw [upd_ne z] at hF'
      exact .fr hF' hB' (by rw [upd_ne z]; exact hH) hO r
def dn1K (o p : Op) : M SV := fun ρ => match o, p with
  | .val dk, .val dv => (keyD dk).map fun k => .ok (.ow (.dk [k] [dv])) ρ
  | _, _ => none
def vDn1 (k v : M Op) : M SV := bnd k fun o => bnd v fun p => dn1K o p
theorem snd_dn1 (ha : SndO cv X W a ta fa) (hb : SndO cv X W b tb fb) : SndE cv X W (.Dict [some a] [b] pos) (tDisp [(ta, tb)]) (vDn1 fa fb) := by
  refine ⟨pe_disp (pps_cons ha.pe hb.pe pps_nil) rfl rfl (by intro z; cases z) (Nat.le_of_ble_eq_true rfl), fun F B H σ ρ Q R q p hp => ?_⟩
  have R0 := R.addFo (o := .dK []) hp
  have hF : F p = none := R.exF.free hp
  refine ha.ad (upd F p (.dK [])) B _ σ ρ _ R0 (wpm_mono (wpm_bnd q) (fun o ρ1 q v B1 H1 R1 sm1 ov => ?_) fun c ρ1 q B1 H1 R1 sm1 => ?_)
  · refine hb.ad _ B1 H1 σ ρ1 _ R1 (wpm_mono (wpm_bnd q) (fun o2 ρ2 q v2 B2 H2 R2 sm2 ov2 => ?_) fun c ρ2 q B2 H2 R2 sm2 => ?_)
    · have hp2 : H2 p = some (.dK []) := R2.exF p _ upd_same
      have q : wpm (dn1K o o2) ρ2 _ _ := q
      unfold wpm dn1K at q
      cases ov with
      | slot _ => exact q.elim
      | @val dk rk =>
        cases ov2 with
        | slot _ => exact q.elim
        | @val dv rv =>
          cases e : keyD dk with
          | none =>
            simp only [e, Option.map_none] at q
          | some k =>
            simp only [e, Option.map_some] at q
            obtain ⟨R3, hB, no⟩ := R2.free (o' := .dK [(k, v2)]) hF
            have hk : v = kV k := keyD_rep (B := B1) (H := B1) (.sh rk) e
            subst hk
            refine ⟨hp2, [(k, v2)], rfl, Nat.le_of_ble_eq_true rfl, ?_⟩
            have em : mergeK [] [(k, v2)] = [(k, v2)] := rfl
            rw [em]
            refine q _ B2 _ R3 (sm1.trans sm2) (.fr hF hB upd_same (xs := [v2]) (c := .dk [k] [dv]) ⟨rfl, rfl⟩ (.cons rv .nil) no)
    · obtain ⟨R3, hB, no⟩ := R2.free (o' := .dK []) hF
      have e : upd H2 p (.dK []) = H2 := by
        funext a
        by_cases z : a = p
        · subst z
          rw [upd_same]
          exact (R2.exF a _ upd_same).symm
        · rw [upd_ne z]
      rw [e] at R3
      exact q B2 H2 R3 (sm1.trans sm2)
  · obtain ⟨R3, hB, no⟩ := R1.free (o' := .dK []) hF
    have e : upd H1 p (.dK []) = H1 := by
      funext a
      by_cases z : a = p
      · subst z
        rw [upd_same]
        exact (R1.exF a _ upd_same).symm
      · rw [upd_ne z]
    rw [e] at R3
    exact q B1 H1 R3 sm1
/-! #### d[k] = v -/
def dpK (i : Nat) (o p : Op) : SM := fun ρ => match o, p, ρ[i]? with
  | .val d, .val dk, some (some (.ow (.dk ks vs))) => (keyD dk).bind fun k => if ks.length < 1000000 then some (.nx (ρ.set i (some (.ow (.dk (putKs ks k) (putVs ks vs k d)))))) else none
  | _, _, _ => none
def isDk (ρ : Sl) (i : Nat) : Bool := match ρ[i]? with
  | some (some (.ow (.dk _ _))) => true
  | _ => false
def isDt (ρ : Sl) (i : Nat) : Bool := match ρ[i]? with
  | some (some (.ow (.dt _ _))) => true
  | _ => false
theorem isDk_at {ρ : Sl} {i : Nat} (h : isDk ρ i = true) : ∃ ks vs, ρ[i]? = some (some (.ow (.dk ks vs))) := by
  unfold isDk at h
  split at h
  · rename_i ks vs e
    exact ⟨ks, vs, e⟩
  · cases h
theorem isDt_at {ρ : Sl} {i : Nat} (h : isDt ρ i = true) : ∃ ks vs, ρ[i]? = some (some (.ow (.dt ks vs))) := by
  unfold isDt at h
  split at h
  · rename_i ks vs e
    exact ⟨ks, vs, e⟩
  · cases h
def sDPutK (i : Nat) (f k : M Op) : SM := sEx f fun o ρ => if isDk ρ i = true then sEx k (fun p => dpK i o p) ρ else none
theorem adm_dputK {i : Nat} {k : Expr} {tk : TE} {f' fk : M Op} {w : List Nat} (h : SndO cv X W e te f') (hk : SndO cv X W k tk fk) : AdmS cv W X.K (tAsg te (L2.gSub (tVar i) tk rSetD)) (sDPutK i f' fk) w := by
  intro F B H σ ρ D R q
  refine h.ad F B H σ ρ _ R (wpm_mono (ws_ex q) (fun o ρ1 q v B1 H1 R1 sm1 ov => ?_) fun _ _ q => q)
  by_cases hf : isDk ρ1 i = true
  · simp only [if_pos hf] at q
    obtain ⟨ks0, vs0, h0⟩ := isDk_at hf
    obtain ⟨a, ho, xs, hs, _⟩ := R1.mutateO h0
    refine ⟨.ref a, hs, ?_⟩
    refine hk.ad F B1 H1 σ ρ1 _ R1 (wpm_mono (ws_ex2 (σ2 := σ) sm1 Agr.refl q) (fun p ρ2 q u B2 H2 R2 sm2 ou => ?_) fun c ρ2 q B2 H2 R2 sm2 => q B2 H2 R2 sm2)
    unfold dpK at q
    split at q
    · rename_i x d dk ks vs e3 _
      cases ov with
      | val rv =>
        cases ou with
        | val ru =>
          cases e : keyD dk with
          | none =>
            rw [e] at q
            exact q.elim
          | some kk =>
            rw [e, Option.bind_some] at q
            by_cases hz : ks.length < 1000000
            · simp only [if_pos hz] at q
              obtain ⟨a', ho', xs', hs', hH', hO', hF', hB', r', mk⟩ := R2.mutateO e3
              rw [hs] at hs'
              cases hs'
              obtain ⟨rfl, hl⟩ := hO'
              have hu : u = kV kk := keyD_rep (B := B2) (H := B2) (.sh ru) e
              subst hu
              obtain ⟨ys, g1, g2⟩ := rep_put (k := kk) (rv.mono sm2 _ _) hl r'
              refine ⟨a, _, rfl, DPut.k hH' (by rw [List.length_zip]; exact Nat.lt_of_le_of_lt (Nat.min_le_left _ _) (mill_lt hz)), ?_⟩
              rw [g1]
              exact q σ B2 _ (mk _ ys (.dk (putKs ks kk) (putVs ks vs kk d)) ⟨rfl, put_length ks vs kk d hl⟩ g2) (sm1.trans sm2) Agr.refl
            · simp only [if_neg hz] at q
              exact q.elim
    · exact q.elim
  · simp only [if_neg hf] at q
    exact q.elim
theorem sns_dputK {i : Nat} {k : Expr} {tk : TE} {fk : M Op} (hu : X.A.units + 1 < cLine) (ho : PE X o (tVar i)) (h : SndE cv X W e te f) (hk : SndO cv X W k tk fk)
    (hs : swapsWithSole [.Subscript o k p] e pos.line X.env = pure false := by rfl) (hw : swappedStores [.Subscript o k p] e X.env = pure none := by rfl)
    (h1 : (assignEach [.Subscript o k p] X.env).map (·.2) = [assign (.Subscript o k p) X.env] := by rfl)
    (ha : ∀ v, assign (.Subscript o k p) X.env v = (do
      let ov ← holding [v] (eval o X.env)
      let iv ← holding [v, ov] (eval k X.env)
      standAt p
      holding [v, ov, iv] (setItem ov iv v)
      release [v, ov, iv] []) := by intro _; rfl) : SndS cv X W (.Assign [.Subscript o k p] e pos) (tAsg te (L2.gSub (tVar i) tk rSetD)) (sDPutK i (oOf f) fk) [] :=
  ⟨ps_asg h.pe (pg_sub ho hk.pe (set_dict hu) ha) hs hw h1, adm_dputK (snd_o h) hk⟩
/-- .. of a tuple that is made there -/
def dtK (i : Nat) (o : Op) (ps : List Op) : SM := fun ρ => match o, vals ps, ρ[i]? with
  | .val d, some kd, some (some (.ow (.dt ks vs))) => (intL kd).bind fun k => if ks.length < 1000000 ∧ kd.length ≤ 1000000 then some (.nx (ρ.set i (some (.ow (.dt (putKs ks k) (putVs ks vs k d)))))) else none
  | _, _, _ => none
def sDPutT (i : Nat) (f : M Op) (k : M (List Op)) : SM := sEx f fun o ρ => if isDt ρ i = true then sEx k (fun p => dtK i o p) ρ else none
theorem zip_keyL : ∀ (js : List (List Int)) (ys : List V), (js.zip ys).map (fun p => (keyL p.1, p.2)) = (js.map keyL).zip ys
  | [], _ => rfl
  | _ :: _, [] => rfl
  | j :: js, y :: ys => by
    show (keyL j, y) :: (js.zip ys).map (fun p => (keyL p.1, p.2)) = (keyL j, y) :: (js.map keyL).zip ys
    rw [zip_keyL js ys]
theorem putK_map {ks : List (List Int)} {xs : List V} {k : List Int} {v : V} : putK ((ks.map keyL).zip xs) (keyL k) v = (putK (ks.zip xs) k v).map fun p => (keyL p.1, p.2) := by
  have hz : (ks.map keyL).zip xs = (ks.zip xs).map fun p => (keyL p.1, p.2) := by
    induction ks generalizing xs with
    | nil => rfl
    | cons j ks ih =>
      cases xs with
      | nil => rfl
      | cons x xs =>
        rw [List.map_cons, List.zip_cons_cons, ih]
        rfl
  rw [hz]
  generalize ks.zip xs = ps
  have ea : ((ps.map fun p => (keyL p.1, p.2)).any fun kv => decide (kv.1 = keyL k)) = ps.any fun kv => decide (kv.1 = k) := by
    rw [List.any_map]
    congr 1
    funext p
    by_cases e : p.1 = k
    · simp [e]
    · have : keyL p.1 ≠ keyL k := fun z => e (keyL_inj z)
      simp [e, this]
  unfold putK
  rw [ea]
  split
  · rw [List.map_map, List.map_map]
    refine List.map_congr_left fun p _ => ?_
    by_cases e : p.1 = k
    · simp [e]
    · have : keyL p.1 ≠ keyL k := fun z => e (keyL_inj z)
      simp [e, this]
  · rw [List.map_append]
    rfl
theorem adm_dputT {i : Nat} {tk : TA} {f' : M Op} {fk : M (List Op)} {w : List Nat} {es : List Expr} (h : SndO cv X W e te f') (hk : SndA cv X W es tk fk) : AdmS cv W X.K (tAsg te (L2.gSub (tVar i) (tTup tk) rSetD)) (sDPutT i f' fk) w := by
  intro F B H σ ρ D R q
  refine h.ad F B H σ ρ _ R (wpm_mono (ws_ex q) (fun o ρ1 q v B1 H1 R1 sm1 ov => ?_) fun _ _ q => q)
  by_cases hf : isDt ρ1 i = true
  · simp only [if_pos hf] at q
    obtain ⟨ks0, vs0, h0⟩ := isDt_at hf
    obtain ⟨a, ho, xs, hs, _⟩ := R1.mutateO h0
    refine ⟨.ref a, hs, ?_⟩
    refine hk.ad F B1 H1 σ ρ1 _ R1 (wpm_mono (ws_ex2 (σ2 := σ) sm1 Agr.refl q) (fun p ρ2 q us B2 H2 R2 sm2 ous => ?_) fun c ρ2 q B2 H2 R2 sm2 => q B2 H2 R2 sm2)
    unfold dtK at q
    split at q
    · rename_i d kd ks vs e2 e3 _
      cases ov with
      | val rv =>
        cases e : intL kd with
        | none =>
          rw [e] at q
          exact q.elim
        | some kk =>
          rw [e, Option.bind_some] at q
          by_cases hz : ks.length < 1000000 ∧ kd.length ≤ 1000000
          · simp only [if_pos hz] at q
            have rk := ous.vals e2
            have hkd := intL_map e
            subst hkd
            have hus := rk.of_ints
            subst hus
            refine ⟨by rw [List.length_map]; exact mill_le (by simpa using hz.2), fun t ht => ?_⟩
            obtain ⟨R3, sm3⟩ := R2.newB (o := .tup (kk.map V.int)) ht
            obtain ⟨a', ho', xs', hs', hH', hO', hF', hB', r', mk⟩ := R3.mutateO e3
            rw [hs] at hs'
            cases hs'
            obtain ⟨rfl, hl⟩ := hO'
            obtain ⟨ys, g1, g2⟩ := rep_put (k := kk) ((rv.mono sm2 _ _).mono sm3 _ _) hl r'
            have ek : (keyL kk).map kV = kk.map V.int := keyL_kV kk
            refine ⟨a, _, rfl, DPut.t (k := keyL kk) hH' (by rw [ek]; exact upd_same) (by rw [List.length_zip]; exact Nat.lt_of_le_of_lt (Nat.min_le_left _ _) (by rw [List.length_map]; exact mill_lt hz.1)), ?_⟩
            rw [putK_map, g1]
            have ez := zip_keyL (putKs ks kk) ys
            rw [ez]
            exact q σ _ _ (mk _ ys (.dt (putKs ks kk) (putVs ks vs kk d)) ⟨rfl, put_length ks vs kk d hl⟩ g2) ((sm1.trans sm2).trans sm3) Agr.refl
          · simp only [if_neg hz] at q
            exact q.elim
    · exact q.elim
  · simp only [if_neg hf] at q
    exact q.elim
theorem sns_dputT {i n : Nat} {es : List Expr} {tk : TA} {fk : M (List Op)} {pk : Pos} (hu : X.A.units + 1 < cLine) (ho : PE X o (tVar i)) (h : SndE cv X W e te f) (hk : SndA cv X W es tk fk)
    (hs : swapsWithSole [.Subscript o (.Tuple es n pk) p] e pos.line X.env = pure false := by rfl) (hw : swappedStores [.Subscript o (.Tuple es n pk) p] e X.env = pure none := by rfl)
    (h1 : (assignEach [.Subscript o (.Tuple es n pk) p] X.env).map (·.2) = [assign (.Subscript o (.Tuple es n pk) p) X.env] := by rfl)
    (ha : ∀ v, assign (.Subscript o (.Tuple es n pk) p) X.env v = (do
      let ov ← holding [v] (eval o X.env)
      let iv ← holding [v, ov] (eval (.Tuple es n pk) X.env)
      standAt p
      holding [v, ov, iv] (setItem ov iv v)
      release [v, ov, iv] []) := by intro _; rfl) : SndS cv X W (.Assign [.Subscript o (.Tuple es n pk) p] e pos) (tAsg te (L2.gSub (tVar i) (tTup tk) rSetD)) (sDPutT i (oOf f) fk) [] :=
  ⟨ps_asg h.pe (pg_sub ho (pe_tup hk.pa) (set_dict hu) ha) hs hw h1, adm_dputT (snd_o h) hk⟩
end
end Sim

namespace Sim
open PySem PySem.Spec PyProof.Rows L2
/-! ### dicts whose keys are whole numbers and texts: read -/
def rKIn (neg : Bool) : R2 := fun y x H Q => ∃ a o, x = .ref a ∧ DGet H a y o ∧ Q (.bl (neg ^^ o.isSome)) H
def rKIx : R2 := fun x y H Q => ∃ a v, x = .ref a ∧ DGet H a y (some v) ∧ Q v H
def memK {κ : Type} [DecidableEq κ] (k : κ) (ks : List κ) : Bool := decide (k ∈ ks)
def gInK (neg : Bool) : D → D → Option SV
  | d, .dck ks _ => (keyD d).map fun (k : L2.Key) => .sh (.bl (neg ^^ memK k ks))
  | _, _ => none
def gDxK : D → D → Option SV
  | .dck ks vs, d => (keyD d).bind fun k => (lookD ks vs k).map .sh
  | _, _ => none
section
variable {X : Cx} {K : PySem.W.Frag}
theorem op_kIn (hu : X.A.units + 1 < cLine) : OpR X (compareOp .In) (rKIn false) := by
  intro pins s σ H y x u v Q I ry rx h
  obtain ⟨a, o, rfl, g, q⟩ := h
  cases (show v = Value.ref a from rx)
  refine d_in hu I g ry fun s' I' => ⟨.bl o.isSome, H, I', rfl, ?_⟩
  rw [Bool.false_xor] at q
  exact q
theorem op_kNotIn (hu : X.A.units + 1 < cLine) : OpR X (compareOp .NotIn) (rKIn true) := by
  intro pins s σ H y x u v Q I ry rx h
  obtain ⟨a, o, rfl, g, q⟩ := h
  cases (show v = Value.ref a from rx)
  refine d_notIn hu I g ry fun s' I' => ⟨.bl (!o.isSome), H, I', rfl, ?_⟩
  rw [Bool.true_xor] at q
  exact q
theorem ok_kIn {neg : Bool} : Ok2 K (rKIn neg) (gInK neg) := by
  intro F B H σ ρ x y dx dy sv Q R hx hy hg q
  unfold gInK at hg
  split at hg
  · rename_i _ ks vs
    cases e : keyD dx with
    | none =>
      rw [e] at hg
      cases hg
    | some k =>
      rw [e] at hg
      cases hg
      have hk := keyD_rep hx e
      subst hk
      obtain ⟨a, xs, rfl, ha, hl, r⟩ := hy.dck R.exB
      refine ⟨a, _, rfl, DGet.k ha, ?_⟩
      rw [(rep_look (k := k) hl r).2.2]
      exact q _ B H R (Same.refl _) (.sh (.bl _))
  · cases hg
theorem ok_kIx : Ok2 K rKIx gDxK := by
  intro F B H σ ρ x y dx dy sv Q R hx hy hg q
  unfold gDxK at hg
  split at hg
  · rename_i x' y' ks vs
    cases e : keyD dy with
    | none =>
      rw [e] at hg
      cases hg
    | some k =>
      rw [e, Option.bind_some] at hg
      cases e2 : lookD ks vs k with
      | none =>
        rw [e2] at hg
        cases hg
      | some d' =>
        rw [e2] at hg
        cases hg
        have hk := keyD_rep hy e
        subst hk
        obtain ⟨a, xs, rfl, ha, hl, r⟩ := hx.dck R.exB
        obtain ⟨v, hv, rv⟩ := (rep_look (k := k) hl r).1 d' e2
        refine ⟨a, v, rfl, ?_, q v B H R (Same.refl _) (.sh rv)⟩
        rw [← hv]
        exact DGet.k ha
  · cases hg
end
section
variable {cv : Nat → Value} {X : Cx} {W : WX} {a b c e o : Expr} {es : List Expr} {ta tb tc te to : TE} {fa fb fc : M Op} {f : M SV} {fs : M (List Op)} {ts : TA} {pos apos p p2 : Pos}
theorem snd_kIx (hu : X.A.units + 1 < cLine) (ha : SndO cv X W a ta fa) (hb : SndO cv X W b tb fb) (hs : NoSl b) : SndE cv X W (.Subscript a b pos) (tOp rKIx ta tb) (vOp2 gDxK fa fb) := ⟨pe_dget hu ha.pe hb.pe hs, adm_op2 ok_kIx ha hb⟩
/-! d.get(k, x) -/
def kgK (o p q : Op) : M SV := fun ρ => match get ρ o, get ρ p, q with
  | some (.dck ks vs), some dk, .val dz => (keyD dk).map fun k => .ok (.sh ((lookD ks vs k).getD dz)) ρ
  | _, _, _ => none
def isDck : Option D → Bool
  | some (.dck _ _) => true
  | _ => false
def vGetK (d k x : M Op) : M SV := bnd d fun o ρ => if isDck (get ρ o) = true then bnd k (fun p => bnd x fun q => kgK o p q) ρ else none
theorem snd_dget2 (hu : X.A.units + 1 < cLine) (ho : SndO cv X W o to fa) (hk : SndO cv X W a ta fb) (hx : SndO cv X W b tb fc) (m : M2 X o "get" apos a b pos) : SndE cv X W (.Call (.Attribute o "get" apos) [a, b] [] pos) (tDGet2 to ta tb) (vGetK fa fb fc) := by
  refine ⟨pe_dget2 hu ho.pe hk.pe hx.pe m, fun F B H σ ρ Q R q => ?_⟩
  refine ho.ad F B H σ ρ _ R (wpm_mono (wpm_bnd q) (fun o1 ρ1 q v B1 H1 R1 sm1 ov => ?_) fun _ _ q => q)
  have q : wpm (fun ρ => if isDck (get ρ o1) = true then bnd fb (fun p => bnd fc fun q => kgK o1 p q) ρ else none) ρ1 _ _ := q
  unfold wpm at q
  by_cases hd : isDck (get ρ1 o1) = true
  · simp only [if_pos hd] at q
    obtain ⟨ks, vs, e1⟩ : ∃ ks vs, get ρ1 o1 = some (.dck ks vs) := by
      generalize get ρ1 o1 = z at hd
      rcases z with _ | z
      · cases hd
      · cases z with
        | dck ks vs => exact ⟨ks, vs, rfl⟩
        | _ => cases hd
    obtain ⟨a1, xs, rfl, ha, hl, r⟩ := (ov.rep R1 e1).dck R1.exB
    refine ⟨a1, rfl, .inl ⟨_, .inl ha⟩, ?_⟩
    have q : wpm (bnd fb (fun p => bnd fc fun q => kgK o1 p q)) ρ1 _ _ := q
    refine hk.ad F B1 H1 σ ρ1 _ R1 (wpm_mono (wpm_bnd q) (fun o2 ρ2 q v2 B2 H2 R2 sm2 ov2 => ?_) fun c ρ2 q B2 H2 R2 sm2 => q B2 H2 R2 (sm1.trans sm2))
    refine hx.ad F B2 H2 σ ρ2 _ R2 (wpm_mono (wpm_bnd q) (fun o3 ρ3 q v3 B3 H3 R3 sm3 ov3 => ?_) fun c ρ3 q B3 H3 R3 sm3 => q B3 H3 R3 ((sm1.trans sm2).trans sm3))
    have q : wpm (kgK o1 o2 o3) ρ3 _ _ := q
    unfold wpm kgK at q
    cases ov3 with
    | slot _ => split at q <;> simp_all
    | @val dz rz =>
      cases e2 : get ρ3 o1 with
      | none => simp only [e2] at q
      | some d1 =>
        cases e3 : get ρ3 o2 with
        | none => simp only [e2, e3] at q
        | some dk =>
          cases d1 with
          | dck ks3 vs3 =>
            simp only [e2, e3] at q
            cases e4 : keyD dk with
            | none => simp only [e4, Option.map_none] at q
            | some k =>
              simp only [e4, Option.map_some] at q
              have hk := keyD_rep ((ov2.mono sm3).rep R3 e3) e4
              subst hk
              obtain ⟨a3, ys, ea, ha3, hl3, r3⟩ := ((ov.mono (sm2.trans sm3)).rep R3 e2).dck R3.exB
              cases ea
              refine ⟨_, DGet.k ha3, ?_⟩
              refine q _ B3 H3 R3 ((sm1.trans sm2).trans sm3) (.sh ?_)
              obtain ⟨g1, g2, _⟩ := rep_look (k := k) hl3 r3
              cases e5 : lookD ks3 vs3 k with
              | none =>
                rw [g2 e5]
                exact rz
              | some d =>
                obtain ⟨w, h1, h2⟩ := g1 d e5
                rw [h1]
                exact h2
          | _ => simp only [e2, e3] at q
  · simp only [if_neg hd] at q
end
/-! len(d) -/
def gLenK : List D → Option SV
  | [.dck ks _] => some (.sh (.int ks.length))
  | _ => none
theorem ok_lenK {K : PySem.W.Frag} : OkA K (fun xs H Q => ∃ a kvs, xs = [V.ref a] ∧ H a = some (.dK kvs) ∧ Q (.int kvs.length) H) gLenK := by
  intro F B H σ ρ xs ds sv Q R hx hg q
  unfold gLenK at hg
  split at hg
  · rename_i ks vs
    cases hg
    obtain ⟨v, rfl, rv⟩ := hx.one
    obtain ⟨a, ys, rfl, ha, hl, r⟩ := rv.dck R.exB
    refine ⟨a, _, rfl, ha, ?_⟩
    rw [List.length_zip, r.length, ← hl, Nat.min_self]
    exact q _ B H R (Same.refl _) (.sh (.int _))
  · cases hg
/-! ### x in a list, a tuple, a text -/
def eqF : D → D → Bool
  | .non, .non => true
  | .bl a, .bl b => a == b
  | .bl a, .int b => (if a then 1 else 0) == b
  | .int a, .bl b => a == (if b then 1 else 0)
  | .int a, .int b => a == b
  | .str a, .str b => a == b
  | _, _ => false
def flatD : D → Bool
  | .non => true
  | .bl _ => true
  | .int _ => true
  | .str _ => true
  | _ => false
def signIn (neg : Bool) (l : List Nat) (z : Str) : Option SV := match l with
  | [c] => some (.sh (.bl (neg ^^ decide (c ∈ z.cps.toList))))
  | _ => none
def gInS (neg : Bool) : D → D → Option SV
  | d, .lst l => if okPy d = true ∧ okPy (.lst l) = true then some (.sh (.bl (neg ^^ l.any fun z => eqD z d))) else none
  | d, .tup l => if flatD d = true ∧ l.all flatD = true then some (.sh (.bl (neg ^^ l.any fun z => eqF z d))) else none
  | .str s, .str z => signIn neg s.cps.toList z
  | _, _ => none
def rSIn2 (K : PySem.W.Frag) (neg : Bool) : R2 := fun x y H Q =>
  (∃ d ds, Dp K H x d ∧ Dp K H y (.list ds) ∧ SeqAt.shaped d = true ∧ SeqAt.shaped (.list ds) = true ∧ Q (.bl (neg ^^ ds.any fun z => PyData.eqv z d)) H) ∨
  ((∃ p xs, y = .ref p ∧ (SqL K H p xs ∨ SqT K H p xs) ∧ flatV x = true ∧ xs.all flatV = true ∧ Q (.bl (neg ^^ inV x xs)) H) ∨
   (∃ (c : Nat) (z : Str), x = .str ⟨#[c]⟩ ∧ y = .str z ∧ Q (.bl (neg ^^ decide (c ∈ z.cps.toList))) H))
section
variable {X : Cx} {K : PySem.W.Frag}
theorem op_sIn (hu : X.A.units + 65 < cLine) : OpR X (compareOp .In) (rSIn2 X.K false) := by
  intro pins s σ H x y v u Q I rx ry h
  unfold rSIn2 at h
  simp only [Bool.false_xor] at h
  rcases h with h | h | h
  · exact op_inD hu pins s σ H x y v u Q I rx ry h
  · exact op_in_seq pins s σ H x y v u Q I rx ry h
  · exact op_in_sign pins s σ H x y v u Q I rx ry h
theorem op_sNotIn (hu : X.A.units + 65 < cLine) : OpR X (compareOp .NotIn) (rSIn2 X.K true) := by
  intro pins s σ H x y v u Q I rx ry h
  unfold rSIn2 at h
  simp only [Bool.true_xor] at h
  rcases h with h | h | h
  · exact op_notInD hu pins s σ H x y v u Q I rx ry h
  · exact op_notIn_seq pins s σ H x y v u Q I rx ry h
  · exact op_notIn_sign pins s σ H x y v u Q I rx ry h
theorem toPyL_any (p : PyData → Bool) : ∀ l : List D, (toPyL l).any p = l.any fun z => p (toPy z)
  | [] => by unfold toPyL; rfl
  | d :: l => by
    conv => { lhs; unfold toPyL }
    rw [List.any_cons, List.any_cons, toPyL_any p l]
theorem shaped_lay {p : PyData} (h : SeqAt.shaped p = true) : p.canLay0 = true := SeqAt.canLay_of_shaped h
theorem flat_rep {H : Hp} {v : V} {d : D} (hf : flatD d = true) (r : Rep K H v d) : flatV v = true := by
  cases r <;> first | rfl | cases hf
theorem eqF_rep {H : Hp} {v w : V} {d e : D} (h1 : flatD d = true) (h2 : flatD e = true) (r1 : Rep K H v d) (r2 : Rep K H w e) : eqV v w = eqF d e := by
  cases r1 with
  | non => cases r2 <;> first | rfl | cases h2
  | bl _ => cases r2 <;> first | rfl | cases h2
  | int _ => cases r2 <;> first | rfl | cases h2
  | str _ => cases r2 <;> first | rfl | cases h2
  | _ => cases h1
theorem inV_rep {H : Hp} {v : V} {d : D} (hf : flatD d = true) (r : Rep K H v d) : ∀ {l : List D} {xs : List V}, l.all flatD = true → RepL K H xs l → xs.all flatV = true ∧ inV v xs = l.any fun z => eqF z d
  | [], _, _, .nil => ⟨rfl, rfl⟩
  | e :: l, _, h, .cons r0 t => by
    rw [List.all_cons, Bool.and_eq_true] at h
    obtain ⟨i1, i2⟩ := inV_rep hf r h.2 t
    refine ⟨by rw [List.all_cons, flat_rep h.1 r0, i1]; rfl, ?_⟩
    unfold inV at i2 ⊢
    rw [List.any_cons, List.any_cons, i2, eqF_rep h.1 hf r0 r]
theorem ok_sIn {neg : Bool} : Ok2 K (rSIn2 K neg) (gInS neg) := by
  intro F B H σ ρ x y dx dy sv Q R hx hy hg q
  unfold gInS at hg
  split at hg
  · rename_i l
    split at hg
    · rename_i hc
      cases hg
      obtain ⟨h1, h2⟩ := hc
      have d1 := Rep.dp dx x (shaped_lay h1) (hx.rep R.exB)
      have d2 := Rep.dp (.lst l) y (shaped_lay h2) (hy.rep R.exB)
      have e0 : toPy (.lst l) = .list (toPyL l) := by rw [toPy]
      have h2' : SeqAt.shaped (.list (toPyL l)) = true := by rw [← e0]; exact h2
      rw [e0] at d2
      refine .inl ⟨toPy dx, toPyL l, d1, d2, h1, h2', ?_⟩
      rw [toPyL_any]
      exact q _ B H R (Same.refl _) (.sh (.bl _))
    · cases hg
  · rename_i d l
    split at hg
    · rename_i hc
      cases hg
      obtain ⟨h1, h2⟩ := hc
      obtain ⟨a, xs, rfl, hs, r⟩ := hy.tup R.exB
      obtain ⟨g1, g2⟩ := inV_rep h1 (hx.rep (Same.refl B |>.trans R.exB)) h2 (r.mono R.exB _ _)
      refine .inr (.inl ⟨a, xs, rfl, .inr hs, flat_rep h1 (hx.rep R.exB), g1, ?_⟩)
      rw [g2]
      exact q _ B H R (Same.refl _) (.sh (.bl _))
    · cases hg
  · rename_i s z
    unfold signIn at hg
    split at hg
    · rename_i c es
      cases hg
      have es : s = ⟨#[c]⟩ := by
        cases s with
        | mk cps =>
          have := congrArg List.toArray es
          simp at this
          rw [this]
      subst es
      exact .inr (.inr ⟨c, z, hx.str, hy.str, q _ B H R (Same.refl _) (.sh (.bl _))⟩)
    · cases hg
  · cases hg
/-! ### list.index -/
def gIdx : D → List D → Option SV
  | .lst l, [d] => if okPy d = true ∧ okPy (.lst l) = true ∧ (l.any fun z => eqD z d) = true then some (.sh (.int ((l.findIdx fun z => eqD z d : Nat) : Int))) else none
  | _, _ => none
theorem toPyL_get {l : List D} {m : Nat} : (toPyL l)[m]? = l[m]?.map toPy := by
  have e : toPyL l = l.map toPy := by
    induction l with
    | nil => rw [toPyL]; rfl
    | cons d l ih => rw [toPyL, ih]; rfl
  rw [e, List.getElem?_map]
theorem ok_idx {K : PySem.W.Frag} : OkP K (rIndexD K) gIdx := by
  intro F B H σ ρ x xs dx ds sv Q R hx hxs hg q
  unfold gIdx at hg
  split at hg
  · rename_i l d
    split at hg
    · rename_i hc
      cases hg
      obtain ⟨h1, h2, h3⟩ := hc
      obtain ⟨v, rfl, rv⟩ := hxs.one
      obtain ⟨a, ys, rfl, hl, r1⟩ := hx.lst R.exB
      have d1 := Rep.dp d v (shaped_lay h1) (rv.rep R.exB)
      have d2 := Rep.dp (.lst l) (.ref a) (shaped_lay h2) (hx.rep R.exB)
      have e0 : toPy (.lst l) = .list (toPyL l) := by rw [toPy]
      have h2' : SeqAt.shaped (.list (toPyL l)) = true := by rw [← e0]; exact h2
      rw [e0] at d2
      have hlt : (l.findIdx fun z => eqD z d) < l.length := List.findIdx_lt_length_of_exists (by
        obtain ⟨z, hz, e⟩ := List.any_eq_true.mp h3
        exact ⟨z, hz, e⟩)
      refine ⟨a, v, toPy d, toPyL l, l.findIdx fun z => eqD z d, toPy l[l.findIdx fun z => eqD z d], rfl, rfl, d2, d1, h2', h1, ?_, ?_, ?_, q _ B H R (Same.refl _) (.sh (.int _))⟩
      · rw [toPyL_get, List.getElem?_eq_getElem hlt]
        rfl
      · exact List.findIdx_getElem (xs := l) (p := fun z => eqD z d) (w := hlt)
      · intro m z' hm hz
        rw [toPyL_get] at hz
        cases e : l[m]? with
        | none =>
          rw [e] at hz
          cases hz
        | some z =>
          rw [e] at hz
          cases hz
          have hml : m < l.length := Nat.lt_trans hm hlt
          have := List.not_of_lt_findIdx (p := fun z => eqD z d) hm
          rw [List.getElem?_eq_getElem hml] at e
          cases e
          simpa [eqD] using this
    · cases hg
  · cases hg
/-! ### sorted, of whole numbers -/
def insI (x : Int) : List Int → List Int
  | [] => [x]
  | y :: ys => if x ≤ y then x :: y :: ys else y :: insI x ys
def isrt : List Int → List Int
  | [] => []
  | x :: xs => insI x (isrt xs)
theorem insI_perm (x : Int) : ∀ l : List Int, (insI x l).Perm (x :: l)
  | [] => .refl _
  | y :: ys => by
    unfold insI
    split
    · exact .refl _
    · exact ((insI_perm x ys).cons y).trans (.swap x y ys)
theorem isrt_perm : ∀ l : List Int, (isrt l).Perm l
  | [] => .refl _
  | x :: xs => (insI_perm x _).trans ((isrt_perm xs).cons x)
theorem insI_pw (x : Int) : ∀ {l : List Int}, l.Pairwise (· ≤ ·) → (insI x l).Pairwise (· ≤ ·)
  | [], _ => List.pairwise_singleton _ _
  | y :: ys, h => by
    obtain ⟨h1, h2⟩ := List.pairwise_cons.mp h
    unfold insI
    split
    · rename_i hle
      refine List.pairwise_cons.mpr ⟨fun z hz => ?_, h⟩
      rcases List.mem_cons.mp hz with rfl | hz
      · exact hle
      · exact Int.le_trans hle (h1 z hz)
    · rename_i hle
      refine List.pairwise_cons.mpr ⟨fun z hz => ?_, insI_pw x h2⟩
      rcases List.mem_cons.mp ((insI_perm x ys).mem_iff.mp hz) with rfl | hz
      · omega
      · exact h1 z hz
theorem isrt_pw : ∀ l : List Int, (isrt l).Pairwise (· ≤ ·)
  | [] => .nil
  | x :: xs => insI_pw x (isrt_pw xs)
theorem isrt_of {l l' : List Int} (hp : l'.Perm l) (hs : l'.Pairwise (· ≤ ·)) : l' = isrt l :=
  List.Perm.eq_of_pairwise (fun _ _ _ _ a b => Int.le_antisymm a b) hs (isrt_pw l) (hp.trans (isrt_perm l).symm)
def gSrt : List D → Option SV
  | [.lst l] => (intL l).map fun ns => .fr ((isrt ns).map .int)
  | _ => none
theorem ok_srt {K : PySem.W.Frag} : OkA K (rSortedI K) gSrt := by
  intro F B H σ ρ xs ds sv Q R hx hg q
  unfold gSrt at hg
  split at hg
  · rename_i l
    cases e : intL l with
    | none =>
      rw [e] at hg
      cases hg
    | some ns =>
      rw [e] at hg
      cases hg
      obtain ⟨v, rfl, rv⟩ := hx.one
      obtain ⟨a, ys, rfl, ha, r⟩ := rv.lst R.exB
      have hl := intL_map e
      subst hl
      have hy := r.of_ints
      subst hy
      refine ⟨a, ns, rfl, SqL.of ha, fun ns' p hp hs hn => ?_⟩
      have en := isrt_of hp hs
      subst en
      exact q _ B _ (R.new hn) (Same.refl _) (RV.newL R hn (RepL.ints _))
  · cases hg
/-! ### divmod, tuple -/
def gDvm : List D → Option SV
  | [.int i, .int j] => if 0 < j ∧ j.natAbs.log2 < 9000 then some (.sh (.tup [.int (i / j), .int (i % j)])) else none
  | _ => none
theorem ok_dvm {K : PySem.W.Frag} : OkA K (fun xs H Q => ∃ i j, xs = [.int i, .int j] ∧ CDivP i j ∧ ∀ p, H p = none → Q (.ref p) (upd H p (.tup [.int (i / j), .int (i % j)]))) gDvm := by
  intro F B H σ ρ xs ds sv Q R hx hg q
  unfold gDvm at hg
  split at hg
  · rename_i i j
    split at hg
    · rename_i hc
      cases hg
      obtain ⟨v, w, rfl, rv, rw'⟩ := hx.two
      rw [rv.int, rw'.int]
      refine ⟨i, j, rfl, ⟨hc.1, PyProof.noPylong_of_log2 hc.2⟩, fun p hp => ?_⟩
      obtain ⟨R2, sm⟩ := R.newB (o := .tup [.int (i / j), .int (i % j)]) hp
      exact q _ _ _ R2 sm (.sh (.tup (.inl upd_same) (.cons (.int _) (.cons (.int _) .nil))))
    · cases hg
  · cases hg
def gTupOf : List D → Option SV
  | [.lst l] => some (.sh (.tup l))
  | [.tup l] => some (.sh (.tup l))
  | _ => none
theorem ok_tupOf {K : PySem.W.Frag} : OkA K (fun xs H Q => ∃ p ys, xs = [.ref p] ∧ ((SqL K H p ys ∧ ∀ l, H l = none → Q (.ref l) (upd H l (.tup ys))) ∨ (SqT K H p ys ∧ Q (.ref p) H))) gTupOf := by
  intro F B H σ ρ xs ds sv Q R hx hg q
  unfold gTupOf at hg
  split at hg
  · rename_i l
    cases hg
    obtain ⟨v, rfl, rv⟩ := hx.one
    obtain ⟨a, ys, rfl, ha, r⟩ := rv.lst R.exB
    refine ⟨a, ys, rfl, .inl ⟨SqL.of ha, fun p hp => ?_⟩⟩
    obtain ⟨R2, sm⟩ := R.newB (o := .tup ys) hp
    exact q _ _ _ R2 sm (.sh (.tup (.inl upd_same) (r.mono sm _ _)))
  · rename_i l
    cases hg
    obtain ⟨v, rfl, rv⟩ := hx.one
    cases rv with
    | sh r =>
      cases r with
      | @tup a ys _ h r => exact ⟨a, ys, rfl, .inr ⟨(h.mono fun a xs z => R.exB a _ z).sq, q _ B H R (Same.refl _) (.sh (.tup h r))⟩⟩
    | @own a o xs c _ hB hH hO r e => cases c <;> cases e
  · cases hg
/-! ### ' '.join(..) -/
def strL : List D → Option (List Str)
  | [] => some []
  | .str s :: r => (strL r).map (s :: ·)
  | _ => none
theorem strL_map : ∀ {ds : List D} {ns : List Str}, strL ds = some ns → ds = ns.map D.str
  | [], _, h => by cases h; rfl
  | .str s :: r, ns, h => by
    have h : (strL r).map (s :: ·) = some ns := h
    cases e : strL r with
    | none =>
      rw [e] at h
      cases h
    | some ms =>
      rw [e] at h
      cases h
      rw [strL_map e]
      rfl
  | .non :: _, _, h | .bl _ :: _, _, h | .int _ :: _, _, h | .tup _ :: _, _, h | .lst _ :: _, _, h | .scr _ :: _, _, h | .dct _ _ :: _, _, h | .dck _ _ :: _, _, h | .ob _ _ _ :: _, _, h | .adr _ :: _, _, h | .lv _ :: _, _, h => by cases h
theorem RepL.of_strs {K : PySem.W.Frag} {H : Hp} : ∀ {ns : List Str} {xs : List V}, RepL K H xs (ns.map D.str) → xs = ns.map V.str
  | [], _, .nil => rfl
  | n :: ns, _, .cons r t => by
    cases r
    rw [RepL.of_strs t]
    rfl
def gJoin : D → List D → Option SV
  | .str a, [.lst l] => (strL l).bind fun ys => if (ys.map (·.length)).sum + ys.length * a.length ≤ 16777216 then some (.sh (.str (Txt.join a ys))) else none
  | _, _ => none
theorem ok_join {K : PySem.W.Frag} : OkP K (fun x xs H Q => ∃ a p, ∃ ys : List Str, x = .str a ∧ xs = [.ref p] ∧ (SqL K H p (ys.map V.str) ∨ SqT K H p (ys.map V.str)) ∧ (ys.map (·.length)).sum + ys.length * a.length ≤ 16777216 ∧ Q (.str (Txt.join a ys)) H) gJoin := by
  intro F B H σ ρ x xs dx ds sv Q R hx hxs hg q
  unfold gJoin at hg
  split at hg
  · rename_i a l
    cases e : strL l with
    | none =>
      rw [e] at hg
      cases hg
    | some ys =>
      rw [e, Option.bind_some] at hg
      split at hg
      · rename_i hc
        cases hg
        obtain ⟨v, rfl, rv⟩ := hxs.one
        obtain ⟨p, zs, rfl, hp, r⟩ := rv.lst R.exB
        have hl := strL_map e
        subst hl
        have hz := r.of_strs
        subst hz
        exact ⟨a, p, ys, hx.str, rfl, .inl (SqL.of hp), hc, q _ B H R (Same.refl _) (.sh (.str _))⟩
      · cases hg
  · cases hg
end
end Sim

namespace Sim
open PySem PySem.Spec PyProof.Rows L2
/-! ### x[k] += e, of a list that a slot owns -/
section
variable {X : Cx}
theorem get_listP : PGet X (rIxL X.K) := by
  intro pins s σ H x y v u Q I rx ry h
  obtain ⟨p, xs, i, z, rfl, rfl, hq, he, q⟩ := h
  cases rx
  obtain ⟨t, rfl⟩ := ry
  obtain ⟨its, r, pl, hz⟩ := I.list hq
  obtain ⟨j, h1, h2, h3, h4, h5⟩ := atI_get he
  obtain ⟨w, ew, rw'⟩ := r.get h2
  have hl := r.length
  have hn := line63
  have fin : EP X pins σ Q w s := ⟨z, H, I, rw', q⟩
  by_cases h0 : 0 ≤ i
  · have hj : i.toNat = j := by
      rw [seqIndex_of h0 h5] at h1
      exact Option.some.inj h1
    exact wpAny_getItem_list pl.isList h0 (by omega) (by rw [hj]; simpa using ew) fin
  · have hj : (i + (its.toArray.size : Int)).toNat = j := by
      rw [seqIndex_neg (by omega) h4] at h1
      rw [List.size_toArray, ← hl]
      exact Option.some.inj h1
    exact wpAny_getItem_list_neg pl.isList (by omega) (by rw [List.size_toArray] <;> omega) (by omega) (by rw [hj]; simpa using ew) fin
end
def auK (i : Nat) (g : Int → Int → Int) (k x : Int) (sv : SV) : SM := fun ρ => match sv, ρ[i]? with
  | .sh (.int y), some (some (.ow (.lst l))) => (ixN l.length k).map fun j => .nx (ρ.set i (some (.fr (l.set j (.int (g x y))))))
  | _, _ => none
def agK (i : Nat) (g : Int → Int → Int) (f : M SV) (o : Op) : SM := fun ρ => match get ρ o, ρ[i]? with
  | some (.int k), some (some (.ow (.lst l))) => match atI l k with
    | some (.int x) => sEx f (auK i g k x) ρ
    | _ => none
  | _, _ => none
def sAugIx (i : Nat) (g : Int → Int → Int) (k : M Op) (f : M SV) : SM := fun ρ => if isFr ρ i = true then sEx k (agK i g f) ρ else none
section
variable {cv : Nat → Value} {X : Cx} {W : WX} {e k o : Expr} {te tk : TE} {f : M SV} {fk : M Op} {pos tpos : Pos} {op : Operator} {g : Int → Int → Int} {i : Nat}
theorem sns_augIx (ho : PE X o (tVar i)) (hk : SndO cv X W k tk fk) (h : SndE cv X W e te f) (hp : PIp X op (ipI g))
    (ha : ∀ ov iv new, augStore k ov iv new = (do holding [new, ov, iv] (setItem ov iv new); release [new, ov, iv] []; pure .next) := by intros; rfl) :
    SndS cv X W (.AugAssign (.Subscript o k tpos) op e pos) (tAugS (tVar i) tk te (rIxL X.K) (ipI g) rSetL) (sAugIx i g fk f) [] := by
  refine ⟨ps_augS ho hk.pe get_listP h.pe hp set_list ha, fun F B H σ ρ D R q => ?_⟩
  unfold sAugIx at q
  by_cases hf : isFr ρ i = true
  · rw [if_pos hf] at q
    obtain ⟨l0, h0⟩ := isFr_at hf
    obtain ⟨a, xs, hs, _⟩ := R.mutate h0
    refine ⟨.ref a, hs, ?_⟩
    refine hk.ad F B H σ ρ _ R (wpm_mono (ws_ex q) (fun p ρ1 q u B1 H1 R1 sm1 ou => ?_) fun _ _ q => q)
    unfold agK at q
    split at q
    · rename_i kk l e1 e2
      split at q
      · rename_i x e3
        obtain ⟨a', xs', hs', hH', hB', r', mk⟩ := R1.mutate e2
        rw [hs] at hs'
        cases hs'
        have hu := (ou.rep R1 e1).int
        subst hu
        obtain ⟨v, hv, rv⟩ := r'.atI e3
        cases rv
        refine ⟨a, xs', kk, .int x, rfl, rfl, SqL.of hH', hv, ?_⟩
        refine h.ad F B1 H1 σ ρ1 _ R1 (wpm_mono (ws_ex2 (σ2 := σ) sm1 Agr.refl q) (fun sv ρ2 q w B2 H2 R2 sm2 ow => ?_) fun c ρ2 q B2 H2 R2 sm2 => q B2 H2 R2 sm2)
        unfold auK at q
        split at q
        · rename_i y l2 e4
          cases ow with
          | sh ry =>
            cases ry
            cases e5 : ixN l2.length kk with
            | none =>
              rw [e5] at q
              exact q.elim
            | some j =>
              rw [e5] at q
              obtain ⟨a2, xs2, hs2, hH2, hB2, r2, mk2⟩ := R2.mutate e4
              rw [hs] at hs2
              cases hs2
              refine ⟨x, y, rfl, rfl, ?_⟩
              refine ⟨a, xs2, kk, j, rfl, rfl, hH2, by rw [r2.length]; exact e5, ?_⟩
              exact q σ B2 _ (mk2 _ _ (r2.set (.int _) j)) (sm1.trans sm2) Agr.refl
        · exact q.elim
      · exact q.elim
    · exact q.elim
  · rw [if_neg hf] at q
    exact q.elim
end
/-! ### instances that a slot owns -/
def setN (f : Str) : List Str → List Str
  | [] => [f]
  | g :: r => if g = f then g :: r else g :: setN f r
def setF (f : Str) (d : D) : List Str → List D → List D
  | [], _ => [d]
  | g :: r, x :: xs => if g = f then d :: xs else x :: setF f d r xs
  | _ :: _, [] => []
theorem setF_length (f : Str) (d : D) : ∀ (ns : List Str) (fs : List D), ns.length = fs.length → (setN f ns).length = (setF f d ns fs).length
  | [], [], _ => rfl
  | g :: r, x :: xs, h => by
    unfold setN setF
    by_cases e : g = f
    · rw [if_pos e, if_pos e]
      exact h
    · rw [if_neg e, if_neg e]
      show (setN f r).length + 1 = (setF f d r xs).length + 1
      rw [setF_length f d r xs (Nat.succ.inj h)]
theorem rep_putF {K : PySem.W.Frag} {H : Hp} {f : Str} {v : V} {d : D} (rv : Rep K H v d) : ∀ {ns : List Str} {xs : List V} {fs : List D}, ns.length = fs.length → RepL K H xs fs →
    ∃ ys, putF f v (ns.zip xs) = (setN f ns).zip ys ∧ RepL K H ys (setF f d ns fs)
  | [], _, _, _, r => ⟨[v], rfl, .cons rv .nil⟩
  | g :: ns, _, _, hl, .nil => by simp at hl
  | g :: ns, x :: xs, d0 :: fs, hl, .cons r0 t => by
    by_cases e : g = f
    · refine ⟨v :: xs, ?_, ?_⟩
      · show putF f v ((g, x) :: ns.zip xs) = (setN f (g :: ns)).zip (v :: xs)
        unfold putF setN
        rw [if_pos e, if_pos e]
        rfl
      · unfold setF
        rw [if_pos e]
        exact .cons rv t
    · obtain ⟨ys, h1, h2⟩ := rep_putF rv (Nat.succ.inj hl) t
      refine ⟨x :: ys, ?_, ?_⟩
      · show putF f v ((g, x) :: ns.zip xs) = (setN f (g :: ns)).zip (x :: ys)
        unfold putF setN
        rw [if_neg e, if_neg e, h1]
        rfl
      · unfold setF
        rw [if_neg e]
        exact .cons r0 h2
def sfK (i : Nat) (c f : Str) (o : Op) : SM := fun ρ => match o, ρ[i]? with
  | .val d, some (some (.ow (.ob c' ns fs))) => if c' = c ∧ ns.length < 1000 then some (.nx (ρ.set i (some (.ow (.ob c' (setN f ns) (setF f d ns fs)))))) else none
  | _, _ => none
def sSetFld (i : Nat) (c f : Str) (m : M Op) : SM := sEx m (sfK i c f)
section
variable {cv : Nat → Value} {X : Cx} {W : WX} {e o : Expr} {te : TE} {fe : M SV} {pos apos : Pos} {i : Nat} {C : Addr} {c f : Str}
theorem sns_setFld (hC : PySem.W.nsIn X.K mainGlobals c = some (some (.ref C))) (cl : Cls X.K C) (na : NoAttr X.K C f) (ho : PE X o (tVar i)) (h : SndE cv X W e te fe) (hs : swapsWith e (some (.Attribute o f apos)) pos.line X.env = pure false := by rfl) :
    SndS cv X W (.Assign [.Attribute o f apos] e pos) (sFld X.K (tVar i) te f) (sSetFld i c f (oOf fe)) [] := by
  refine ⟨ps_fld ho h.pe hs, fun F B H σ ρ D R q => ?_⟩
  refine (snd_o h).ad F B H σ ρ _ R (wpm_mono (ws_ex q) (fun op ρ1 q1 v B1 H1 R1 sm1 ov => ?_) fun _ _ q => q)
  unfold sfK at q1
  split at q1
  · rename_i d c' ns fs e1
    by_cases hc : c' = c ∧ ns.length < 1000
    · rw [if_pos hc] at q1
      obtain ⟨rfl, hl⟩ := hc
      cases ov with
      | val rv =>
        obtain ⟨a, ho', xs, hs', hH, hO, hF, hB, r, mk⟩ := R1.mutateO e1
        obtain ⟨C', dx, hC', rfl, hlen⟩ := hO
        rw [hC] at hC'
        cases hC'
        obtain ⟨ys, g1, g2⟩ := rep_putF (f := f) rv hlen r
        refine ⟨.ref a, hs', a, C, dx, _, rfl, hH, cl, na, by rw [List.length_zip]; exact Nat.lt_of_le_of_lt (Nat.min_le_left _ _) hl, ?_⟩
        rw [g1]
        exact q1 σ B1 _ (mk _ ys (.ob c' (setN f ns) (setF f d ns fs)) ⟨C, dx, hC, rfl, setF_length f d ns fs hlen⟩ g2) sm1 Agr.refl
    · rw [if_neg hc] at q1
      exact q1.elim
  · exact q1.elim
end
/-! ### __init__ -/
def initS (c : Str) (L : Nat) (ds : List D) : Sl := some (.ow (.ob c [] [])) :: (shL ds ++ List.replicate (L - 1 - ds.length) none)
def obAt : Option (Option SV) → Option D
  | some (some (.ow (.ob c ns fs))) => some (.ob c ns fs)
  | _ => none
def initR : Option SO → Option D
  | some (.nx ρ) => obAt ρ[0]?
  | _ => none
def initB (c : Str) (L : Nat) (m : SM) (ds : List D) : Option D := initR (m (initS c L ds))
theorem obAt_some {o : Option (Option SV)} {d : D} (h : obAt o = some d) : ∃ c ns fs, o = some (some (.ow (.ob c ns fs))) ∧ d = .ob c ns fs := by
  unfold obAt at h
  split at h
  · cases h
    exact ⟨_, _, _, rfl, rfl⟩
  · cases h
section
variable {P : Program} {w' : World} {K : PySem.W.Frag} {mg : Str → Option Value} {base : Heap} {cv : Nat → Value}
theorem init_ok {x0 qual c : Str} {st : Stmt} {f : Addr} {fd : FuncData} {N ps : List Str} {k n : Nat} {Φ : List D → Option D} {m : SM} {w : List Nat} (G : Fun K x0 qual st f fd) (S : FnScope N ps (defScope st)) (hn : ps.length = n + 1) (hio : 0 ∉ w) (hN : n + 1 ≤ N.length)
    (body : ∀ (cdv : Value) (A : Around) (outer : List Env) (s : Shared) (H : Hp) (E : XK), Room k (A.deeper (envOfC qual (defScope st) s.heap.objs.size f cdv)) →
      ∃ t, SndSs cv (cxOf (L2.CX P w') P w' K mg base N qual (defScope st) f cdv A outer s H E) (fun cls d _ H => E cls d H) (defBody st) t m w)
    (run : ∀ ds d, Φ ds = some d → initB c N.length m ds = some d) : FnOk P w' K mg base (L2.CX P w') (k + 1) f fd ps (spMk K c n Φ) := by
  refine G.okX S (fun vs H Q E h => ?_) fun cdv A outer s H vs Q E hr h => ?_
  · obtain ⟨x, dx, C', ws, ds, B, d, rfl, _, _, _, _, hl, _⟩ := h
    rw [hn]
    show ws.length + 1 = n + 1
    rw [hl]
  · obtain ⟨t, b⟩ := body cdv A outer s H E hr
    obtain ⟨x, dx, C, ws, ds, B, d, rfl, hC, hx, rl, sB, hl, hd, hBx, kk⟩ := h
    refine ⟨t, b.ps, ?_⟩
    have r := run ds d hd
    unfold initB initR at r
    obtain ⟨F, hF⟩ : ∃ F : Hp, F = fun a => if a = x ∨ B a ≠ none then none else H a := ⟨_, rfl⟩
    have Fx : F x = none := by
      rw [hF]
      exact if_pos (.inl rfl)
    have sF : Same F H := fun a o e => by
      rw [hF] at e
      dsimp only at e
      by_cases z : a = x ∨ B a ≠ none
      · rw [if_pos z] at e
        cases e
      · rw [if_neg z] at e
        exact e
    have dis : ∀ a o, F a = some o → B a = none := fun a o e => by
      rw [hF] at e
      dsimp only at e
      by_cases z : a = x ∨ B a ≠ none
      · rw [if_pos z] at e
        cases e
      · exact Classical.byContradiction fun q => z (.inr q)
    have Fy : ∀ {a o}, H a = some o → a ≠ x → B a = none → F a = some o := fun {a o} e n1 n2 => by
      rw [hF]
      show (if a = x ∨ B a ≠ none then none else H a) = some o
      rw [if_neg (by rintro (z | z); exact n1 z; exact z n2)]
      exact e
    have hwl : ws.length = ds.length := rl.length
    have R0 : Rel K F B H (L2.start N (.ref x :: ws)) (initS c N.length ds) := by
      refine ⟨sB, sF, dis, ?_, fun i sv hi => ?_, fun i j a h1 h2 => ?_⟩
      · unfold initS L2.start shL
        simp only [List.length_cons, List.length_append, List.length_map, List.length_replicate]
        omega
      · unfold initS at hi
        cases i with
        | zero =>
          cases hi
          unfold L2.start
          exact .fr Fx hBx hx ⟨C, dx, hC, rfl, rfl⟩ (xs := []) .nil
        | succ i =>
          have hi : (shL ds ++ List.replicate (N.length - 1 - ds.length) none)[i]? = some (some sv) := hi
          by_cases hlt : i < (shL ds).length
          · rw [List.getElem?_append_left hlt] at hi
            obtain ⟨d', hd', rfl⟩ := shL_at hi
            have hlt' : i < ds.length := (List.getElem?_eq_some_iff.mp hd').1
            obtain ⟨v, hv, rv⟩ := rl.get hd'
            have e : (L2.start N (.ref x :: ws))[i + 1]? = some (some v) := by
              unfold L2.start
              rw [List.getElem?_append_left (by simp; omega), List.getElem?_map, List.getElem?_cons_succ, hv]
              rfl
            rw [e]
            exact .sh rv
          · rw [List.getElem?_append_right (Nat.le_of_not_lt hlt), List.getElem?_replicate] at hi
            split at hi <;> cases hi
      · obtain ⟨⟨c1, g1⟩, _⟩ := h1
        obtain ⟨⟨c2, g2⟩, _⟩ := h2
        have z : ∀ {i : Nat} {cc : OC}, (initS c N.length ds)[i]? = some (some (.ow cc)) → i = 0 := fun {i cc} g => by
          cases i with
          | zero => rfl
          | succ i =>
            have g : (shL ds ++ List.replicate (N.length - 1 - ds.length) none)[i]? = some (some (.ow cc)) := g
            by_cases hlt : i < (shL ds).length
            · rw [List.getElem?_append_left hlt] at g
              obtain ⟨d', _, z⟩ := shL_at g
              cases z
            · rw [List.getElem?_append_right (Nat.le_of_not_lt hlt), List.getElem?_replicate] at g
              split at g <;> cases g
        rw [z g1, z g2]
    refine b.ad F B H _ _ _ R0 ?_
    split at r
    · rename_i ρ' e1
      rw [e1]
      intro σ' B' H' R sm ag
      obtain ⟨c', ns, fs, e2, rfl⟩ := obAt_some r
      have s := R.slot 0 _ e2
      have hs : σ'[0]? = some (some (.ref x)) := (ag 0 hio).trans rfl
      rw [hs] at s
      cases s with
      | @fr _ o xs _ hF' hB' hH' hO' r' =>
        have old : ∀ b o, H b = some o → b ≠ x → H' b = some o := fun a o e n1 => by
          cases hb : B a with
          | none => exact R.exF a o (Fy e n1 hb)
          | some o' =>
            have := sB a o' hb
            rw [e] at this
            cases this
            exact R.exB a o (sm a o hb)
        refine kk H' old ?_
        have mono : Same B' (fun a => if a = x ∨ H a = none then H' a else B a) := fun a o e => by
          have ea := R.exB a o e
          show (if a = x ∨ H a = none then H' a else B a) = some o
          by_cases z : a = x ∨ H a = none
          · rw [if_pos z]
            exact ea
          · rw [if_neg z]
            cases hb : B a with
            | some o' =>
              have := sm a o' hb
              rw [e] at this
              exact this.symm
            | none =>
              cases ha : H a with
              | none => exact (z (.inr ha)).elim
              | some o' =>
                have := R.dis a o' (Fy ha (fun q => z (.inl q)) hb)
                rw [e] at this
                cases this
        exact OC.rep (c := .ob c' ns fs) (by
          show (if x = x ∨ H x = none then H' x else B x) = some o
          rw [if_pos (.inl rfl)]
          exact hH') hO' (r'.mono mono _ _)
    · cases r
end
section
variable {ρ : Sl} {c f : Str} {i L : Nat} {m : SM} {ds : List D} {d : D} {ns : List Str} {fs : List D} {c' : Nat}
theorem e_init : initB c L m ds = initR (m (initS c L ds)) := rfl
theorem k_init1 : initR (some (.nx ρ)) = obAt ρ[0]? := rfl
theorem e_obAt : obAt (some (some (.ow (.ob c ns fs)))) = some (.ob c ns fs) := rfl
theorem e_initS : initS c L ds = some (.ow (.ob c [] [])) :: (shL ds ++ List.replicate (L - 1 - ds.length) none) := rfl
theorem e_setFld {fe : M Op} : sSetFld i c f fe ρ = exK (sfK i c f) (fe ρ) := rfl
def sfIK (i : Nat) (c f : Str) (d : D) (ρ : Sl) : Option (Option SV) → Option SO
  | some (some (.ow (.ob c' ns fs))) => if c' = c ∧ ns.length < 1000 then some (.nx (ρ.set i (some (.ow (.ob c' (setN f ns) (setF f d ns fs)))))) else none
  | _ => none
theorem e_sfK : sfK i c f (.val d) ρ = sfIK i c f d ρ ρ[i]? := by
  unfold sfK sfIK
  generalize ρ[i]? = x
  rcases x with _ | _ | _ | cc <;> first | rfl | (cases cc <;> rfl)
theorem k_sfI : sfIK i c f d ρ (some (some (.ow (.ob c ns fs)))) = if ns.length < 1000 then some (.nx (ρ.set i (some (.ow (.ob c (setN f ns) (setF f d ns fs)))))) else none := by
  show (if c = c ∧ _ then _ else _) = _
  simp only [true_and]
end
end Sim

namespace Sim
open PySem PySem.Spec PyProof.Rows L2
/-! ### methods that may raise -/
def tMethE (C : Addr) (m : Str) (sp : Sp) (E : L2.St → XK) (ta : TE) (t : TA) : TE := fun σ H Q => ta σ H fun x H1 => ∃ a dx fs, x = .ref a ∧ H1 a = some (.ins C dx fs) ∧ fs.lookup m = none ∧ t σ H1 fun ws H2 => sp (x :: ws) H2 Q (E σ)
section
variable {X : Cx} {o e : Expr} {es : List Expr} {ta : TE} {t : TA} {pos apos : Pos} {C f : Addr} {m : Str} {k : Nat} {fd : FuncData} {ps : List Str} {sp : Sp} {E : L2.St → XK} {CX : CXT}
theorem pe_methE {pl : Sem Bool} (he : PE X o ta) (c : Cls X.K C) (hm : Meth X.K C m f) (F : FnOk X.prog X.w X.K X.mg X.base CX k f fd ps sp) (hr : Room k X.A) (hb : Binds X.K fd ps []) (hx : ∀ σ, PassesAt CX X σ (E σ)) (ha : PA X (e :: es) t)
    (hst : starEach (e :: es) X.env = (false, eval e X.env) :: starEach es X.env := by rfl) (hpl : (backTo pos (starEach es X.env)).any (·.1) = false := by rfl)
    (ht : eval (.Call (.Attribute o m apos) (e :: es) [] pos) X.env = (do
      let ov ← eval o X.env
      standAt apos.atName
      let (f, first) ← holding [ov] (getMethod ov m pl)
      callWith pos f first (backTo pos (starEach (e :: es) X.env)) (backToKw pos (keywordEach [] X.env))) := by rfl) :
    PE X (.Call (.Attribute o m apos) (e :: es) [] pos) (tMethE C m sp E ta t) := by
  refine ⟨fun pins s σ H Q I h => ?_⟩
  refine PySem.W.methodCall_KW (pl := pl) (thn (he.run pins s σ H _ I h) fun u s1 ⟨x, H1, I1, rx, a, dx, fs, ex, ea, l, q⟩ => ?_) ht
  subst ex
  obtain rfl : u = Value.ref a := rx
  refine getmeth_ok I1 ea c hm l ?_
  refine PySem.W.callWith_K (first := [.ref a]) (h₀ := X.base) I.ok.mod.kin hm.kp (thn (ha.run pos pins s1 σ H1 _ I1 q) fun us s2 ⟨vs, H2, I2, r, q2⟩ => ⟨I2.kIn, ?_⟩) hst hpl
  exact run_fnS (us := .ref a :: us) (vs := .ref a :: vs) F hr hb (hx σ) I2 (.cons rfl r) q2
end
def mtE (n : Nat) (Φ : List D → Option CR) (o : Op) (os : List Op) : M SV := fun ρ => if os.length = n then callM none Φ (o :: os) ρ else none
def mtOE (c m : Str) (n : Nat) (Φ : List D → Option CR) (fs : M (List Op)) (o : Op) : M SV := fun ρ => if isOb c m (get ρ o) = true then bnd fs (mtE n Φ o) ρ else none
def vMethE (c m : Str) (n : Nat) (Φ : List D → Option CR) (fo : M Op) (fs : M (List Op)) : M SV := bnd fo (mtOE c m n Φ fs)
section
variable {cv : Nat → Value} {X : Cx} {W : WX} {o e : Expr} {es : List Expr} {to : TE} {ts : TA} {fo : M Op} {fs : M (List Op)} {pos apos : Pos} {C : Addr} {c m : Str}
theorem adm_methE {n : Nat} {Φ : List D → Option CR} (hC : PySem.W.nsIn X.K mainGlobals c = some (some (.ref C))) (ho : SndO cv X W o to fo) (ha : SndA cv X W es ts fs) :
    Adm cv W X.K (tMethE C m (spI cv X.K (n + 1) none Φ) (WE W) to ts) (vMethE c m n Φ fo fs) (RV X.K) := by
  intro F B H σ ρ Q R q0
  refine ho.ad F B H σ ρ _ R (wpm_mono (wpm_bnd q0) (fun o ρ1 q1 v B1 H1 R1 sm1 ov => ?_) fun _ _ q => q)
  unfold wpm mtOE at q1
  by_cases hc : isOb c m (get ρ1 o) = true
  · have q : wpm (bnd fs (mtE n Φ o)) ρ1 (fun a ρ' => ∀ (v : V) (B' H' : Hp), Rel X.K F B' H' σ ρ' → Same B B' → RV X.K F B' H' σ ρ' v a → Q v H') (fun c ρ' => ∀ (B' H' : Hp), Rel X.K F B' H' σ ρ' → Same B B' → W (cv c) none σ H') := by
      simp only [if_pos hc] at q1
      exact q1
    clear q1 q0
    obtain ⟨d0, c', ns, fs', e0, eob, hc2⟩ := isOb_at hc
    rw [Bool.and_eq_true, decide_eq_true_eq] at hc2
    obtain ⟨rfl, hm⟩ := hc2
    obtain ⟨a, C', dx, xs, rfl, hC', hH, hl, r⟩ := (eob ▸ (ov.rep R1 e0).obF).ob R1.exB
    rw [hC] at hC'
    cases hC'
    have hn : m ∉ ns := by
      intro h
      rw [List.contains_iff_mem.mpr h] at hm
      cases hm
    refine ⟨a, dx, _, rfl, hH, zip_none hn, ?_⟩
    refine ha.ad F B1 H1 σ ρ1 _ R1 (wpm_mono (wpm_bnd q) (fun os ρ2 q vs B2 H2 R2 sm2 ovs => ?_) fun cc ρ2 q B2 H2 R2 sm2 => q B2 H2 R2 (sm1.trans sm2))
    unfold wpm mtE at q
    by_cases hl2 : os.length = n
    · simp only [if_pos hl2] at q
      refine adm_callM R2 (.cons (ov.mono sm2) ovs) (by rw [List.length_cons, hl2]) ?_
      exact wpm_mono (m := callM none Φ (o :: os)) q (fun a ρ' q v B' H' R' sm rv => q v B' H' R' ((sm1.trans sm2).trans sm) rv) fun c ρ' q B' H' R' sm => q B' H' R' ((sm1.trans sm2).trans sm)
    · simp only [if_neg hl2] at q
  · simp only [if_neg hc] at q1
theorem snd_methE {pl : Sem Bool} {n k : Nat} {Φ : List D → Option CR} {f : Addr} {fd : FuncData} {ps : List Str} (hC : PySem.W.nsIn X.K mainGlobals c = some (some (.ref C))) (cl : Cls X.K C) (hm : Meth X.K C m f)
    (G : FnOk X.prog X.w X.K X.mg X.base (L2.CX X.prog X.w) k f fd ps (spI cv X.K (n + 1) none Φ)) (hr : Room k X.A) (hb : Binds X.K fd ps []) (tk : Takes X W) (ho : SndO cv X W o to fo) (ha : SndA cv X W (e :: es) ts fs)
    (hst : starEach (e :: es) X.env = (false, eval e X.env) :: starEach es X.env := by rfl) (hpl : (backTo pos (starEach es X.env)).any (·.1) = false := by rfl)
    (ht : eval (.Call (.Attribute o m apos) (e :: es) [] pos) X.env = (do
      let ov ← eval o X.env
      standAt apos.atName
      let (f, first) ← holding [ov] (getMethod ov m pl)
      callWith pos f first (backTo pos (starEach (e :: es) X.env)) (backToKw pos (keywordEach [] X.env))) := by rfl) :
    SndE cv X W (.Call (.Attribute o m apos) (e :: es) [] pos) (tMethE C m (spI cv X.K (n + 1) none Φ) (WE W) to ts) (vMethE c m n Φ fo fs) := ⟨pe_methE (pl := pl) ho.pe cl hm G hr hb (fun σ => passAt tk σ) ha.pa hst hpl ht, adm_methE hC ho ha⟩
end
/-! ### making that may raise -/
def tMakeE (C : Addr) (sp : Sp) (E : L2.St → XK) (t : TA) : TE := fun σ H Q => t σ H fun vs H1 => ∀ x dx, H1 x = none → H1 dx = none → dx ≠ x →
  sp (.ref x :: vs) (upd (upd H1 dx (.own x)) x (.ins C dx [])) (fun v H2 => v = .non ∧ Q (.ref x) H2) (E σ)
section
variable {X : Cx} {e : Expr} {es : List Expr} {t : TA} {pos p : Pos} {C f : Addr} {x : Str} {k : Nat} {fd : FuncData} {ps : List Str} {sp : Sp} {E : L2.St → XK} {CX : CXT}
theorem run_makeE {pins : List (Addr × Obj)} {σ : L2.St} {H : Hp} {s : Shared} {Q : VK} {us : List Value} {vs : List V} (M : Mk X.K C f) (F : FnOk X.prog X.w X.K X.mg X.base CX k f fd ps sp) (hr : Room (k + 1) X.A) (hb : Binds X.K fd ps [])
    (hx : PassesAt CX X σ (E σ)) (I : Inv X pins σ H s) (r : Vals vs us)
    (h : ∀ x dx, H x = none → H dx = none → dx ≠ x → sp (.ref x :: vs) (upd (upd H dx (.own x)) x (.ins C dx [])) (fun v H2 => v = .non ∧ Q (.ref x) H2) (E σ)) :
    wpAny (model X.prog X.w) X.A (call (.ref C) us) (EP X pins σ Q) X.xe s := by
  have hq := h (s.heap.objs.size + 1) s.heap.objs.size (I.hok.fresh (Nat.le_succ _)) (I.hok.fresh (Nat.le_refl _)) (Nat.ne_of_lt (Nat.lt_succ_self _))
  have I2 := Inv.made (C := C) I
  have r2 : Vals (V.ref (s.heap.objs.size + 1) :: vs) (Value.ref (s.heap.objs.size + 1) :: us) := .cons rfl r
  have hl : (Value.ref (s.heap.objs.size + 1) :: us ++ []).length = ps.length := by
    have e := r2.length
    rw [F.len _ _ _ _ hq] at e
    rw [List.append_nil]
    exact e.symm
  have bb := hb _ (Value.ref (s.heap.objs.size + 1) :: us) I2.kIn hl
  rw [List.append_nil] at bb
  refine wpAny_call (make_map (f := f) I.kIn M.makes M.init (beq_iff_eq.mp M.fn) (codeAny_mono (F.run _ X.stack _ _ ⟨Value.ref (s.heap.objs.size + 1) :: us, []⟩ (Value.ref (s.heap.objs.size + 1) :: us) _ _ (E σ) (hr.make C us [])
    (I2.env0.make C us []) bb r2 hq) fun r s' hq' => ?_))
  cases r with
  | error e => exact hx pins _ _ e s' I2 hq'
  | ok fl =>
    cases fl with
    | ret u =>
      obtain ⟨v, H', I3, rv, ev, q3⟩ := I2.after hq'
      subst ev
      exact ⟨rv, ⟨V.ref (s.heap.objs.size + 1), H', I3, rfl, q3⟩⟩
    | next => exact False.elim hq'
    | brk => exact False.elim hq'
    | cont => exact False.elim hq'
theorem pe_makeE (M : Mk X.K C f) (F : FnOk X.prog X.w X.K X.mg X.base CX k f fd ps sp) (hr : Room (k + 1) X.A) (hg : Gl X x) (hm : X.mg x = some (.ref C)) (hb : Binds X.K fd ps []) (hx : ∀ σ, PassesAt CX X σ (E σ))
    (ha : PA X (e :: es) t) (hdb : (x == ("__debug__" : Str)) = false := by decide) (he : starEach (e :: es) X.env = (false, eval e X.env) :: starEach es X.env := by rfl) (hpl : (backTo pos (starEach es X.env)).any (·.1) = false := by rfl) :
    PE X (.Call (.Name x p) (e :: es) [] pos) (tMakeE C sp E t) := by
  refine ⟨fun pins s σ H Q I h => ?_⟩
  refine wpAny_Call_Name_kw (ld_glob I hg hm ?_ hdb)
  refine PySem.W.callWith_K (h₀ := X.base) I.ok.mod.kin M.kp (thn (ha.run pos pins s σ H _ I h) fun us s1 ⟨vs, H1, I1, r, q⟩ => ⟨I1.kIn, ?_⟩) he hpl
  exact run_makeE M F hr hb (hx σ) I1 r q
end
end Sim

namespace Sim
open PySem PySem.Spec PyProof.Rows L2
theorem units65 {k : Nat} {A : Around} (r : Room k A) : A.units + 65 < cLine := by have := r.un; omega
/-! ### a tuple of names, in a block -/
theorem sng_tupK {K : PySem.W.Frag} {X : Cx} {es : List Expr} {pos : Pos} {w : List Nat} {k len : Nat} {tgs : TGs} {gs : List D → Sl → Option Sl} (hK : X.K = K) (hc : X.calm = true) (h : SndGs X es tgs gs w)
    (hn : (assignEach es X.env).length = len := by rfl) (hst : (assignEach es X.env).findIdx? (·.1) = none := by rfl) : SndG X (.Tuple es k pos) (gTup K len tgs) (gT len gs) w := by
  subst hK
  exact sng_tup hc h hn hst
/-! ### three names, exchanged -/
def sPar3 (i j l : Nat) (as : M (List Op)) : SM := sEx as fun os ρ => match vals os with
  | some [x, y, z] => if i < ρ.length ∧ j < ρ.length ∧ l < ρ.length then some (.nx (((ρ.set i (some (.sh x))).set j (some (.sh y))).set l (some (.sh z)))) else none
  | _ => none
section
variable {cv : Nat → Value} {X : Cx} {W : WX} {a b c : Expr}
theorem sns_par3 {i j l : Nat} {x y z : Str} {tas : TA} {fas : M (List Op)} {px py pz pt pos : Pos} {kt k2 : Nat} {pt2 : Pos} (hc : X.calm = true) (hN : X.N.Nodup) (hi : X.N[i]? = some x) (hj : X.N[j]? = some y) (hl : X.N[l]? = some z)
    (hij : i ≠ j) (hil : i ≠ l) (hjl : j ≠ l) (hx : X.env.scope.names.lookup x = some .local) (hy : X.env.scope.names.lookup y = some .local) (hz : X.env.scope.names.lookup z = some .local) (ha : SndA cv X W [a, b, c] tas fas)
    (hw : swappedStores [.Tuple [.Name x px, .Name y py, .Name z pz] kt pt] (.Tuple [a, b, c] k2 pt2) X.env = pure (some [x, y, z]) := by rfl) :
    SndS cv X W (.Assign [.Tuple [.Name x px, .Name y py, .Name z pz] kt pt] (.Tuple [a, b, c] k2 pt2) pos) (tPar3 i j l tas) (sPar3 i j l fas) [i, j, l] := by
  refine ⟨ps_par3 hc hN hi hj hl hij hil hjl hx hy hz ha.pa hw, fun F B H σ ρ D R q => ?_⟩
  refine ha.ad F B H σ ρ _ R (wpm_mono (ws_ex q) (fun os ρ1 q vs B1 H1 R1 sm1 ov => ?_) fun _ _ q => q)
  split at q
  · rename_i d1 d2 d3 e
    by_cases hlen : i < ρ1.length ∧ j < ρ1.length ∧ l < ρ1.length
    · rw [if_pos hlen] at q
      obtain ⟨hi', hj', hl'⟩ := hlen
      cases ov.vals e with
      | cons r1 t =>
        cases t with
        | cons r2 t =>
          cases t with
          | cons r3 t =>
            cases t
            refine ⟨_, _, _, rfl, ?_⟩
            have S1 := R1.store (i := i) (.sh r1) hi'
            have S2 := S1.store (i := j) (.sh r2) (by rw [List.length_set]; exact hj')
            have S3 := S2.store (i := l) (.sh r3) (by rw [List.length_set, List.length_set]; exact hl')
            refine q _ B1 H1 S3 sm1 fun m hm => ?_
            have h1 : i ≠ m := fun z => hm (by rw [← z]; exact List.mem_cons_self)
            have h2 : j ≠ m := fun z => hm (by rw [← z]; exact List.mem_cons_of_mem _ List.mem_cons_self)
            have h3 : l ≠ m := fun z => hm (by rw [← z]; exact List.mem_cons_of_mem _ (List.mem_cons_of_mem _ List.mem_cons_self))
            rw [List.getElem?_set_ne h3, List.getElem?_set_ne h2, List.getElem?_set_ne h1]
    · rw [if_neg hlen] at q
      exact q.elim
  · exact q.elim
end
end Sim

namespace Sim
open PySem PySem.Spec PyProof.Rows L2
/-! ### runs that the kernel can work out: what they tell the runs tell -/
def Le {β : Type} (f g : Sl → Option β) : Prop := ∀ ρ r, f ρ = some r → g ρ = some r
def Lf {α β : Type} (f g : α → Option β) : Prop := ∀ x r, f x = some r → g x = some r
def Lg {α γ β : Type} (f g : α → γ → Option β) : Prop := ∀ x y r, f x y = some r → g x y = some r
theorem le_rfl {β : Type} {f : Sl → Option β} : Le f f := fun _ _ h => h
theorem lf_rfl {α β : Type} {f : α → Option β} : Lf f f := fun _ _ h => h
theorem lg_rfl {α γ β : Type} {f : α → γ → Option β} : Lg f f := fun _ _ _ h => h
theorem le_none {β : Type} {f : Sl → Option β} : Le (fun _ => none) f := fun _ _ h => nomatch h
theorem lf_none {α β : Type} {f : α → Option β} : Lf (fun _ => none) f := fun _ _ h => nomatch h
theorem le_bnd {α β : Type} {f f' : M α} {k k' : α → M β} (h : Le f f') (hk : ∀ a, Le (k a) (k' a)) : Le (bnd f k) (bnd f' k') := by
  intro ρ r e
  unfold bnd at e ⊢
  cases e1 : f ρ with
  | none =>
    rw [e1] at e
    cases e
  | some o =>
    rw [e1] at e
    rw [h ρ o e1]
    cases o with
    | ok a ρ' => exact hk a ρ' r e
    | ex c ρ' => exact e
theorem le_ex {α : Type} {f f' : M α} {k k' : α → SM} (h : Le f f') (hk : ∀ a, Le (k a) (k' a)) : Le (sEx f k) (sEx f' k') := by
  intro ρ r e
  unfold sEx at e ⊢
  cases e1 : f ρ with
  | none =>
    rw [e1] at e
    cases e
  | some o =>
    rw [e1] at e
    rw [h ρ o e1]
    cases o with
    | ok a ρ' => exact hk a ρ' r e
    | ex c ρ' => exact e
theorem le_if {β : Type} {b : Prop} [Decidable b] {f f' g g' : Sl → Option β} (h : Le f f') (k : Le g g') : Le (fun ρ => if b then f ρ else g ρ) (fun ρ => if b then f' ρ else g' ρ) := by
  intro ρ r e
  by_cases hb : b
  · simp only [if_pos hb] at e ⊢
    exact h ρ r e
  · simp only [if_neg hb] at e ⊢
    exact k ρ r e
theorem le_ite {β : Type} {b : Prop} [Decidable b] {f f' g g' : Sl → Option β} (h : Le f f') (k : Le g g') : Le (if b then f else g) (if b then f' else g') := by
  by_cases hb : b
  · rw [if_pos hb, if_pos hb]
    exact h
  · rw [if_neg hb, if_neg hb]
    exact k
/-- a condition on the state ahead -/
theorem le_grd {β : Type} {p : Sl → Bool} {f f' : Sl → Option β} (h : Le f f') : Le (fun ρ => if p ρ = true then f ρ else none) (fun ρ => if p ρ = true then f' ρ else none) := by
  intro ρ r e
  by_cases hb : p ρ = true
  · simp only [if_pos hb] at e ⊢
    exact h ρ r e
  · simp only [if_neg hb] at e
    cases e
section
variable {f f' g g' h h' : M SV} {a a' b b' c c' : M Op} {as as' : M (List Op)} {t t' u u' : M Bool} {m m' n n' : SM} {q q' : M (Option Int)} {it it' : M Itb}
theorem le_of (h : Le f f') : Le (oOf f) (oOf f') := le_bnd h fun _ => le_rfl
theorem le_ac (h : Le a a') (k : Le as as') : Le (aCons a as) (aCons a' as') := le_bnd h fun _ => le_bnd k fun _ => le_rfl
theorem le_l1 {g g' : D → Option SV} (hg : Lf g g') {o : Op} : Le (lift1 g o) (lift1 g' o) := by
  intro ρ r e
  unfold lift1 at e ⊢
  split at e
  · rename_i x ex
    cases e2 : g x with
    | none =>
      rw [e2] at e
      cases e
    | some sv =>
      rw [e2] at e
      rw [hg x sv e2]
      exact e
  · cases e
theorem le_l2 {g g' : D → D → Option SV} (hg : Lg g g') {o p : Op} : Le (lift2 g o p) (lift2 g' o p) := by
  intro ρ r e
  unfold lift2 at e ⊢
  split at e
  · rename_i x y ex ey
    cases e2 : g x y with
    | none =>
      rw [e2] at e
      cases e
    | some sv =>
      rw [e2] at e
      rw [hg x y sv e2]
      exact e
  · cases e
theorem le_lA {g g' : List D → Option SV} (hg : Lf g g') {os : List Op} : Le (liftA g os) (liftA g' os) := by
  intro ρ r e
  unfold liftA at e ⊢
  split at e
  · rename_i x ex
    cases e2 : g x with
    | none =>
      rw [e2] at e
      cases e
    | some sv =>
      rw [e2] at e
      rw [hg x sv e2]
      exact e
  · cases e
theorem le_op1 {g g' : D → Option SV} (hg : Lf g g') (h : Le a a') : Le (vOp1 g a) (vOp1 g' a') := le_bnd h fun _ => le_l1 hg
theorem le_op2 {g g' : D → D → Option SV} (hg : Lg g g') (h : Le a a') (k : Le b b') : Le (vOp2 g a b) (vOp2 g' a' b') := le_bnd h fun _ => le_bnd k fun _ => le_l2 hg
theorem le_bi {g g' : List D → Option SV} (hg : Lf g g') (h : Le as as') : Le (vBi g as) (vBi g' as') := le_bnd h fun _ => le_lA hg
theorem le_is {p : D → Bool} (h : Le a a') : Le (vIs p a) (vIs p a') := le_op1 lf_rfl h
theorem le_revL (h : Le a a') : Le (vRevL a) (vRevL a') := le_op1 lf_rfl h
theorem le_tup (h : Le as as') : Le (vTup as) (vTup as') := le_bnd h fun _ => le_rfl
theorem le_lst (h : Le as as') : Le (vLst as) (vLst as') := le_bnd h fun _ => le_rfl
theorem le_tst (h : Le f f') : Le (tst f) (tst f') := le_bnd h fun _ => le_rfl
theorem le_tand (h : Le t t') (k : Le u u') : Le (tand t u) (tand t' u') := le_bnd h fun _ => le_ite k le_rfl
theorem le_tor (h : Le t t') (k : Le u u') : Le (tor t u) (tor t' u') := le_bnd h fun _ => le_ite le_rfl k
theorem le_tnot (h : Le t t') : Le (tnot t) (tnot t') := le_bnd h fun _ => le_rfl
theorem le_vand (h : Le f f') (k : Le g g') : Le (vand f g) (vand f' g') := le_bnd (le_tst h) fun _ => le_ite k le_rfl
theorem le_vor (h : Le f f') (k : Le g g') : Le (vor f g) (vor f' g') := le_bnd (le_tst h) fun _ => le_ite le_rfl k
theorem le_vnot (h : Le f f') : Le (vnot f) (vnot f') := le_bnd (le_tst h) fun _ => le_rfl
theorem le_vif (h : Le t t') (k : Le f f') (l : Le g g') : Le (vif t f g) (vif t' f' g') := le_bnd h fun _ => le_ite k l
theorem le_chain {p p' r r' : D → D → Option SV} (hp : Lg p p') (hr : Lg r r') (h : Le a a') (k : Le b b') (l : Le c c') : Le (vChain p r a b c) (vChain p' r' a' b' c') :=
  le_bnd h fun _ => le_bnd k fun _ => le_bnd (le_tst (le_l2 hp)) fun _ => le_ite (le_bnd l fun _ => le_l2 hr) le_rfl
theorem le_pIn (h : Le f f') : Le (pIn f) (pIn f') := le_bnd h fun _ => le_rfl
theorem le_sl (h : Le a a') (k : Le q q') {p p' : M (Option Int)} (l : Le p p') : Le (vSl a q p) (vSl a' q' p') := le_bnd h fun _ => le_bnd k fun _ => le_bnd l fun _ => le_rfl
theorem le_mt {i : Nat} {g : List D → List D → Option (D × List D)} (h : Le as as') : Le (vMt i g as) (vMt i g as') := le_grd (p := fun ρ => isFr ρ i) (le_bnd h fun _ => le_rfl)
theorem le_mp {ck : D → Bool} {g g' : D → List D → Option SV} (hg : Lg g g') (h : Le a a') (k : Le as as') : Le (vMp ck g a as) (vMp ck g' a' as') := le_bnd h fun o => le_grd (p := fun ρ => ckO ck (get ρ o)) (le_bnd k fun os => by
  intro ρ r e
  unfold mpF mfK okK at e ⊢
  split at e
  · rename_i x xs ex es
    cases e2 : g x xs with
    | none =>
      rw [e2] at e
      cases e
    | some sv =>
      rw [e2] at e
      rw [hg x xs sv e2]
      exact e
  · cases e)
theorem le_callM {io : Option Nat} {Φ Ψ : List D → Option CR} (hp : Lf Φ Ψ) {os : List Op} : Le (callM io Φ os) (callM io Ψ os) := by
  intro ρ r e
  unfold callM at e ⊢
  split at e
  · cases e
  · rename_i ds eg
    split at e
    · cases e
    · rename_i res er
      rw [hp ds res er]
      exact e
theorem le_call {n : Nat} {io : Option Nat} {Φ Ψ : List D → Option CR} (hp : Lf Φ Ψ) (h : Le as as') : Le (vCall n io Φ as) (vCall n io Ψ as') := le_bnd h fun _ => le_if (le_callM hp) le_rfl
theorem le_call0 {Φ Ψ : List D → Option CR} (hp : Lf Φ Ψ) : Le (vCall0 Φ) (vCall0 Ψ) := by
  intro ρ r e
  unfold vCall0 at e ⊢
  split at e
  · rename_i sv out er
    rw [hp [] _ er]
    exact e
  · cases e
theorem le_okO {m m' : M SV} (h : Le m m') : Le (fun ρ => okO (m ρ)) (fun ρ => okO (m' ρ)) := by
  intro ρ r e
  cases e1 : m ρ with
  | none =>
    simp only [e1] at e
    cases e
  | some o =>
    simp only [e1] at e
    show okO (m' ρ) = _
    rw [h ρ o e1]
    exact e
theorem le_meth {c m : Str} {n : Nat} {Φ Ψ : List D → Option CR} (hp : Lf Φ Ψ) (h : Le a a') (k : Le as as') : Le (vMeth c m n Φ a as) (vMeth c m n Ψ a' as') :=
  le_bnd h fun o => le_grd (p := fun ρ => isOb c m (get ρ o)) (le_bnd k fun _ => le_if (le_okO (le_callM hp)) le_rfl)
theorem le_methE {c m : Str} {n : Nat} {Φ Ψ : List D → Option CR} (hp : Lf Φ Ψ) (h : Le a a') (k : Le as as') : Le (vMethE c m n Φ a as) (vMethE c m n Ψ a' as') :=
  le_bnd h fun o => le_grd (p := fun ρ => isOb c m (get ρ o)) (le_bnd k fun _ => le_if (le_callM hp) le_rfl)
theorem le_mk {n : Nat} {Φ Ψ : List D → Option D} (hp : Lf Φ Ψ) (h : Le as as') : Le (vMk n Φ as) (vMk n Ψ as') := le_bnd h fun os => by
  intro ρ r e
  have e : mkO n Φ ρ (vals os) = some r := e
  show mkO n Ψ ρ (vals os) = some r
  cases ev : vals os with
  | none =>
    rw [ev] at e
    cases e
  | some ds =>
    rw [ev] at e
    have e : (if ds.length = n then (Φ ds).map (fun d => Out.ok (SV.sh d) ρ) else none) = some r := e
    show (if ds.length = n then (Ψ ds).map (fun d => Out.ok (SV.sh d) ρ) else none) = some r
    by_cases hl : ds.length = n
    · rw [if_pos hl] at e ⊢
      cases e2 : Φ ds with
      | none =>
        rw [e2] at e
        cases e
      | some d =>
        rw [e2] at e
        rw [hp ds d e2]
        exact e
    · rw [if_neg hl] at e
      cases e
theorem le_getK (h : Le a a') (k : Le b b') (l : Le c c') : Le (vGetK a b c) (vGetK a' b' c') := le_bnd h fun o => le_grd (p := fun ρ => isDck (get ρ o)) (le_bnd k fun _ => le_bnd l fun _ => le_rfl)
theorem le_dn1 (h : Le a a') (k : Le b b') : Le (vDn1 a b) (vDn1 a' b') := le_bnd h fun _ => le_bnd k fun _ => le_rfl
theorem le_iLs (h : Le a a') : Le (iLs a) (iLs a') := le_bnd h fun _ => le_rfl
theorem le_iTp (h : Le a a') : Le (iTp a) (iTp a') := le_bnd h fun _ => le_rfl
theorem le_iR1 (h : Le as as') : Le (iR1 as) (iR1 as') := le_bnd h fun _ => le_rfl
theorem le_iR2 (h : Le as as') : Le (iR2 as) (iR2 as') := le_bnd h fun _ => le_rfl
theorem le_iR3 (h : Le as as') : Le (iR3 as) (iR3 as') := le_bnd h fun _ => le_rfl
theorem le_iRv (h : Le as as') : Le (iRv as) (iRv as') := le_bnd h fun _ => le_rfl
theorem le_iZp (h : Le as as') : Le (iZp as) (iZp as') := le_bnd h fun _ => le_rfl
theorem le_iEn (h : Le as as') : Le (iEn as) (iEn as') := le_bnd h fun _ => le_rfl
/-! #### statements -/
theorem le_seq (h : Le m m') (k : Le n n') : Le (sSeq m n) (sSeq m' n') := by
  intro ρ r e
  unfold sSeq at e ⊢
  cases e1 : m ρ with
  | none =>
    rw [e1] at e
    cases e
  | some o =>
    rw [e1] at e
    rw [h ρ o e1]
    cases o with
    | nx ρ' => exact k ρ' r e
    | _ => exact e
theorem le_sif (h : Le t t') (k : Le m m') (l : Le n n') : Le (sIf t m n) (sIf t' m' n') := le_ex h fun _ => le_ite k l
theorem le_ret (h : Le f f') : Le (sRet f) (sRet f') := le_ex h fun _ => le_rfl
theorem le_drop (h : Le f f') : Le (sDrop f) (sDrop f') := le_ex h fun _ => le_rfl
theorem le_asg {g : SV → Sl → Option Sl} (h : Le f f') : Le (sAsg f g) (sAsg f' g) := le_ex h fun _ => le_rfl
theorem le_par {i j : Nat} (h : Le as as') : Le (sPar i j as) (sPar i j as') := le_ex h fun _ => le_rfl
theorem le_par3 {i j l : Nat} (h : Le as as') : Le (sPar3 i j l as) (sPar3 i j l as') := le_ex h fun _ => le_rfl
theorem le_aug {i : Nat} {g : Int → Int → Int} (h : Le f f') : Le (sAug i g f) (sAug i g f') := by
  intro ρ r e
  unfold sAug at e ⊢
  split at e
  · exact le_ex h (fun _ => le_rfl) ρ r e
  · cases e
theorem le_setIx {i : Nat} (h : Le a a') (k : Le b b') : Le (sSetIx i a b) (sSetIx i a' b') := le_ex h fun _ => le_grd (p := fun ρ => isFr ρ i) (le_ex k fun _ => le_rfl)
theorem le_dputK {i : Nat} (h : Le a a') (k : Le b b') : Le (sDPutK i a b) (sDPutK i a' b') := le_ex h fun _ => le_grd (p := fun ρ => isDk ρ i) (le_ex k fun _ => le_rfl)
theorem le_dputT {i : Nat} (h : Le a a') (k : Le as as') : Le (sDPutT i a as) (sDPutT i a' as') := le_ex h fun _ => le_grd (p := fun ρ => isDt ρ i) (le_ex k fun _ => le_rfl)
theorem le_setFld {i : Nat} {c f : Str} (h : Le a a') : Le (sSetFld i c f a) (sSetFld i c f a') := le_ex h fun _ => le_rfl
theorem le_augIx {i : Nat} {g : Int → Int → Int} (h : Le a a') (k : Le f f') : Le (sAugIx i g a f) (sAugIx i g a' f') := le_grd (p := fun ρ => isFr ρ i) (le_ex h fun o => by
  intro ρ r e
  unfold agK at e ⊢
  split at e
  · rename_i x l e1 e2
    split at e
    · rename_i y e3
      exact le_ex k (fun _ => le_rfl) ρ r e
    · cases e
  · cases e)
theorem le_turn {k k' : SM} (h : Le k k') {o : Option SO} {r : SO} (e : turnK k o = some r) : turnK k' o = some r := by
  unfold turnK at e ⊢
  split at e
  · exact h _ _ e
  · exact h _ _ e
  · exact e
  · exact e
theorem le_forL {g : SV → Sl → Option Sl} (h : Le m m') : ∀ ds : List D, Le (forL g m ds) (forL g m' ds)
  | [] => le_rfl
  | d :: ds => by
    intro ρ r e
    unfold forL at e ⊢
    cases e1 : g (.sh d) ρ with
    | none =>
      rw [e1] at e
      cases e
    | some ρ1 =>
      rw [e1, Option.bind_some] at e
      rw [Option.bind_some]
      cases e2 : m ρ1 with
      | none =>
        rw [e2] at e
        cases e
      | some o =>
        rw [e2] at e
        rw [h ρ1 o e2]
        exact le_turn (le_forL h ds) e
theorem le_for {g : SV → Sl → Option Sl} (hi : Le it it') (h : Le m m') : Le (sFor it g m) (sFor it' g m') := le_ex hi fun ib => le_ite (le_forL h ib.ds) le_rfl
theorem le_loop (h : Le t t') (k : Le m m') : ∀ n : Nat, Le (loopN t m n) (loopN t' m' n)
  | 0 => le_rfl
  | n + 1 => le_ex h fun _ => le_ite (by
    intro ρ r e
    cases e2 : m ρ with
    | none =>
      simp only [e2] at e
      cases e
    | some o =>
      simp only [e2] at e
      show turnK (loopN t' m' n) (m' ρ) = some r
      rw [k ρ o e2]
      exact le_turn (le_loop h k n) e) le_rfl
theorem le_while {n : Nat} (h : Le t t') (k : Le m m') : Le (loopN t m n) (sWhile t' m') := fun ρ r e => sWhile_of (le_loop h k n ρ r e)
theorem le_run {io : Option Nat} {L : Nat} (h : Le m m') : Lf (runB io L m) (runB io L m') := by
  intro ds r e
  unfold runB at e ⊢
  cases e1 : m (startS io L ds) with
  | none =>
    rw [e1] at e
    cases e
  | some o =>
    rw [e1] at e
    rw [h _ o e1]
    exact e
theorem le_init {c : Str} {L : Nat} (h : Le m m') : Lf (initB c L m) (initB c L m') := by
  intro ds r e
  unfold initB at e ⊢
  cases e1 : m (initS c L ds) with
  | none =>
    rw [e1] at e
    cases e
  | some o =>
    rw [e1] at e
    rw [h _ o e1]
    exact e
end
/-! #### comprehensions -/
def lcR (vs : List Nat) (g : SV → Sl → Option Sl) (c : M Bool) (elt : M SV) : Nat → List D → List D → Sl → Option (List D × Sl)
  | _, [], acc, ρ => some (acc.reverse, ρ)
  | 0, _ :: _, _, _ => none
  | k + 1, d :: ds, acc, ρ => match g (.sh d) (wipeS ρ vs) with
    | none => none
    | some ρ1 => match c ρ1 with
      | some (.ok true ρ2) => (match elt ρ2 with
        | some (.ok sv ρ3) => lcR vs g c elt k ds (sv.d :: acc) ρ3
        | _ => none)
      | some (.ok false ρ2) => lcR vs g c elt k ds acc ρ2
      | _ => none
def vLcC (vs : List Nat) (it : M Itb) (g : SV → Sl → Option Sl) (c : M Bool) (elt : M SV) : M SV := bnd it fun ib ρ =>
  if (ib.pk.isEmpty && vs.all fun v => !isOw ρ v) = true then (lcR vs g c elt 900000 ib.ds [] ρ).map fun r => .ok (.fr r.1) (restS ρ r.2 vs) else none
theorem lcR_le {vs : List Nat} {g : SV → Sl → Option Sl} {c c' : M Bool} {elt elt' : M SV} (hc : Le c c') (he : Le elt elt') : ∀ (k : Nat) (ds acc : List D) (ρ : Sl) (r : List D × Sl), k + acc.length < 1000000 → lcR vs g c elt k ds acc ρ = some r → lcL vs [] g c' elt' ds acc.reverse ρ = some r
  | k, [], acc, ρ, r, _, h => by
    unfold lcR at h
    unfold lcL
    rw [if_pos (show pkOk [] (wipeS ρ vs) from fun _ h => nomatch h)]
    cases k <;> exact h
  | 0, d :: ds, acc, ρ, r, _, h => by
    unfold lcR at h
    cases h
  | k + 1, d :: ds, acc, ρ, r, hl, h => by
    unfold lcR at h
    unfold lcL
    rw [if_pos (show pkOk [] (wipeS ρ vs) ∧ acc.reverse.length < 1000000 from ⟨fun _ h => (nomatch h), by rw [List.length_reverse]; omega⟩)]
    cases e1 : g (.sh d) (wipeS ρ vs) with
    | none =>
      rw [e1] at h
      cases h
    | some ρ1 =>
      simp only [e1] at h ⊢
      cases e2 : c ρ1 with
      | none =>
        simp only [e2] at h
        cases h
      | some o =>
        simp only [e2] at h
        rw [hc ρ1 o e2]
        cases o with
        | ex _ _ => cases h
        | ok b ρ2 =>
          cases b with
          | false => exact lcR_le hc he k ds acc ρ2 r (by omega) h
          | true =>
            dsimp only at h ⊢
            cases e3 : elt ρ2 with
            | none =>
              simp only [e3] at h
              cases h
            | some o3 =>
              simp only [e3] at h
              rw [he ρ2 o3 e3]
              cases o3 with
              | ex _ _ => cases h
              | ok sv ρ3 =>
                have := lcR_le hc he k ds (sv.d :: acc) ρ3 r (by rw [List.length_cons]; omega) h
                rw [List.reverse_cons] at this
                exact this
theorem le_lc {vs : List Nat} {it it' : M Itb} {g : SV → Sl → Option Sl} {c c' : M Bool} {elt elt' : M SV} (hi : Le it it') (hc : Le c c') (he : Le elt elt') : Le (vLcC vs it g c elt) (vLc vs it' g c' elt') := le_bnd hi fun ib => by
  intro ρ r e
  by_cases hb : (ib.pk.isEmpty && vs.all fun v => !isOw ρ v) = true
  · simp only [if_pos hb] at e
    rw [Bool.and_eq_true] at hb
    obtain ⟨h1, h2⟩ := hb
    have hpk : ib.pk = [] := List.isEmpty_iff.mp h1
    have nf : noFr ρ vs := fun v hv l hl => by
      have := List.all_eq_true.mp h2 v hv
      unfold isOw at this
      rw [hl] at this
      cases this
    have cnd : noFr ρ vs ∧ (∀ q ∈ ib.pk, q.1 ∉ vs) ∧ pkOk ib.pk ρ := ⟨nf, by rw [hpk]; exact fun _ h => (nomatch h), by rw [hpk]; exact fun _ h => (nomatch h)⟩
    simp only [if_pos cnd]
    rw [hpk]
    cases e2 : lcR vs g c elt 900000 ib.ds [] ρ with
    | none =>
      rw [e2] at e
      cases e
    | some r2 =>
      rw [e2] at e
      have := lcR_le hc he 900000 ib.ds [] ρ r2 (by decide) e2
      rw [List.reverse_nil] at this
      rw [this]
      exact e
  · simp only [if_neg hb] at e
    cases e
/-! #### data, held against each other -/
mutual
def eqS : D → D → Bool
  | .non, .non => true
  | .bl a, .bl b => a == b
  | .int a, .int b => a == b
  | .str a, .str b => a == b
  | .tup l, .tup m => eqSL l m
  | .lst l, .lst m => eqSL l m
  | .ob c ns fs, .ob c' ns' fs' => c == c' && (ns == ns' && eqSL fs fs')
  | .lv a, .lv b => a == b
  | _, _ => false
def eqSL : List D → List D → Bool
  | [], [] => true
  | d :: ds, e :: es => eqS d e && eqSL ds es
  | _, _ => false
end
mutual
theorem eqS_eq : ∀ (d e : D), eqS d e = true → d = e
  | .non, e, h => by cases e <;> first | rfl | (unfold eqS at h; cases h)
  | .bl a, e, h => by
    cases e with
    | bl b => unfold eqS at h; rw [beq_iff_eq.mp h]
    | _ => unfold eqS at h; cases h
  | .int a, e, h => by
    cases e with
    | int b => unfold eqS at h; rw [beq_iff_eq.mp h]
    | _ => unfold eqS at h; cases h
  | .str a, e, h => by
    cases e with
    | str b => unfold eqS at h; rw [beq_iff_eq.mp h]
    | _ => unfold eqS at h; cases h
  | .tup l, e, h => by
    cases e with
    | tup m => unfold eqS at h; rw [eqSL_eq l m h]
    | _ => unfold eqS at h; cases h
  | .lst l, e, h => by
    cases e with
    | lst m => unfold eqS at h; rw [eqSL_eq l m h]
    | _ => unfold eqS at h; cases h
  | .ob c ns fs, e, h => by
    cases e with
    | ob c' ns' fs' =>
      unfold eqS at h
      rw [Bool.and_eq_true, Bool.and_eq_true] at h
      rw [beq_iff_eq.mp h.1, beq_iff_eq.mp h.2.1, eqSL_eq fs fs' h.2.2]
    | _ => unfold eqS at h; cases h
  | .lv a, e, h => by
    cases e with
    | lv b => unfold eqS at h; rw [beq_iff_eq.mp h]
    | _ => unfold eqS at h; cases h
  | .scr _, e, h => by unfold eqS at h; cases h
  | .dct _ _, e, h => by unfold eqS at h; cases h
  | .dck _ _, e, h => by unfold eqS at h; cases h
  | .adr _, e, h => by unfold eqS at h; cases h
theorem eqSL_eq : ∀ (l m : List D), eqSL l m = true → l = m
  | [], m, h => by
    cases m with
    | nil => rfl
    | cons _ _ => unfold eqSL at h; cases h
  | d :: ds, m, h => by
    cases m with
    | nil => unfold eqSL at h; cases h
    | cons e es =>
      unfold eqSL at h
      rw [Bool.and_eq_true] at h
      rw [eqS_eq d e h.1, eqSL_eq ds es h.2]
end
/-- a run tells just this new list, this value -/
def isRetF (l : List D) : Option CR → Bool
  | some (.ret (.ow (.lst m)) out) => eqSL m l && out.isEmpty
  | _ => false
def isRetS (d : D) : Option CR → Bool
  | some (.ret (.sh e) out) => eqS e d && out.isEmpty
  | _ => false
def isMade (d : D) : Option D → Bool
  | some e => eqS e d
  | none => false
theorem isRetF_eq {l : List D} {o : Option CR} (h : isRetF l o = true) : o = some (.ret (.fr l) []) := by
  unfold isRetF at h
  split at h
  · rename_i m out
    rw [Bool.and_eq_true] at h
    rw [eqSL_eq m l h.1, List.isEmpty_iff.mp h.2]
  · cases h
theorem isRetS_eq {d : D} {o : Option CR} (h : isRetS d o = true) : o = some (.ret (.sh d) []) := by
  unfold isRetS at h
  split at h
  · rename_i m out
    rw [Bool.and_eq_true] at h
    rw [eqS_eq m d h.1, List.isEmpty_iff.mp h.2]
  · cases h
theorem isMade_eq {d : D} {o : Option D} (h : isMade d o = true) : o = some d := by
  unfold isMade at h
  split at h
  · rename_i e
    rw [eqS_eq e d h]
  · cases h
end Sim

namespace Sim
open PySem PySem.Spec PyProof.Rows L2
/-! ### the new runs, applied -/
def isDtK : Option (Option SV) → Bool
  | some (some (.ow (.dt _ _))) => true
  | _ => false
def isDkK : Option (Option SV) → Bool
  | some (some (.ow (.dk _ _))) => true
  | _ => false
def dtIK (i : Nat) (ρ : Sl) (d : D) (kk : List Int) : Option (Option SV) → Option SO
  | some (some (.ow (.dt ks vs))) => if ks.length < 1000000 ∧ kk.length ≤ 1000000 then some (.nx (ρ.set i (some (.ow (.dt (putKs ks kk) (putVs ks vs kk d)))))) else none
  | _ => none
def dkIK (i : Nat) (ρ : Sl) (d : D) (kk : L2.Key) : Option (Option SV) → Option SO
  | some (some (.ow (.dk ks vs))) => if ks.length < 1000000 then some (.nx (ρ.set i (some (.ow (.dk (putKs ks kk) (putVs ks vs kk d)))))) else none
  | _ => none
section
variable {ρ : Sl} {i j l : Nat} {d x y z : D} {ks : List (List Int)} {kk : List L2.Key} {vs ds : List D} {a b : Int} {key : L2.Key} {f k : M Op} {as : M (List Op)} {o p : Op}
theorem e_dnK : vDnK ρ = some (.ok (.ow (.dk [] [])) ρ) := rfl
theorem e_dnT : vDnT ρ = some (.ok (.ow (.dt [] [])) ρ) := rfl
theorem e_dputT : sDPutT i f as ρ = exK (fun o ρ => if isDt ρ i = true then sEx as (fun p => dtK i o p) ρ else none) (f ρ) := rfl
theorem e_dputK : sDPutK i f k ρ = exK (fun o ρ => if isDk ρ i = true then sEx k (fun p => dpK i o p) ρ else none) (f ρ) := rfl
theorem e_isDt : isDt ρ i = isDtK ρ[i]? := by unfold isDt isDtK; generalize ρ[i]? = x; rcases x with _ | _ | _ | c <;> first | rfl | (cases c <;> rfl)
theorem e_isDk : isDk ρ i = isDkK ρ[i]? := by unfold isDk isDkK; generalize ρ[i]? = x; rcases x with _ | _ | _ | c <;> first | rfl | (cases c <;> rfl)
theorem k_isDt : isDtK (some (some (.ow (.dt ks vs)))) = true := rfl
theorem k_isDk : isDkK (some (some (.ow (.dk kk vs)))) = true := rfl
theorem e_dtK2 : dtK i (.val d) [.val (.int a), .val (.int b)] ρ = dtIK i ρ d [a, b] ρ[i]? := by
  unfold dtK dtIK
  show (match Op.val d, some [D.int a, D.int b], ρ[i]? with | .val d, some kd, some (some (.ow (.dt ks vs))) => (intL kd).bind fun k => if ks.length < 1000000 ∧ kd.length ≤ 1000000 then some (SO.nx (ρ.set i (some (.ow (.dt (putKs ks k) (putVs ks vs k d)))))) else none | _, _, _ => none) = _
  generalize ρ[i]? = x
  rcases x with _ | _ | _ | c <;> first | rfl | (cases c <;> rfl)
theorem e_dpK : dpK i (.val d) (.val x) ρ = (keyD x).bind fun k => dkIK i ρ d k ρ[i]? := by
  unfold dpK dkIK
  generalize ρ[i]? = w
  generalize hk : keyD x = kx
  rcases w with _ | _ | _ | c
  · cases kx <;> rfl
  · cases kx <;> rfl
  · cases kx <;> rfl
  · cases c with
    | dk ks vs =>
      show ((keyD x).bind fun k => if ks.length < 1000000 then some (SO.nx (ρ.set i (some (.ow (.dk (putKs ks k) (putVs ks vs k d)))))) else none) = _
      rw [hk]
    | _ => cases kx <;> rfl
theorem k_dtI : dtIK i ρ d [a, b] (some (some (.ow (.dt ks vs)))) = if ks.length < 1000000 then some (.nx (ρ.set i (some (.ow (.dt (putKs ks [a, b]) (putVs ks vs [a, b] d)))))) else none := by
  show (if ks.length < 1000000 ∧ 2 ≤ 1000000 then _ else _) = _
  by_cases h : ks.length < 1000000
  · rw [if_pos h, if_pos ⟨h, by decide⟩]
  · rw [if_neg h, if_neg fun q => h q.1]
theorem k_dkI : dkIK i ρ d key (some (some (.ow (.dk kk vs)))) = if kk.length < 1000000 then some (.nx (ρ.set i (some (.ow (.dk (putKs kk key) (putVs kk vs key d)))))) else none := rfl
theorem e_keyI {n : Int} : keyD (.int n) = some (.inl n) := rfl
theorem e_keyS {s : Str} : keyD (.str s) = some (.inr s) := rfl
theorem e_inK {neg : Bool} : gInK neg x (.dck kk vs) = (keyD x).map fun (k : L2.Key) => .sh (.bl (neg ^^ memK k kk)) := rfl
theorem e_dxK : gDxK (.dck kk vs) x = (keyD x).bind fun k => (lookD kk vs k).map .sh := rfl
theorem e_par3 : sPar3 i j l as ρ = exK (fun os ρ => match vals os with
  | some [x, y, z] => if i < ρ.length ∧ j < ρ.length ∧ l < ρ.length then some (.nx (((ρ.set i (some (.sh x))).set j (some (.sh y))).set l (some (.sh z)))) else none
  | _ => none) (as ρ) := rfl
theorem e_inT {neg : Bool} {l : List D} : gIn neg (.tup l) (.dct ks vs) = (intL l).map fun k => .sh (.bl (neg ^^ decide (k ∈ ks))) := rfl
theorem e_dxT {l : List D} : gDx (.dct ks vs) (.tup l) = (intL l).bind fun k => (dctV ks vs k).map .sh := rfl
theorem e_intL2 : intL [.int a, .int b] = some [a, b] := rfl
theorem k_osD {c : OC} : osK (some (some (.ow c))) = match c with | .lst l => some l | _ => none := by cases c <;> rfl
end
/-! ### dicts told by pairs -/
theorem mem_putP {ps : List (List Int × Int)} {k : List Int} : (k ∈ ps.map (·.1)) ↔ (ps.any fun p => decide (p.1 = k)) = true := by
  rw [List.any_eq_true, List.mem_map]
  constructor
  · rintro ⟨p, h, e⟩
    exact ⟨p, h, decide_eq_true e⟩
  · rintro ⟨p, h, e⟩
    exact ⟨p, h, of_decide_eq_true e⟩
theorem putKs_map {ps : List (List Int × Int)} {k : List Int} {v : Int} : putKs (ps.map (·.1)) k = (putP ps k v).map (·.1) := by
  unfold putKs putP
  by_cases h : k ∈ ps.map (·.1)
  · rw [if_pos h, if_pos (mem_putP.mp h), List.map_map]
    refine List.map_congr_left fun p _ => ?_
    show p.1 = (if p.1 = k then (p.1, v) else p).1
    split <;> rfl
  · rw [if_neg h, if_neg fun z => h (mem_putP.mpr z), List.map_append]
    rfl
theorem putVs_map (f : Int → D) {ps : List (List Int × Int)} {k : List Int} {v : Int} : putVs (ps.map (·.1)) (ps.map fun p => f p.2) k (f v) = (putP ps k v).map fun p => f p.2 := by
  unfold putVs putP
  by_cases h : k ∈ ps.map (·.1)
  · rw [if_pos h, if_pos (mem_putP.mp h), List.map_map]
    clear h
    induction ps with
    | nil => rfl
    | cons p ps ih =>
      show (if p.1 = k then f v else f p.2) :: setVs k (f v) (ps.map (·.1)) (ps.map fun p => f p.2) = f (if p.1 = k then (p.1, v) else p).2 :: ps.map _
      rw [ih]
      congr 1
      split <;> rfl
  · rw [if_neg h, if_neg fun z => h (mem_putP.mpr z), List.map_append]
    rfl
end Sim

namespace Sim
open PySem PySem.Spec PyProof.Rows L2
/-! ### lists worked out before they are used, fast looks into dicts -/
noncomputable def spineC {α β : Type} (l : List α) : (List α → β) → β := @List.rec α (fun _ => (List α → β) → β) (fun k => k []) (fun x _ ih k => ih fun ys => k (x :: ys)) l
theorem spineC_eq {α β : Type} (l : List α) (k : List α → β) : spineC l k = k l := by
  induction l generalizing k with
  | nil => rfl
  | cons x l ih => exact ih fun ys => k (x :: ys)
def eqI : Int → Int → Bool
  | .ofNat a, .ofNat b => Nat.beq a b
  | .negSucc a, .negSucc b => Nat.beq a b
  | _, _ => false
theorem eqI_eq (a b : Int) : eqI a b = decide (a = b) := by
  cases a with
  | ofNat a =>
    cases b with
    | ofNat b =>
      show Nat.beq a b = _
      by_cases h : a = b
      · subst h
        rw [Nat.beq_refl]
        simp
      · rw [Bool.eq_false_iff.mpr fun z => h (Nat.eq_of_beq_eq_true z)]
        exact (decide_eq_false (fun z => h (by injection z))).symm
    | negSucc b => exact (decide_eq_false (fun h => by cases h)).symm
  | negSucc a =>
    cases b with
    | ofNat b => exact (decide_eq_false (fun h => by cases h)).symm
    | negSucc b =>
      show Nat.beq a b = _
      by_cases h : a = b
      · subst h
        rw [Nat.beq_refl]
        simp
      · rw [Bool.eq_false_iff.mpr fun z => h (Nat.eq_of_beq_eq_true z)]
        simp [h]
def eqKey : L2.Key → L2.Key → Bool
  | .inl a, .inl b => eqI a b
  | .inr a, .inr b => decide (a = b)
  | _, _ => false
theorem eqKey_eq (a b : L2.Key) : eqKey a b = decide (a = b) := by
  rcases a with a | a <;> rcases b with b | b
  · show eqI a b = _
    rw [eqI_eq]
    by_cases h : a = b
    · subst h
      rw [decide_eq_true rfl]
      exact (decide_eq_true rfl).symm
    · rw [decide_eq_false h]
      exact (decide_eq_false (fun z => h (Sum.inl.inj z))).symm
  · exact (decide_eq_false (fun h => by cases h)).symm
  · exact (decide_eq_false (fun h => by cases h)).symm
  · show decide (a = b) = _
    by_cases h : a = b
    · subst h
      rw [decide_eq_true rfl]
      exact (decide_eq_true rfl).symm
    · rw [decide_eq_false h]
      exact (decide_eq_false (fun z => h (Sum.inr.inj z))).symm
noncomputable def memC (k : L2.Key) (ks : List L2.Key) : Bool := @List.rec L2.Key (fun _ => Bool) false (fun x _ ih => if eqKey x k = true then true else ih) ks
theorem memC_eq (k : L2.Key) (ks : List L2.Key) : memC k ks = memK k ks := by
  unfold memK
  induction ks with
  | nil => rfl
  | cons x ks ih =>
    show (if eqKey x k = true then true else memC k ks) = _
    rw [ih, eqKey_eq]
    by_cases h : x = k
    · subst h
      simp
    · rw [if_neg (by simp [h])]
      simp [Ne.symm h]
noncomputable def lookC (k : L2.Key) (ks : List L2.Key) : List D → Option D := @List.rec L2.Key (fun _ => List D → Option D) (fun _ => none) (fun x _ ih vs => match vs with
  | [] => none
  | v :: vs => if eqKey x k = true then some v else ih vs) ks
theorem lookD_cons {κ : Type} [DecidableEq κ] {x k : κ} {v : D} {ks : List κ} {vs : List D} : lookD (x :: ks) (v :: vs) k = if x = k then some v else lookD ks vs k := by
  show ((x, v) :: ks.zip vs).lookup k = _
  rw [List.lookup_cons]
  by_cases h : x = k
  · subst h
    rw [beq_self_eq_true, if_pos rfl]
  · rw [if_neg h, beq_eq_false_iff_ne.mpr (Ne.symm h)]
    rfl
theorem lookC_eq (k : L2.Key) : ∀ (ks : List L2.Key) (vs : List D), lookC k ks vs = lookD ks vs k
  | [], _ => rfl
  | x :: ks, [] => rfl
  | x :: ks, v :: vs => by
    have e1 : lookC k (x :: ks) (v :: vs) = if eqKey x k = true then some v else lookC k ks vs := rfl
    rw [e1, lookD_cons, lookC_eq k ks vs, eqKey_eq]
    by_cases h : x = k
    · rw [if_pos (decide_eq_true h), if_pos h]
    · rw [if_neg (by simp [h]), if_neg h]
noncomputable def gInKC (neg : Bool) : D → D → Option SV
  | d, .dck ks _ => (keyD d).map fun (k : L2.Key) => .sh (.bl (neg ^^ memC k ks))
  | _, _ => none
theorem gInKC_le {neg : Bool} : Lg (gInKC neg) (gInK neg) := by
  intro x y r h
  have e : gInKC neg = gInK neg := by
    funext x y
    cases y with
    | dck ks vs =>
      show (keyD x).map (fun (k : L2.Key) => SV.sh (.bl (neg ^^ memC k ks))) = (keyD x).map fun (k : L2.Key) => .sh (.bl (neg ^^ memK k ks))
      congr 1
      funext k
      rw [memC_eq]
    | _ => rfl
  rw [← e]
  exact h
noncomputable def gDxKC : D → D → Option SV
  | .dck ks vs, d => (keyD d).bind fun k => (lookC k ks vs).map .sh
  | _, _ => none
theorem gDxKC_le : Lg gDxKC gDxK := by
  intro x y r h
  have e : gDxKC = gDxK := by
    funext x y
    cases x with
    | dck ks vs =>
      show (keyD y).bind (fun k => (lookC k ks vs).map SV.sh) = (keyD y).bind fun k => (lookD ks vs k).map .sh
      congr 1
      funext k
      rw [lookC_eq]
    | _ => rfl
  rw [← e]
  exact h
/-! #### what is changed is worked out -/
theorem set_same {α : Type} {l : List α} {i : Nat} {x : α} (h : l[i]? = some x) : l.set i x = l := by
  obtain ⟨hl, e⟩ := List.getElem?_eq_some_iff.mp h
  subst e
  exact List.set_getElem_self hl
noncomputable def fixO (i : Nat) (ρ : Sl) {β : Type} (k : Sl → β) : β := match ρ[i]? with
  | some (some (.ow (.lst l))) => spineC l fun l' => k (ρ.set i (some (.ow (.lst l'))))
  | some (some (.ow (.dk ks vs))) => spineC ks fun ks' => spineC vs fun vs' => k (ρ.set i (some (.ow (.dk ks' vs'))))
  | _ => k ρ
theorem fixO_eq {i : Nat} {ρ : Sl} {β : Type} {k : Sl → β} : fixO i ρ k = k ρ := by
  unfold fixO
  split
  · rename_i l e
    rw [spineC_eq, set_same e]
  · rename_i ks vs e
    rw [spineC_eq, spineC_eq, set_same e]
  · rfl
noncomputable def vMtC (i : Nat) (g : List D → List D → Option (D × List D)) (as : M (List Op)) : M SV := fun ρ => match vMt i g as ρ with
  | some (.ok sv ρ') => fixO i ρ' fun ρ'' => some (.ok sv ρ'')
  | r => r
theorem le_mtC {i : Nat} {g : List D → List D → Option (D × List D)} {as as' : M (List Op)} (h : Le as as') : Le (vMtC i g as) (vMt i g as') := by
  intro ρ r e
  refine le_mt h ρ r ?_
  unfold vMtC at e
  split at e
  · rename_i sv ρ' e1
    rw [fixO_eq] at e
    rw [e1]
    exact e
  · exact e
noncomputable def fixS (i : Nat) (m : SM) : SM := fun ρ => match m ρ with
  | some (.nx ρ') => fixO i ρ' fun ρ'' => some (.nx ρ'')
  | r => r
theorem le_fixS {i : Nat} {m m' : SM} (h : Le m m') : Le (fixS i m) m' := by
  intro ρ r e
  refine h ρ r ?_
  unfold fixS at e
  split at e
  · rename_i ρ' e1
    rw [fixO_eq] at e
    rw [e1]
    exact e
  · exact e
/-! #### loops whose states are worked out -/
noncomputable def turnC (k : SM) : Option SO → Option SO
  | some (.nx ρ) => spineC ρ k
  | some (.ct ρ) => spineC ρ k
  | some (.bk ρ) => some (.nx ρ)
  | o => o
theorem turnC_eq (k : SM) (o : Option SO) : turnC k o = turnK k o := by
  rcases o with _ | _ | _ | _ | _ | _
  · rfl
  · exact spineC_eq _ _
  · rfl
  · rfl
  · exact spineC_eq _ _
  · rfl
noncomputable def forLC (g : SV → Sl → Option Sl) (body : SM) (l : List D) : SM := @List.rec D (fun _ => SM) sNx (fun d _ ih ρ => (g (.sh d) ρ).bind fun ρ1 => turnC ih (body ρ1)) l
theorem forLC_eq {g : SV → Sl → Option Sl} {body : SM} : ∀ l : List D, forLC g body l = forL g body l
  | [] => rfl
  | d :: ds => by
    funext ρ
    show (g (.sh d) ρ).bind (fun ρ1 => turnC (forLC g body ds) (body ρ1)) = (g (.sh d) ρ).bind fun ρ1 => turnK (forL g body ds) (body ρ1)
    rw [forLC_eq ds]
    congr 1
    funext ρ1
    rw [turnC_eq]
noncomputable def sForC (it : M Itb) (g : SV → Sl → Option Sl) (body : SM) : SM := sEx it fun ib => if ib.pk.isEmpty = true then forLC g body ib.ds else fun _ => none
theorem le_forC {it it' : M Itb} {g : SV → Sl → Option Sl} {m m' : SM} (hi : Le it it') (h : Le m m') : Le (sForC it g m) (sFor it' g m') := le_ex hi fun ib => by
  intro ρ r e
  by_cases hb : ib.pk.isEmpty = true
  · rw [if_pos hb, forLC_eq] at e
    rw [if_pos (List.isEmpty_iff.mp hb)]
    exact le_forL h ib.ds ρ r e
  · rw [if_neg hb] at e
    cases e
noncomputable def loopC (c : M Bool) (body : SM) (n : Nat) : SM := @Nat.rec (fun _ => SM) (fun _ => none) (fun _ ih => sEx c fun b => if b = true then fun ρ => turnC ih (body ρ) else sNx) n
theorem loopC_eq {c : M Bool} {body : SM} : ∀ n : Nat, loopC c body n = loopN c body n
  | 0 => rfl
  | n + 1 => by
    show (sEx c fun b => if b = true then fun ρ => turnC (loopC c body n) (body ρ) else sNx) = sEx c fun b => if b = true then fun ρ => turnK (loopN c body n) (body ρ) else sNx
    rw [loopC_eq n]
    congr 1
    funext b
    congr 1
    funext ρ
    rw [turnC_eq]
theorem le_whileC {t t' : M Bool} {m m' : SM} {n : Nat} (h : Le t t') (k : Le m m') : Le (loopC t m n) (sWhile t' m') := by
  rw [loopC_eq]
  exact le_while h k
/-! #### comparisons of whole numbers -/
def ltI : Int → Int → Bool
  | .ofNat a, .ofNat b => Nat.blt a b
  | .negSucc _, .ofNat _ => true
  | .ofNat _, .negSucc _ => false
  | .negSucc a, .negSucc b => Nat.blt b a
def leI (a b : Int) : Bool := !ltI b a
theorem ltI_eq (a b : Int) : ltI a b = decide (a < b) := by
  cases a with
  | ofNat a =>
    cases b with
    | ofNat b =>
      show Nat.blt a b = _
      by_cases h : a < b
      · rw [show Nat.blt a b = true from Nat.ble_eq.mpr h]
        exact (decide_eq_true (by simpa using h)).symm
      · rw [show Nat.blt a b = false from Bool.eq_false_iff.mpr fun z => h (Nat.ble_eq.mp z)]
        exact (decide_eq_false (by simpa using h)).symm
    | negSucc b => exact (decide_eq_false (by simp only [Int.ofNat_eq_natCast]; omega)).symm
  | negSucc a =>
    cases b with
    | ofNat b => exact (decide_eq_true (by simp only [Int.ofNat_eq_natCast]; omega)).symm
    | negSucc b =>
      show Nat.blt b a = _
      by_cases h : b < a
      · rw [show Nat.blt b a = true from Nat.ble_eq.mpr h]
        exact (decide_eq_true (by omega)).symm
      · rw [show Nat.blt b a = false from Bool.eq_false_iff.mpr fun z => h (Nat.ble_eq.mp z)]
        exact (decide_eq_false (by omega)).symm
theorem leI_eq (a b : Int) : leI a b = decide (a ≤ b) := by
  unfold leI
  rw [ltI_eq]
  by_cases h : b < a
  · rw [decide_eq_true h, decide_eq_false (by omega)]
    rfl
  · rw [decide_eq_false h, decide_eq_true (by omega)]
    rfl
theorem cmp_lt : Lg (gCmp ltI) (gCmp fun i j => decide (i < j)) := by
  have e : ltI = fun i j => decide (i < j) := by
    funext a b
    exact ltI_eq a b
  rw [e]
  exact lg_rfl
theorem cmp_le : Lg (gCmp leI) (gCmp fun i j => decide (i ≤ j)) := by
  have e : leI = fun i j => decide (i ≤ j) := by
    funext a b
    exact leI_eq a b
  rw [e]
  exact lg_rfl
theorem cmp_gt : Lg (gCmp fun i j => ltI j i) (gCmp fun i j => decide (j < i)) := by
  have e : (fun i j => ltI j i) = fun i j => decide (j < i) := by
    funext a b
    exact ltI_eq b a
  rw [e]
  exact lg_rfl
theorem cmp_ge : Lg (gCmp fun i j => leI j i) (gCmp fun i j => decide (j ≤ i)) := by
  have e : (fun i j => leI j i) = fun i j => decide (j ≤ i) := by
    funext a b
    exact leI_eq b a
  rw [e]
  exact lg_rfl
/-- == of two whole numbers at once -/
def gEqC (x y : D) : Option SV := match x, y with
  | .int i, .int j => some (.sh (.bl (eqI i j)))
  | _, _ => gEq x y
def gNeC (x y : D) : Option SV := match x, y with
  | .int i, .int j => some (.sh (.bl (!eqI i j)))
  | _, _ => gNe x y
theorem gEqC_le : Lg gEqC gEq := by
  intro x y r h
  unfold gEqC at h
  split at h
  · rw [e_eqI, ← eqI_eq]
    exact h
  · exact h
theorem gNeC_le : Lg gNeC gNe := by
  intro x y r h
  unfold gNeC at h
  split at h
  · rw [e_neI]
    rw [eqI_eq] at h
    exact h
  · exact h
end Sim

namespace Sim
open PySem PySem.Spec PyProof.Rows L2
/-! ### min of a list of pairs -/
def ltPr (p q : Int × Int) : Bool := decide (p.1 < q.1 ∨ (p.1 = q.1 ∧ p.2 < q.2))
def minPr (p : Int × Int) (ps : List (Int × Int)) : Int × Int := ps.foldl (fun a y => if ltPr y a = true then y else a) p
theorem ltPr_datum (p q : Int × Int) : PySem.W.DatumOrd.lt p q = ltPr p q := by
  show (if p.1 = q.1 then decide (p.2 < q.2) else decide (p.1 < q.1)) = ltPr p q
  unfold ltPr
  split
  · rename_i h
    exact decide_eq_decide.mpr (by omega)
  · rename_i h
    exact decide_eq_decide.mpr (by omega)
theorem minPr_datum (p : Int × Int) (ps : List (Int × Int)) : PySem.W.minOf p ps = minPr p ps := by
  unfold PySem.W.minOf minPr
  simp only [ltPr_datum]
def prL : List D → Option (List (Int × Int))
  | [] => some []
  | .tup [.int i, .int j] :: r => (prL r).map ((i, j) :: ·)
  | _ => none
theorem prL_map : ∀ {ds : List D} {ps : List (Int × Int)}, prL ds = some ps → ds = ps.map fun p => .tup [.int p.1, .int p.2]
  | [], _, h => by
    cases h
    rfl
  | d :: r, ns, h => by
    unfold prL at h
    split at h
    · contradiction
    · rename_i e
      cases e
      cases q : prL r with
      | none =>
        rw [q] at h
        cases h
      | some ms =>
        rw [q] at h
        cases h
        rw [prL_map q]
        rfl
    · cases h
theorem prL_of (ps : List (Int × Int)) : prL (ps.map fun p => D.tup [.int p.1, .int p.2]) = some ps := by
  induction ps with
  | nil => rfl
  | cons p ps ih =>
    show (prL _).map _ = _
    rw [ih]
    rfl
def rMinP (K : PySem.W.Frag) : List V → Hp → VK → Prop := fun vs H Q => ∃ (a : Addr) (xs : List V) (p : Int × Int) (ps : List (Int × Int)), vs = [.ref a] ∧ SqL K H a xs ∧ DpAll K H xs ((p :: ps).map PySem.W.Datum.toD) ∧
  ∀ (i : Nat) (x : V), xs[i]? = some x → (p :: ps)[i]? = some (minPr p ps) → Q x H
theorem readsAll_get {h : Heap} : ∀ {its : List Value} {ds : List PyData} {as : List Addr} {i : Nat} {v : Value}, ReadsAll h its ds as → its[i]? = some v → ∃ d bs, ds[i]? = some d ∧ Reads h v d bs
  | _, _, _, _, _, .nil, e => by simp at e
  | _, _, _, 0, _, .cons r t, e => by
    have e := Option.some.inj e
    subst e
    exact ⟨_, _, rfl, r⟩
  | _, _, _, i + 1, _, .cons r t, e => readsAll_get t (i := i) e
section
variable {X : Cx}
theorem cr_minP (hc : X.calm = true) (hu : X.A.units + 65 < cLine) : CallR X (.builtin "min") (rMinP X.K) := by
  intro pins s σ H vs us Q I r h
  obtain ⟨a, xs, p, ps, rfl, hs, hds, q⟩ := h
  obtain rfl := Vals.ref1 r
  obtain ⟨its, rv, hl, hz⟩ := I.list hs
  obtain ⟨as, ra⟩ := Dp.readsAll I _ xs its hds rv
  refine PySem.W.min_list_datum (x := p) (xs := ps) (I.ok.hd hc) hl.isList ⟨as, ra⟩ (by show X.A.units + 1 + (max 0 0 + 1) < cLine; omega) fun i v h' tk hi hv hk => ?_
  have hi' : its[i]? = some v := by simpa using hi
  obtain ⟨d, bs, hd, rd⟩ := readsAll_get ra hi'
  obtain ⟨cs, rm⟩ := hv
  rw [List.getElem?_map] at hd
  cases hp : (p :: ps)[i]? with
  | none =>
    rw [hp] at hd
    cases hd
  | some y =>
    rw [hp] at hd
    have hd := Option.some.inj hd
    subst hd
    have e1 := SeqAt.plain_unique _ _ v bs cs (PySem.W.Datum.plain y) (Reads.keeps hk rd) rm
    have e2 : y = minPr p ps := by
      rw [minPr_datum] at e1
      have e3 : PyData.tuple [.int y.1, .int y.2] = .tuple [.int (minPr p ps).1, .int (minPr p ps).2] := e1
      injection e3 with e3
      injection e3 with e4 e5
      injection e4 with e4
      injection e5 with e5
      injection e5 with e5
      exact Prod.ext e4 e5
    subst e2
    have hx : ∃ x, xs[i]? = some x ∧ RelV x v := by
      cases hx : xs[i]? with
      | none =>
        have := rv.none_of hx
        rw [this] at hi'
        cases hi'
      | some x =>
        obtain ⟨u, h1, h2⟩ := rv.get hx
        rw [hi'] at h1
        cases h1
        exact ⟨x, rfl, h2⟩
    obtain ⟨x, hx, rx⟩ := hx
    exact ⟨x, H, I.kept hk, rx, q i x hx hp⟩
end
def gMinP : List D → Option SV
  | [.lst l] => match prL l with
    | some (p :: ps) => some (.sh (.tup [.int (minPr p ps).1, .int (minPr p ps).2]))
    | _ => none
  | _ => none
theorem minPr_mem (p : Int × Int) (ps : List (Int × Int)) : minPr p ps ∈ p :: ps := by
  unfold minPr
  induction ps generalizing p with
  | nil => exact List.mem_cons_self
  | cons y ys ih =>
    rw [List.foldl_cons]
    have := ih (if ltPr y p = true then y else p)
    rcases List.mem_cons.mp this with e | m
    · rw [e]
      split
      · exact List.mem_cons_of_mem _ List.mem_cons_self
      · exact List.mem_cons_self
    · exact List.mem_cons_of_mem _ (List.mem_cons_of_mem _ m)
theorem pr_can : ∀ ps : List (Int × Int), PyData.canLayAll0 (toPyL (ps.map fun p => D.tup [.int p.1, .int p.2])) = true
  | [] => rfl
  | p :: ps => by
    show (PyData.canLay0 (.tuple [.int p.1, .int p.2]) && PyData.canLayAll0 (toPyL (ps.map fun p => D.tup [.int p.1, .int p.2]))) = true
    rw [pr_can ps]
    rfl
theorem pr_toPy : ∀ ps : List (Int × Int), toPyL (ps.map fun p => D.tup [.int p.1, .int p.2]) = ps.map PySem.W.Datum.toD
  | [] => rfl
  | p :: ps => by
    show PyData.tuple [.int p.1, .int p.2] :: toPyL (ps.map fun p => D.tup [.int p.1, .int p.2]) = _
    rw [pr_toPy ps]
    rfl
theorem ok_minP {K : PySem.W.Frag} : OkA K (rMinP K) gMinP := by
  intro F B H σ ρ xs ds sv Q R hx hg q
  unfold gMinP at hg
  split at hg
  · rename_i l
    split at hg
    · rename_i p ps e
      cases hg
      obtain ⟨v, rfl, rv⟩ := hx.one
      obtain ⟨a, ys, rfl, ha, r⟩ := rv.lst R.exB
      have hl := prL_map e
      subst hl
      have dp := RepL.dp _ _ (pr_can (p :: ps)) (RepL.mono R.exB _ _ r)
      rw [pr_toPy] at dp
      refine ⟨a, ys, p, ps, rfl, SqL.of ha, dp, fun i x hi hm => ?_⟩
      obtain ⟨d, hd, rd⟩ := r.get' hi
      rw [List.getElem?_map, hm] at hd
      cases hd
      exact q x B H R (Same.refl _) (.sh rd)
    · cases hg
  · cases hg
theorem e_minP {p : Int × Int} {ps : List (Int × Int)} : gMinP [.lst ((p :: ps).map fun p => .tup [.int p.1, .int p.2])] = some (.sh (.tup [.int (minPr p ps).1, .int (minPr p ps).2])) := by
  show (match prL ((p :: ps).map fun p => D.tup [.int p.1, .int p.2]) with
    | some (p :: ps) => some (SV.sh (.tup [.int (minPr p ps).1, .int (minPr p ps).2]))
    | _ => none) = _
  rw [prL_of]
end Sim

namespace Sim
open PySem PySem.Spec PyProof.Rows L2
/-! ### try .. except X: without a name -/
def noEx : Option SO → Option SO
  | some (.ex _ _) => none
  | o => o
def exTryO (cs : List Nat) (n : SM) : Option SO → Option SO
  | some (.ex c ρ) => if c ∈ cs then noEx (n ρ) else none
  | o => o
def sTryO (m : SM) (cs : List Nat) (n : SM) : SM := fun ρ => exTryO cs n (m ρ)
section
variable {cv : Nat → Value} {X : Cx} {W : WX} {m n : SM} {w w' : List Nat} {cs : List Nat} {tb : WX → TS} {ts : Nat → Addr → TS} {x : Str} {np pos pos' : Pos} {body suite : List Stmt} {b₀ : Stmt}
theorem adm_tryO {RE : Value} (hb : ∀ W, AdmS cv W X.K (tb W) m w) (hs : ∀ c a, c ∈ cs → AdmS cv (fun _ _ _ _ => False) X.K (ts c a) n w')
    (he : ∀ c, c ∈ cs → PySem.W.exmOne X.K (cv c) RE = some true) (Wout : WX) : AdmS cv W X.K (fun D σ H => tb (wOnly X.K RE (tSuf cv cs ts) Wout D) D σ H) (sTryO m cs n) (w ++ w') := by
  intro F B H σ ρ D R q
  refine hb (wOnly X.K RE (tSuf cv cs ts) Wout D) F B H σ ρ D R ?_
  have ml : ∀ {σ' : L2.St}, Agr w σ σ' → Agr (w ++ w') σ σ' := fun ag => ag.mono fun j h => List.mem_append_left _ h
  unfold sTryO exTryO at q
  cases e : m ρ with
  | none =>
    rw [e] at q
    exact q.elim
  | some o =>
    rw [e] at q
    cases o with
    | nx ρ1 => exact fun σ' B' H' R' sm ag => q σ' B' H' R' sm (ml ag)
    | rt sv ρ1 => exact fun v σ' B' H' R' sm ag rv => q v σ' B' H' R' sm (ml ag) rv
    | bk ρ1 => exact fun σ' B' H' R' sm ag => q σ' B' H' R' sm (ml ag)
    | ct ρ1 => exact fun σ' B' H' R' sm ag => q σ' B' H' R' sm (ml ag)
    | ex c ρ1 =>
      intro σ' B' H' R' sm ag
      by_cases c1 : c ∈ cs
      · simp only [if_pos c1] at q
        refine ⟨true, he c c1, fun _ a ha => ⟨c, c1, rfl, rfl, ?_⟩, fun z => nomatch z⟩
        refine hs c a c1 F B' H' _ _ _ R' ?_
        cases e2 : n ρ1 with
        | none =>
          rw [e2] at q
          exact q.elim
        | some o2 =>
          rw [e2] at q
          cases o2 with
          | nx ρ3 => exact fun σ3 B3 H3 R3 sm3 a3 => q _ B3 H3 R3 (sm.trans sm3) (ag.trans a3)
          | rt sv ρ3 => exact fun v σ3 B3 H3 R3 sm3 a3 rv => q v _ B3 H3 R3 (sm.trans sm3) (ag.trans a3) rv
          | bk ρ3 => exact fun σ3 B3 H3 R3 sm3 a3 => q _ B3 H3 R3 (sm.trans sm3) (ag.trans a3)
          | ct ρ3 => exact fun σ3 B3 H3 R3 sm3 a3 => q _ B3 H3 R3 (sm.trans sm3) (ag.trans a3)
          | ex c' ρ3 => exact q.elim
      · simp only [if_neg c1] at q
        exact q.elim
theorem sns_tryO {RE : Value} {tb : WX → List (Addr × Obj) → (Value → Shared → Prop) → TS} {ts : Nat → Addr → Obj → List (Addr × Obj) → TS}
    (hst : X.stack = X.env :: X.outer) (hfr : X.env.frame = some X.env.locals) (hc : Names X x RE)
    (he : ∀ c, c ∈ cs → PySem.W.exmOne X.K (cv c) RE = some true)
    (hb : ∀ (W : WX) (pn : List (Addr × Obj)) (xe : Value → Shared → Prop), Takes (X.tr pn xe) W → SndSs cv (X.tr pn xe) W body (tb W pn xe) m w)
    (hs : ∀ c, c ∈ cs → ∀ (a : Addr) (oe : Obj) (pn : List (Addr × Obj)), Zc (cv c) none oe → (∃ vs, oe.data = .fields vs) → SndSs cv (X.suite a ((a, oe) :: pn)) (fun _ _ _ _ => False) (b₀ :: suite) (ts c a oe pn) n w')
    (rb : ∀ W pn xe, tb W pn xe = tb W [] (fun _ _ => True) := by intros; rfl) (rs : ∀ c a oe pn, ts c a oe pn = ts c a ⟨cv c, none, .fields #[], #[]⟩ [] := by intros; rfl) :
    SndS cv X W (.Try body [.ExceptHandler (some (.Name x np)) none (b₀ :: suite) pos'] [] [] pos) (fun D σ H => tb (wOnly X.K RE (tSuf cv cs fun c a => ts c a ⟨cv c, none, .fields #[], #[]⟩ []) (fun _ _ _ _ => False) D) [] (fun _ _ => True) D σ H) (sTryO m cs n) (w ++ w') :=
  ⟨ps_try_only (tb := fun W => tb W [] (fun _ _ => True)) hst hfr hc takes0
    (fun W pn xe tk _ => by
      rw [← rb W pn xe]
      exact (hb W pn xe tk).ps)
    (fun a oe cls d pn hz hf => pss_suf fun c hcs h1 h2 => by
      subst h1 h2
      rw [← rs c a oe pn]
      exact (hs c hcs a oe pn hz hf).ps),
   adm_tryO (tb := fun W => tb W [] (fun _ _ => True)) (ts := fun c a => ts c a ⟨cv c, none, .fields #[], #[]⟩ []) (fun W => (hb W [] (fun _ _ => True) fun _ _ _ => trivial).ad)
    (fun c a hcs => (hs c hcs a ⟨cv c, none, .fields #[], #[]⟩ [] ⟨rfl, rfl⟩ ⟨_, rfl⟩).ad) he _⟩
end
end Sim

namespace Sim
open PySem PySem.Spec PyProof.Rows L2
/-! ### sorted, of tuples of whole numbers -/
def leT : List Int → List Int → Bool
  | [], _ => true
  | _ :: _, [] => false
  | x :: xs, y :: ys => if x = y then leT xs ys else decide (x < y)
def insT (x : List Int) : List (List Int) → List (List Int)
  | [] => [x]
  | y :: ys => if leT x y = true then x :: y :: ys else y :: insT x ys
def isrtT : List (List Int) → List (List Int)
  | [] => []
  | x :: xs => insT x (isrtT xs)
theorem leT_data : ∀ a b : List Int, leT a b = !PySem.W.listLt b a
  | [], [] => rfl
  | [], _ :: _ => rfl
  | _ :: _, [] => rfl
  | x :: xs, y :: ys => by
    unfold leT PySem.W.listLt
    by_cases h : x = y
    · rw [if_pos h, if_pos h.symm]
      exact leT_data xs ys
    · rw [if_neg h, if_neg (Ne.symm h)]
      show decide (x < y) = !decide (y < x)
      by_cases h2 : x < y
      · rw [decide_eq_true h2, decide_eq_false (by omega)]; rfl
      · rw [decide_eq_false h2, decide_eq_true (by omega)]; rfl
theorem leT_total : ∀ a b : List Int, (leT a b || leT b a) = true
  | [], _ => rfl
  | _ :: _, [] => rfl
  | x :: xs, y :: ys => by
    unfold leT
    by_cases h : x = y
    · rw [if_pos h, if_pos h.symm]
      exact leT_total xs ys
    · rw [if_neg h, if_neg (Ne.symm h)]
      rw [Bool.or_eq_true, decide_eq_true_eq, decide_eq_true_eq]
      omega
theorem leT_trans : ∀ a b c : List Int, leT a b = true → leT b c = true → leT a c = true
  | [], _, _, _, _ => rfl
  | _ :: _, [], _, h, _ => nomatch h
  | _ :: _, _ :: _, [], _, h => nomatch h
  | x :: xs, y :: ys, z :: zs, h1, h2 => by
    unfold leT at h1 h2 ⊢
    by_cases a : x = y
    · subst a
      rw [if_pos rfl] at h1
      by_cases b : x = z
      · rw [if_pos b] at h2 ⊢
        exact leT_trans xs ys zs h1 h2
      · rw [if_neg b] at h2 ⊢
        exact h2
    · rw [if_neg a, decide_eq_true_eq] at h1
      by_cases b : y = z
      · subst b
        rw [if_neg a, decide_eq_true_eq]
        exact h1
      · rw [if_neg b, decide_eq_true_eq] at h2
        rw [if_neg (by omega), decide_eq_true_eq]
        omega
theorem leT_anti : ∀ a b : List Int, leT a b = true → leT b a = true → a = b
  | [], [], _, _ => rfl
  | [], _ :: _, _, h => nomatch h
  | _ :: _, [], h, _ => nomatch h
  | x :: xs, y :: ys, h1, h2 => by
    unfold leT at h1 h2
    by_cases a : x = y
    · subst a
      rw [if_pos rfl] at h1 h2
      rw [leT_anti xs ys h1 h2]
    · rw [if_neg a, decide_eq_true_eq] at h1
      rw [if_neg (Ne.symm a), decide_eq_true_eq] at h2
      omega
theorem insT_perm (x : List Int) : ∀ l : List (List Int), (insT x l).Perm (x :: l)
  | [] => .refl _
  | y :: ys => by
    unfold insT
    split
    · exact .refl _
    · exact ((insT_perm x ys).cons y).trans (.swap x y ys)
theorem isrtT_perm : ∀ l : List (List Int), (isrtT l).Perm l
  | [] => .refl _
  | x :: xs => (insT_perm x _).trans ((isrtT_perm xs).cons x)
theorem insT_pw (x : List Int) : ∀ {l : List (List Int)}, l.Pairwise (fun a b => leT a b = true) → (insT x l).Pairwise (fun a b => leT a b = true)
  | [], _ => List.pairwise_singleton _ _
  | y :: ys, h => by
    obtain ⟨h1, h2⟩ := List.pairwise_cons.mp h
    unfold insT
    split
    · rename_i hle
      refine List.pairwise_cons.mpr ⟨fun z hz => ?_, h⟩
      rcases List.mem_cons.mp hz with rfl | hz
      · exact hle
      · exact leT_trans _ _ _ hle (h1 z hz)
    · rename_i hle
      refine List.pairwise_cons.mpr ⟨fun z hz => ?_, insT_pw x h2⟩
      rcases List.mem_cons.mp ((insT_perm x ys).mem_iff.mp hz) with rfl | hz
      · have t := leT_total z y
        rw [Bool.or_eq_true] at t
        rcases t with t | t
        · exact absurd t hle
        · exact t
      · exact h1 z hz
theorem isrtT_pw : ∀ l : List (List Int), (isrtT l).Pairwise (fun a b => leT a b = true)
  | [] => .nil
  | x :: xs => insT_pw x (isrtT_pw xs)
theorem isrtT_of {l l' : List (List Int)} (hp : l'.Perm l) (hs : l'.Pairwise (fun a b => leT a b = true)) : l' = isrtT l :=
  List.Perm.eq_of_pairwise (fun _ _ _ _ a b => leT_anti _ _ a b) hs (isrtT_pw l) (hp.trans (isrtT_perm l).symm)
def encT (b : V × List Int) : PyData := .tuple (b.2.map .int)
theorem le_encT : PySem.W.dataLe false encT = fun p q => leT p.2 q.2 := by
  rw [PySem.W.dataLe_eq]
  funext p q
  show (!PySem.W.dataLt (.tuple (q.2.map .int)) (.tuple (p.2.map .int))) = _
  rw [PySem.W.dataLt_tuple, leT_data]
  exact congrArg (! ·) (PySem.W.lexAll_map q.2 p.2)
def rSrtT (K : PySem.W.Frag) : List V → Hp → VK → Prop := fun vs H Q => ∃ (a : Addr) (xs : List V) (ts : List (List Int)), vs = [.ref a] ∧ SqL K H a xs ∧ xs.length = ts.length ∧ DpAll K H xs (ts.map fun t => PyData.tuple (t.map .int)) ∧ (∀ t ∈ ts, t ≠ []) ∧
  ∀ (ps : List (V × List Int)) (p : Addr), ps.Perm (xs.zip ts) → ps.map (·.2) = isrtT ts → H p = none → Q (.ref p) (upd H p (.lst (ps.map (·.1))))
theorem each_vals : ∀ {xs : List V} {ts : List (List Int)} {its : List Value}, Vals xs its → xs.length = ts.length → PySem.W.EachIs (fun v (b : V × List Int) => RelV b.1 v) its (xs.zip ts)
  | [], _, _, .nil, _ => .nil
  | _ :: _, [], _, .cons _ _, h => by simp at h
  | _ :: _, _ :: _, _, .cons r t, h => .cons r (each_vals t (by simpa using h))
theorem vals_each : ∀ {its : List Value} {ps : List (V × List Int)}, PySem.W.EachIs (fun v (b : V × List Int) => RelV b.1 v) its ps → Vals (ps.map (·.1)) its
  | _, _, .nil => .nil
  | _, _, .cons r t => .cons r (vals_each t)
section
variable {X : Cx}
theorem cr_sortedT (hu : X.A.units + 65 < cLine) : CallR X (.builtin "sorted") (rSrtT X.K) := by
  intro pins s σ H vs us Q I r h
  obtain ⟨a, xs, ts, rfl, hs, hlen, hds, hne, q⟩ := h
  obtain ⟨its, rv, hl, hz⟩ := I.list hs
  rw [Vals.ref1 r]
  obtain ⟨as, ra⟩ := Dp.readsAll I _ xs its hds rv
  have ez : (xs.zip ts).map (·.2) = ts := List.map_snd_zip (by omega)
  have em : (xs.zip ts).map encT = ts.map fun t => PyData.tuple (t.map .int) := by
    have : (xs.zip ts).map encT = ((xs.zip ts).map (·.2)).map fun t => PyData.tuple (t.map .int) := by rw [List.map_map]; rfl
    rw [this, ez]
  rw [← em] at ra
  have hzl : (xs.zip ts).length = xs.length := by rw [List.length_zip]; omega
  refine PySem.W.sorted_data (enc := encT) (R := fun v (b : V × List Int) => RelV b.1 v) hl.isList (each_vals rv hlen) (PySem.W.readsAll_each encT ra) (PySem.W.AllAlike.of fun b b' => by show PySem.W.alike (.tuple _) (.tuple _) = true; rw [PySem.W.alike]; exact PySem.W.alike_ints _ _)
    (.inl fun d hd => ?_) (by rw [hzl]; exact hz) (fun b _ => ?_) fun out ho he => ?_
  · obtain ⟨b, hb, rfl⟩ := List.mem_map.mp hd
    have hm : b.2 ∈ ts := by
      rw [← ez]
      exact List.mem_map.mpr ⟨b, hb, rfl⟩
    cases e : b.2 with
    | nil => exact absurd e (hne _ hm)
    | cons i r =>
      refine ⟨.int i, r.map .int, ?_⟩
      show PyData.tuple (b.2.map .int) = _
      rw [e]
      rfl
  · have : (encT b).depth = 1 := by
      show PyData.depth (.tuple (b.2.map .int)) = 1
      rw [PyData.depth, PySem.W.depth_ints]
    rw [this]
    omega
  · rw [le_encT] at he
    have hp := List.mergeSort_perm (xs.zip ts) (fun p q => leT p.2 q.2)
    have hsrt : ((xs.zip ts).mergeSort fun p q => leT p.2 q.2).Pairwise (fun p q => leT p.2 q.2 = true) := List.pairwise_mergeSort (le := fun (p q : V × List Int) => leT p.2 q.2) (fun a b c h1 h2 => leT_trans a.2 b.2 c.2 h1 h2) (fun a b => leT_total a.2 b.2) (xs.zip ts)
    have e2 : ((xs.zip ts).mergeSort fun p q => leT p.2 q.2).map (·.2) = isrtT ts := by
      refine isrtT_of ?_ (List.pairwise_map.mpr hsrt)
      have := hp.map (·.2)
      rw [ez] at this
      exact this
    obtain ⟨ep, he'⟩ := PyProof.Rows.sortedAll_at s.heap its out.toArray
    have hl2 : (((xs.zip ts).mergeSort fun p q => leT p.2 q.2).map (·.1)).length ≤ sizeLine := by
      rw [List.length_map, hp.length_eq, hzl]
      exact hz
    exact ⟨.ref _, upd H (s.heap.objs.size + 1) (.lst (((xs.zip ts).mergeSort fun p q => leT p.2 q.2).map (·.1))), I.laid (t' := s.toks) (fun _ _ => PyProof.Rows.sortedAll_old) (Nat.le_succ _) ⟨hl2, out, ep, vals_each he, he'⟩, rfl, q _ _ hp e2 (I.hok.fresh (Nat.le_succ _))⟩
end
def tpL : List D → Option (List (List Int))
  | [] => some []
  | .tup (d :: l) :: r => (intL (d :: l)).bind fun t => (tpL r).map (t :: ·)
  | _ => none
theorem tpL_map : ∀ {ds : List D} {ts : List (List Int)}, tpL ds = some ts → ds = ts.map (fun t => .tup (t.map .int)) ∧ ∀ t ∈ ts, t ≠ []
  | [], _, h => by
    cases h
    exact ⟨rfl, fun _ h => nomatch h⟩
  | d :: r, ts, h => by
    unfold tpL at h
    split at h
    · contradiction
    · rename_i e
      cases e
      rename_i d l
      cases q : intL (d :: l) with
      | none =>
        rw [q] at h
        cases h
      | some t =>
        rw [q, Option.bind_some] at h
        cases q2 : tpL r with
        | none =>
          rw [q2] at h
          cases h
        | some us =>
          rw [q2] at h
          cases h
          obtain ⟨h1, h2⟩ := tpL_map q2
          have e := intL_map q
          refine ⟨by rw [h1, List.map_cons, ← e], fun z hz => ?_⟩
          rcases List.mem_cons.mp hz with rfl | hz
          · intro hc
            rw [hc] at e
            cases e
          · exact h2 z hz
    · cases h
def gSrtT : List D → Option SV
  | [.lst l] => (tpL l).map fun ts => .fr ((isrtT ts).map fun t => .tup (t.map .int))
  | _ => none
theorem tp_can : ∀ ts : List (List Int), PyData.canLayAll0 (toPyL (ts.map fun t => D.tup (t.map .int))) = true
  | [] => rfl
  | t :: ts => by
    have h : ∀ t : List Int, PyData.canLayAll0 (toPyL (t.map .int)) = true := fun t => by
      induction t with
      | nil => rfl
      | cons i t ih => exact ih
    show (PyData.canLay0 (.tuple (toPyL (t.map .int))) && PyData.canLayAll0 (toPyL (ts.map fun t => D.tup (t.map .int)))) = true
    rw [tp_can ts, Bool.and_true]
    exact h t
theorem tp_toPy : ∀ ts : List (List Int), toPyL (ts.map fun t => D.tup (t.map .int)) = ts.map fun t => PyData.tuple (t.map .int)
  | [] => rfl
  | t :: ts => by
    have h : ∀ t : List Int, toPyL (t.map .int) = t.map .int := fun t => by
      induction t with
      | nil => rfl
      | cons i t ih =>
        show PyData.int i :: toPyL (t.map .int) = _
        rw [ih]
        rfl
    show PyData.tuple (toPyL (t.map .int)) :: toPyL (ts.map fun t => D.tup (t.map .int)) = _
    rw [tp_toPy ts, h]
    rfl
theorem repL_pairs {K : PySem.W.Frag} {B : Hp} : ∀ {ps : List (V × List Int)}, (∀ p ∈ ps, Rep K B p.1 (.tup (p.2.map .int))) → RepL K B (ps.map (·.1)) (ps.map fun p => .tup (p.2.map .int))
  | [], _ => .nil
  | p :: ps, h => .cons (h p List.mem_cons_self) (repL_pairs fun q hq => h q (List.mem_cons_of_mem _ hq))
theorem rep_zip {K : PySem.W.Frag} {B : Hp} : ∀ {ys : List V} {ts : List (List Int)}, RepL K B ys (ts.map fun t => .tup (t.map .int)) → ∀ p ∈ ys.zip ts, Rep K B p.1 (.tup (p.2.map .int))
  | [], _, _, p, hp => by simp at hp
  | _ :: _, [], _, p, hp => by simp at hp
  | y :: ys, t :: ts, r, p, hp => by
    have r' : RepL K B (y :: ys) (.tup (t.map .int) :: ts.map fun t => .tup (t.map .int)) := r
    cases r' with
    | cons h1 h2 =>
      rw [List.zip_cons_cons] at hp
      rcases List.mem_cons.mp hp with rfl | hp
      · exact h1
      · exact rep_zip h2 p hp
theorem ok_srtT {K : PySem.W.Frag} : OkA K (rSrtT K) gSrtT := by
  intro F B H σ ρ xs ds sv Q R hx hg q
  unfold gSrtT at hg
  split at hg
  · rename_i l
    cases e : tpL l with
    | none =>
      rw [e] at hg
      cases hg
    | some ts =>
      rw [e] at hg
      cases hg
      obtain ⟨v, rfl, rv⟩ := hx.one
      obtain ⟨a, ys, rfl, ha, r⟩ := rv.lst R.exB
      obtain ⟨hl, hne⟩ := tpL_map e
      subst hl
      have hlen : ys.length = ts.length := by
        have := r.length
        rw [List.length_map] at this
        exact this
      have dp := RepL.dp _ _ (tp_can ts) (RepL.mono R.exB _ _ r)
      rw [tp_toPy] at dp
      refine ⟨a, ys, ts, rfl, SqL.of ha, hlen, dp, hne, fun ps p hp he hn => ?_⟩
      have rp := repL_pairs (K := K) (B := B) (ps := ps) fun z hz => rep_zip r z (hp.mem_iff.mp hz)
      have e3 : (ps.map fun p => D.tup (p.2.map .int)) = (isrtT ts).map fun t => D.tup (t.map .int) := by
        rw [← he, List.map_map]
        rfl
      rw [e3] at rp
      exact q _ B _ (R.new hn) (Same.refl _) (RV.newL R hn rp)
  · cases hg
theorem tpL_of {ts : List (List Int)} (h : ∀ t ∈ ts, t ≠ []) : tpL (ts.map fun t => D.tup (t.map .int)) = some ts := by
  induction ts with
  | nil => rfl
  | cons t ts ih =>
    have hi : ∀ t : List Int, intL (t.map D.int) = some t := fun t => by
      induction t with
      | nil => rfl
      | cons i t ih =>
        show (intL (t.map D.int)).map (i :: ·) = _
        rw [ih]
        rfl
    cases t with
    | nil => exact absurd rfl (h [] List.mem_cons_self)
    | cons i r =>
      show (intL ((i :: r).map D.int)).bind (fun t => (tpL (ts.map fun t => D.tup (t.map .int))).map (t :: ·)) = _
      rw [hi, Option.bind_some, ih fun t ht => h t (List.mem_cons_of_mem _ ht)]
      rfl
theorem e_srtT {ts : List (List Int)} (h : ∀ t ∈ ts, t ≠ []) : gSrtT [.lst (ts.map fun t => D.tup (t.map .int))] = some (.fr ((isrtT ts).map fun t => .tup (t.map .int))) := by
  show (tpL (ts.map fun t => D.tup (t.map .int))).map _ = _
  rw [tpL_of h]
  rfl
end Sim

namespace Sim
open PySem PySem.Spec PyProof.Rows L2

/-! ### a list so many times -/
def repL (n : Nat) (l : List D) : List D := (List.replicate n l).flatten
def gRep : D → D → Option SV
  | .lst l, .int k => if -(2 ^ 62) ≤ k ∧ k < 2 ^ 62 ∧ l.length * k.toNat ≤ 1000000 then some (.fr (repL k.toNat l)) else none
  | _, _ => none
theorem RepL.rep {K : PySem.W.Frag} {H : Hp} {xs : List V} {ds : List D} (r : RepL K H xs ds) : ∀ n : Nat, RepL K H (List.replicate n xs).flatten (repL n ds)
  | 0 => .nil
  | n + 1 => by
    unfold repL
    rw [List.replicate_succ, List.replicate_succ, List.flatten_cons, List.flatten_cons]
    exact r.append (RepL.rep r n)
section
variable {cv : Nat → Value} {X : Cx} {W : WX} {K : PySem.W.Frag} {a b : Expr} {ta tb : TE} {fa fb : M Op} {pos : Pos}
theorem ok_rep : Ok2 K rRep gRep := by
  intro F B H σ ρ x y dx dy sv Q R hx hy hg q
  unfold gRep at hg
  split at hg
  · rename_i l k
    split at hg
    · rename_i hc
      cases hg
      obtain ⟨a, xs, rfl, h1, r1⟩ := hx.lst R.exB
      refine ⟨a, k, xs, rfl, hy.int, h1, by omega, by omega, ?_, fun p hp => q _ B _ (R.new hp) (Same.refl _) (RV.newL R hp (r1.rep _))⟩
      rw [r1.length]
      exact mill_le hc.2.2
    · cases hg
  · cases hg
theorem snd_rep (ha : SndO cv X W a ta fa) (hb : SndO cv X W b tb fb) : SndE cv X W (.BinOp a .Mult b pos) (tOp rRep ta tb) (vOp2 gRep fa fb) := snd_bin op_rep ok_rep ha hb
/-- a value that nobody changes any more -/
def vFz (f : M SV) : M SV := bnd f fun sv => ret (.sh sv.d)
theorem snd_fz {e : Expr} {te : TE} {f : M SV} (h : SndE cv X W e te f) : SndE cv X W e te (vFz f) := by
  refine ⟨h.pe, fun F B H σ ρ Q R q => ?_⟩
  refine h.ad F B H σ ρ Q R (wpm_mono (wpm_bnd q) (fun sv ρ' q v B' H' R' sm rv => ?_) fun _ _ q => q)
  obtain ⟨B2, R2, sm2, rep⟩ := rv.freeze R'
  exact q v B2 H' R2 (sm.trans sm2) (.sh rep)
theorem le_fz {a a' : M SV} (h : Le a a') : Le (vFz a) (vFz a') := le_bnd h fun _ => le_rfl
end
theorem repL_1 (d : D) (n : Nat) : repL n [d] = List.replicate n d := by
  unfold repL
  induction n with
  | zero => rfl
  | succ n ih => rw [List.replicate_succ, List.flatten_cons, ih, List.replicate_succ]; rfl
theorem e_rep1 {d : D} {k : Int} (h : -(2 ^ 62) ≤ k ∧ k < 2 ^ 62 ∧ k.toNat ≤ 1000000) : gRep (.lst [d]) (.int k) = some (.fr (List.replicate k.toNat d)) := by
  show (if -(2 ^ 62) ≤ k ∧ k < 2 ^ 62 ∧ 1 * k.toNat ≤ 1000000 then some (SV.fr (repL k.toNat [d])) else none) = _
  rw [if_pos ⟨h.1, h.2.1, by omega⟩, repL_1]
theorem e_fz {f : M SV} {ρ : Sl} : vFz f ρ = bnK (fun sv => ret (.sh sv.d)) (f ρ) := rfl
end Sim

namespace Sim
open PySem PySem.Spec PyProof.Rows L2

/-! ### more runs that the kernel works out fast -/
def gMulC : D → D → Option SV
  | .int i, .int j => if Nat.ble i.natAbs 4294967296 = true then some (.sh (.int (i * j))) else none
  | _, _ => none
theorem gMulC_le : Lg gMulC gMul := by
  intro x y r h
  unfold gMulC at h
  split at h
  · rename_i i j
    split at h
    · rename_i hc
      have hc := Nat.le_of_ble_eq_true hc
      show (if MulOk i j then some (SV.sh (.int (i * j))) else none) = _
      rw [if_pos (.inl ⟨by omega, by omega⟩)]
      exact h
    · cases h
  · cases h
def isI : D → Bool
  | .int _ => true
  | _ => false
def eqIn (i : Int) : D → Bool
  | .int j => eqI j i
  | _ => false
def isP2 : D → Bool
  | .tup [.int _, .int _] => true
  | _ => false
def eqPn (a b : Int) : D → Bool
  | .tup [.int c, .int d] => eqI c a && eqI d b
  | _ => false
def gInSC (neg : Bool) : D → D → Option SV
  | .int i, .lst l => if l.all isI = true then some (.sh (.bl (neg ^^ l.any (eqIn i)))) else none
  | .tup [.int a, .int b], .lst l => if l.all isP2 = true then some (.sh (.bl (neg ^^ l.any (eqPn a b)))) else none
  | _, _ => none
theorem isP2_at {d : D} (h : isP2 d = true) : ∃ a b, d = .tup [.int a, .int b] := by
  unfold isP2 at h
  split at h
  · exact ⟨_, _, rfl⟩
  · cases h
theorem eqD_pair {a b c d : Int} : eqD (.tup [.int a, .int b]) (.tup [.int c, .int d]) = (decide (a = c) && decide (b = d)) := by
  unfold eqD
  by_cases h1 : a = c
  · by_cases h2 : b = d
    · simp [toPy, toPyL, PyData.eqv, PyData.eqvAll, h1, h2]
    · simp [toPy, toPyL, PyData.eqv, PyData.eqvAll, h1, h2]
  · simp [toPy, toPyL, PyData.eqv, PyData.eqvAll, h1]
theorem any_inP {a b : Int} : ∀ {l : List D}, l.all isP2 = true → (l.any fun z => eqD z (.tup [.int a, .int b])) = l.any (eqPn a b)
  | [], _ => rfl
  | d :: l, h => by
    rw [List.all_cons, Bool.and_eq_true] at h
    obtain ⟨c, e, rfl⟩ := isP2_at h.1
    rw [List.any_cons, List.any_cons, any_inP h.2, eqD_pair]
    show _ = ((eqI c a && eqI e b) || _)
    rw [eqI_eq, eqI_eq]
theorem okP2 {l : List D} (h : l.all isP2 = true) : okPy (.lst l) = true := by
  have h := okPy_all (k := 1) (by decide) (l := l) (by
    intro d hd
    obtain ⟨a, b, rfl⟩ := isP2_at (List.all_eq_true.mp h d hd)
    exact ⟨rfl, Nat.le_refl 1⟩)
  refine okPy_of h.1 ?_
  have := h.2
  show PyData.depthAll (toPyL l) + 1 ≤ 64
  omega
theorem isI_at {d : D} (h : isI d = true) : ∃ i, d = .int i := by
  cases d <;> first | exact ⟨_, rfl⟩ | cases h
theorem eqD_int {a b : Int} : eqD (.int a) (.int b) = decide (a = b) := by
  unfold eqD
  show PyData.eqv (.int a) (.int b) = _
  by_cases h : a = b <;> simp [PyData.eqv, h]
theorem any_in {i : Int} : ∀ {l : List D}, l.all isI = true → (l.any fun z => eqD z (.int i)) = l.any (eqIn i)
  | [], _ => rfl
  | d :: l, h => by
    rw [List.all_cons, Bool.and_eq_true] at h
    obtain ⟨j, rfl⟩ := isI_at h.1
    rw [List.any_cons, List.any_cons, any_in h.2, eqD_int]
    show _ = (eqI j i || _)
    rw [eqI_eq]
theorem okI {l : List D} (h : l.all isI = true) : okPy (.lst l) = true := by
  have h := okPy_all (k := 0) (by decide) (l := l) (by
    intro d hd
    obtain ⟨i, rfl⟩ := isI_at (List.all_eq_true.mp h d hd)
    exact ⟨rfl, Nat.le_refl 0⟩)
  refine okPy_of h.1 ?_
  have := h.2
  show PyData.depthAll (toPyL l) + 1 ≤ 64
  omega
theorem gInSC_le {neg : Bool} : Lg (gInSC neg) (gInS neg) := by
  intro x y r h
  unfold gInSC at h
  split at h
  · rename_i i l
    split at h
    · rename_i hc
      show (if okPy (.int i) = true ∧ okPy (.lst l) = true then some (SV.sh (.bl (neg ^^ l.any fun z => eqD z (.int i)))) else none) = _
      rw [if_pos ⟨rfl, okI hc⟩, any_in hc]
      exact h
    · cases h
  · rename_i a b l
    split at h
    · rename_i hc
      show (if okPy (.tup [.int a, .int b]) = true ∧ okPy (.lst l) = true then some (SV.sh (.bl (neg ^^ l.any fun z => eqD z (.tup [.int a, .int b])))) else none) = _
      rw [if_pos ⟨rfl, okP2 hc⟩, any_inP hc]
      exact h
    · cases h
  · cases h
def jR1C (os : List Op) (ρ : Sl) : Option Itb := match gets ρ os with
  | some [.int j] => if Nat.ble j.natAbs 1000000 = true then some ⟨rngD 0 j.toNat, []⟩ else none
  | _ => none
def iR1C (as : M (List Op)) : M Itb := liftI as jR1C
theorem le_liftI {α : Type} {a a' : M α} {g g' : α → Sl → Option Itb} (h : Le a a') (hg : ∀ o ρ r, g o ρ = some r → g' o ρ = some r) : Le (liftI a g) (liftI a' g') := le_bnd h fun o ρ r e => by
  cases e1 : g o ρ with
  | none =>
    rw [e1] at e
    cases e
  | some ib =>
    rw [e1] at e
    rw [hg o ρ ib e1]
    exact e
theorem le_iR1C {as as' : M (List Op)} (h : Le as as') : Le (iR1C as) (iR1 as') := le_liftI h fun o ρ r e => by
  unfold jR1C at e
  unfold jR1
  split at e
  · rename_i j e1
    split at e
    · rename_i hc
      have hc := Nat.le_of_ble_eq_true hc
      show (if RngOk j then some (⟨rngD 0 j.toNat, []⟩ : Itb) else none) = some r
      rw [if_pos (show RngOk j from ⟨by omega, by omega⟩)]
      exact e
    · cases e
  · cases e
/-! #### comprehensions, the states worked out -/
noncomputable def lcS (vs : List Nat) (g : SV → Sl → Option Sl) (c : M Bool) (elt : M SV) (ds : List D) : List D → Sl → Option (List D × Sl) :=
  @List.rec D (fun _ => List D → Sl → Option (List D × Sl)) (fun acc ρ => some (acc.reverse, ρ)) (fun d _ ih acc ρ => match g (.sh d) (wipeS ρ vs) with
    | none => none
    | some ρ1 => match c ρ1 with
      | some (.ok true ρ2) => (match elt ρ2 with
        | some (.ok sv ρ3) => spineC ρ3 fun ρ3 => ih (sv.d :: acc) ρ3
        | _ => none)
      | some (.ok false ρ2) => spineC ρ2 fun ρ2 => ih acc ρ2
      | _ => none) ds
theorem lcS_cons {vs : List Nat} {g : SV → Sl → Option Sl} {c : M Bool} {elt : M SV} {d : D} {ds acc : List D} {ρ : Sl} : lcS vs g c elt (d :: ds) acc ρ = match g (.sh d) (wipeS ρ vs) with
    | none => none
    | some ρ1 => match c ρ1 with
      | some (.ok true ρ2) => (match elt ρ2 with
        | some (.ok sv ρ3) => spineC ρ3 fun ρ3 => lcS vs g c elt ds (sv.d :: acc) ρ3
        | _ => none)
      | some (.ok false ρ2) => spineC ρ2 fun ρ2 => lcS vs g c elt ds acc ρ2
      | _ => none := rfl
theorem lcS_eq {vs : List Nat} {g : SV → Sl → Option Sl} {c : M Bool} {elt : M SV} : ∀ (ds : List D) (k : Nat) (acc : List D) (ρ : Sl), ds.length ≤ k → lcS vs g c elt ds acc ρ = lcR vs g c elt k ds acc ρ
  | [], k, acc, ρ, _ => by
    cases k <;> (unfold lcR; rfl)
  | d :: ds, 0, _, _, h => by simp at h
  | d :: ds, k + 1, acc, ρ, h => by
    have ih := fun acc ρ => lcS_eq (vs := vs) (g := g) (c := c) (elt := elt) ds k acc ρ (by rw [List.length_cons] at h; omega)
    rw [lcS_cons]
    unfold lcR
    simp only [spineC_eq, ih]
noncomputable def vLcD (vs : List Nat) (it : M Itb) (g : SV → Sl → Option Sl) (c : M Bool) (elt : M SV) : M SV := bnd it fun ib ρ =>
  if (ib.pk.isEmpty && (vs.all (fun v => !isOw ρ v) && Nat.ble ib.ds.length 900000)) = true then (lcS vs g c elt ib.ds [] ρ).map fun r => .ok (.fr r.1) (restS ρ r.2 vs) else none
theorem vLcD_le {vs : List Nat} {it : M Itb} {g : SV → Sl → Option Sl} {c : M Bool} {elt : M SV} : Le (vLcD vs it g c elt) (vLcC vs it g c elt) := le_bnd le_rfl fun ib => by
  intro ρ r e
  by_cases hb : (ib.pk.isEmpty && (vs.all (fun v => !isOw ρ v) && Nat.ble ib.ds.length 900000)) = true
  · simp only [if_pos hb] at e
    rw [Bool.and_eq_true, Bool.and_eq_true] at hb
    have hb2 : (ib.pk.isEmpty && vs.all fun v => !isOw ρ v) = true := by rw [hb.1, hb.2.1]; rfl
    simp only [if_pos hb2]
    rw [lcS_eq ib.ds 900000 [] ρ (Nat.le_of_ble_eq_true hb.2.2)] at e
    exact e
  · simp only [if_neg hb] at e
    cases e
theorem le_lcD {vs : List Nat} {it it' : M Itb} {g : SV → Sl → Option Sl} {c c' : M Bool} {elt elt' : M SV} (hi : Le it it') (hc : Le c c') (he : Le elt elt') : Le (vLcD vs it g c elt) (vLc vs it' g c' elt') := fun ρ r e => le_lc hi hc he ρ r (vLcD_le ρ r e)
/-! #### an item of a list -/
def gIxC : D → D → Option SV
  | .lst l, .int (.ofNat n) => l[n]?.map .sh
  | .tup l, .int (.ofNat n) => l[n]?.map .sh
  | _, _ => none
theorem gIxC_le : Lg gIxC gIx := by
  intro x y r h
  unfold gIxC at h
  have key : ∀ {l : List D} {n : Nat}, l[n]?.map SV.sh = some r → (atI l (Int.ofNat n)).map SV.sh = some r := fun {l n} h => by
    cases e : l[n]? with
    | none =>
      rw [e] at h
      cases h
    | some d =>
      rw [e] at h
      rw [show atI l (Int.ofNat n) = some d from atI_nat e]
      exact h
  split at h
  · exact key h
  · exact key h
  · cases h
/-! #### d[k] = v -/
theorem putKs_if {κ : Type} [DecidableEq κ] {ks : List κ} {k : κ} : putKs ks k = if memK k ks = true then ks else ks ++ [k] := by
  unfold putKs memK
  by_cases h : k ∈ ks
  · rw [if_pos h, if_pos (decide_eq_true h)]
  · rw [if_neg h, if_neg (by rw [decide_eq_false h]; decide)]
theorem putVs_if {κ : Type} [DecidableEq κ] {ks : List κ} {vs : List D} {k : κ} {d : D} : putVs ks vs k d = if memK k ks = true then setVs k d ks vs else vs ++ [d] := by
  unfold putVs memK
  by_cases h : k ∈ ks
  · rw [if_pos h, if_pos (decide_eq_true h)]
  · rw [if_neg h, if_neg (by rw [decide_eq_false h]; decide)]
noncomputable def dpKC (i : Nat) (o p : Op) : SM := fun ρ => match o, p, ρ[i]? with
  | .val d, .val dk, some (some (.ow (.dk ks vs))) => (keyD dk).bind fun k => if Nat.blt ks.length 1000000 = true then (if memC k ks = true then some (.nx (ρ.set i (some (.ow (.dk ks (setVs k d ks vs)))))) else some (.nx (ρ.set i (some (.ow (.dk (ks ++ [k]) (vs ++ [d]))))))) else none
  | _, _, _ => none
theorem dpKC_eq {i : Nat} {o p : Op} : Le (dpKC i o p) (dpK i o p) := by
  intro ρ r e
  unfold dpKC at e
  unfold dpK
  split at e
  · rename_i d dk ks vs _
    cases hk : keyD dk with
    | none =>
      rw [hk] at e
      cases e
    | some k =>
      rw [hk] at e
      simp only [Option.bind_some] at e ⊢
      split at e
      · rename_i hl
        rw [if_pos (show ks.length < 1000000 from Nat.le_of_ble_eq_true hl)]
        rw [memC_eq] at e
        rw [putKs_if, putVs_if]
        split at e
        · rename_i hm
          rw [if_pos hm, if_pos hm]
          exact e
        · rename_i hm
          rw [if_neg hm, if_neg hm]
          exact e
      · cases e
  · cases e
noncomputable def sDPutKC (i : Nat) (f k : M Op) : SM := sEx f fun o ρ => if isDk ρ i = true then sEx k (fun p => dpKC i o p) ρ else none
theorem le_dputKC {i : Nat} {a a' b b' : M Op} (h : Le a a') (k : Le b b') : Le (sDPutKC i a b) (sDPutK i a' b') := le_ex h fun _ => le_grd (p := fun ρ => isDk ρ i) (le_ex k fun _ => dpKC_eq)
end Sim

namespace Sim
open PySem PySem.Spec PyProof.Rows L2

/-! ### a, b, .. = a list -/
def gLs (n : Nat) (gs : List D → Sl → Option Sl) : SV → Sl → Option Sl := fun sv ρ => match sv with
  | .sh (.lst l) => if l.length = n then gs l ρ else none
  | .ow (.lst l) => if l.length = n then gs l ρ else none
  | _ => none
theorem sng_lst {X : Cx} {es : List Expr} {pos : Pos} {w : List Nat} {k len : Nat} {tgs : TGs} {gs : List D → Sl → Option Sl} (hc : X.calm = true) (h : SndGs X es tgs gs w)
    (hn : (assignEach es X.env).length = len := by rfl) (hst : (assignEach es X.env).findIdx? (·.1) = none := by rfl) : SndG X (.Tuple es k pos) (gLst X.K len tgs) (gLs len gs) w := by
  refine ⟨pg_lst hc h.pg hn hst, fun F B H σ ρ v sv ρ' Q R r h1 q => ?_⟩
  unfold gLs at h1
  split at h1
  · rename_i l
    split at h1
    · rename_i hl
      cases r with
      | sh r =>
        cases r with
        | lst ha rl => exact ⟨_, _, rfl, SqL.of (R.exB _ _ ha), rl.length.trans hl, h.ad F B H σ ρ _ l ρ' Q R rl h1 q⟩
    · cases h1
  · rename_i l
    split at h1
    · rename_i hl
      cases r with
      | @fr a o xs c hF hB hH hO rl no =>
        have hO : o = .lst xs := hO
        subst hO
        exact ⟨_, _, rfl, SqL.of hH, rl.length.trans hl, h.ad F B H σ ρ _ l ρ' Q R rl h1 q⟩
    · cases h1
  · cases h1
theorem sng_lstK {K : PySem.W.Frag} {X : Cx} {es : List Expr} {pos : Pos} {w : List Nat} {k len : Nat} {tgs : TGs} {gs : List D → Sl → Option Sl} (hK : X.K = K) (hc : X.calm = true) (h : SndGs X es tgs gs w)
    (hn : (assignEach es X.env).length = len := by rfl) (hst : (assignEach es X.env).findIdx? (·.1) = none := by rfl) : SndG X (.Tuple es k pos) (gLst K len tgs) (gLs len gs) w := by
  subst hK
  exact sng_lst hc h hn hst
theorem e_gLs1 {n : Nat} {gs : List D → Sl → Option Sl} {l : List D} {ρ : Sl} : gLs n gs (.sh (.lst l)) ρ = if l.length = n then gs l ρ else none := rfl
theorem e_gLs2 {n : Nat} {gs : List D → Sl → Option Sl} {l : List D} {ρ : Sl} : gLs n gs (.fr l) ρ = if l.length = n then gs l ρ else none := rfl
end Sim

namespace Sim
open PySem PySem.Spec PyProof.Rows L2

/-! ### a making that may raise -/
inductive MkR where
  | ok (d : D)
  | ex (c : Nat)
def spMkE (cv : Nat → Value) (K : PySem.W.Frag) (c : Str) (n : Nat) (Φ : List D → Option MkR) : Sp := fun vs H Q E => ∃ (x dx C : Addr) (ws : List V) (ds : List D) (B : Hp) (r : MkR), vs = .ref x :: ws ∧ PySem.W.nsIn K mainGlobals c = some (some (.ref C)) ∧ H x = some (.ins C dx []) ∧
  RepL K B ws ds ∧ Same B H ∧ ws.length = n ∧ Φ ds = some r ∧ B x = none ∧ (match r with
    | .ok d => ∀ H', (∀ b o, H b = some o → b ≠ x → H' b = some o) → NewR K B H H' x (.ref x) d → Q .non H'
    | .ex c => ∀ H', (∀ b o, H b = some o → b ≠ x → H' b = some o) → E (cv c) none H')
def mkRO (ρ : Sl) : MkR → Out SV
  | .ok d => .ok (.sh d) ρ
  | .ex c => .ex c ρ
def mkOE (n : Nat) (Φ : List D → Option MkR) (ρ : Sl) : Option (List D) → Option (Out SV)
  | some ds => if ds.length = n then (Φ ds).map (mkRO ρ) else none
  | none => none
def vMkE (n : Nat) (Φ : List D → Option MkR) (fs : M (List Op)) : M SV := bnd fs fun os ρ => mkOE n Φ ρ (vals os)
section
variable {cv : Nat → Value} {X : Cx} {W : WX} {e : Expr} {es : List Expr} {ts : TA} {fs : M (List Op)} {pos p : Pos} {C f : Addr} {c : Str}
theorem adm_mkE {n : Nat} {Φ : List D → Option MkR} (hC : PySem.W.nsIn X.K mainGlobals c = some (some (.ref C))) (ha : SndA cv X W es ts fs) : Adm cv W X.K (tMakeE C (spMkE cv X.K c n Φ) (WE W) ts) (vMkE n Φ fs) (RV X.K) := by
  intro F B H σ ρ Q R q0
  refine ha.ad F B H σ ρ _ R (wpm_mono (wpm_bnd q0) (fun os ρ1 q1 vs B1 H1 R1 sm1 ovs => ?_) fun _ _ q => q)
  unfold wpm at q1
  cases e1 : vals os with
  | none =>
    rw [e1] at q1
    exact q1.elim
  | some ds =>
    rw [e1] at q1
    dsimp only at q1
    by_cases hl : ds.length = n
    · have em : mkOE n Φ ρ1 (some ds) = (Φ ds).map (mkRO ρ1) := if_pos hl
      rw [em] at q1
      cases e2 : Φ ds with
      | none =>
        rw [e2] at q1
        exact q1.elim
      | some r =>
        rw [e2] at q1
        intro x dx hx hdx hne
        have rl := sharedL ovs e1
        have s12 : Same H1 (upd (upd H1 dx (.own x)) x (.ins C dx [])) := fun a o e => by
          rw [upd_ne (ne_of_none e hx), upd_ne (ne_of_none e hdx)]
          exact e
        refine ⟨x, dx, C, vs, ds, B1, r, rfl, hC, upd_same, rl, R1.exB.trans s12, by rw [rl.length, hl], e2, R1.exB.free hx, ?_⟩
        cases r with
        | ex cc =>
          have q2 : ∀ B' H', Rel X.K F B' H' σ ρ1 → Same B B' → W (cv cc) none σ H' := q1
          intro H' k
          have s1' : Same H1 H' := fun a o e => k a o (s12 a o e) (ne_of_none e hx)
          exact q2 B1 H' ⟨R1.exB.trans s1', R1.exF.trans s1', R1.dis, R1.len, fun i sv h => (R1.slot i sv h).mono (Same.refl _) (fun _ _ h _ => h) s1', R1.sep⟩ sm1
        | ok d =>
        have q2 : ∀ v' B' H', Rel X.K F B' H' σ ρ1 → Same B B' → RV X.K F B' H' σ ρ1 v' (.sh d) → Q v' H' := q1
        intro H' k nr
        refine ⟨rfl, ?_⟩
        have s1' : Same H1 H' := fun a o e => k a o (s12 a o e) (ne_of_none e hx)
        obtain ⟨B', hB'⟩ : ∃ B' : Hp, B' = fun a => if H1 a = none then H' a else B1 a := ⟨_, rfl⟩
        have By : ∀ {a}, H1 a = none → B' a = H' a := fun {a} h => by rw [hB']; exact if_pos h
        have Bn : ∀ {a o}, H1 a = some o → B' a = B1 a := fun {a o} h => by
          rw [hB']
          exact if_neg (by rw [h]; exact fun e => nomatch e)
        have sB : Same B1 B' := fun a o e => by
          rw [Bn (R1.exB a o e)]
          exact e
        have sBH : Same B' H' := fun a o e => by
          cases h : H1 a with
          | none =>
            rw [By h] at e
            exact e
          | some o' =>
            rw [Bn h] at e
            exact s1' a o (R1.exB a o e)
        have sF : Same F H' := fun a o e => s1' a o (R1.exF a o e)
        have dis : ∀ a o, F a = some o → B' a = none := fun a o e => by
          rw [Bn (R1.exF a o e)]
          exact R1.dis a o e
        have R2 : Rel X.K F B' H' σ ρ1 := by
          refine ⟨sBH, sF, dis, R1.len, fun i sv h => ?_, R1.sep⟩
          have sl := R1.slot i sv h
          generalize σ[i]? = w at sl
          cases sl with
          | sh r => exact .sh (r.mono sB _ _)
          | fr hF hB hH hO r => exact .fr hF (by rw [Bn hH]; exact hB) (s1' _ _ hH) hO (r.mono sB _ _)
        refine q2 _ B' H' R2 (sm1.trans sB) (.sh (Rep.mono (fun a o e => ?_) d _ nr))
        by_cases hc : a = x ∨ upd (upd H1 dx (.own x)) x (.ins C dx []) a = none
        · have e' : H' a = some o := by
            have h2 := e
            simp only [if_pos hc] at h2
            exact h2
          have hn : H1 a = none := by
            rcases hc with rfl | hc
            · exact hx
            · cases h : H1 a with
              | none => rfl
              | some o' =>
                rw [s12 a o' h] at hc
                cases hc
          rw [By hn]
          exact e'
        · have h2 := e
          simp only [if_neg hc] at h2
          rw [Bn (R1.exB a o h2)]
          exact h2
    · have em : mkOE n Φ ρ1 (some ds) = none := if_neg hl
      rw [em] at q1
      exact q1.elim
theorem snd_makeE {n k : Nat} {Φ : List D → Option MkR} {fd : FuncData} {ps : List Str} {x : Str} (hC : PySem.W.nsIn X.K mainGlobals c = some (some (.ref C))) (M : Mk X.K C f) (G : FnOk X.prog X.w X.K X.mg X.base (L2.CX X.prog X.w) k f fd ps (spMkE cv X.K c n Φ)) (hr : Room (k + 1) X.A)
    (hg : Gl X x) (hm : X.mg x = some (.ref C)) (hb : Binds X.K fd ps []) (tk : Takes X W) (ha : SndA cv X W (e :: es) ts fs)
    (hdb : (x == ("__debug__" : Str)) = false := by decide) (he : starEach (e :: es) X.env = (false, eval e X.env) :: starEach es X.env := by rfl) (hpl : (backTo pos (starEach es X.env)).any (·.1) = false := by rfl) :
    SndE cv X W (.Call (.Name x p) (e :: es) [] pos) (tMakeE C (spMkE cv X.K c n Φ) (WE W) ts) (vMkE n Φ fs) := ⟨pe_makeE M G hr hg hm hb (fun σ => passAt tk σ) ha.pa hdb he hpl, adm_mkE hC ha⟩
end
def HasCE (P : Program) (w : World) (K : PySem.W.Frag) (mg : Str → Option Value) (base : Heap) (cv : Nat → Value) (k n : Nat) (Φ : List D → Option MkR) (c : Str) (ps : List Str) : Prop :=
  ∃ C f fd, PySem.W.nsIn K mainGlobals c = some (some (.ref C)) ∧ Cls K C ∧ Mk K C f ∧ mg c = some (.ref C) ∧ FnOk P w K mg base (L2.CX P w) k f fd ps (spMkE cv K c n Φ) ∧ Binds K fd ps []
def isLv : D → Option Int
  | .int n => if 1 ≤ n ∧ n ≤ 48 then some n else none
  | _ => none
/-- Level(thing): i the place of NoLevel -/
def thingB : D → Bool
  | .non => true
  | .bl _ => true
  | .int _ => true
  | .str _ => true
  | .tup _ => true
  | .lst _ => true
  | _ => false
def lvDE (i : Nat) : List D → Option MkR
  | [d] => if thingB d = true then some (match isLv d with | some n => .ok (lvOb n) | none => .ex i) else none
  | _ => none
theorem isLv_some {d : D} {n : Int} (h : isLv d = some n) : d = .int n ∧ 1 ≤ n ∧ n ≤ 48 := by
  unfold isLv at h
  split at h
  · split at h
    · rename_i hh
      cases h
      exact ⟨rfl, hh⟩
    · cases h
  · cases h
theorem sim_runX {α β : Type} {cv : Nat → Value} {W : WX} {K : PySem.W.Frag} {t : L2.St → Hp → (α → Hp → Prop) → Prop} {m : M β} {Post : Hp → Hp → Hp → L2.St → Sl → α → β → Prop} (h : Adm cv W K t m Post) {F B H : Hp} {σ : L2.St} {ρ ρ' : Sl} {c : Nat} {Q : α → Hp → Prop} (R : Rel K F B H σ ρ)
    (hm : m ρ = some (.ex c ρ')) (k : ∀ B' H', Rel K F B' H' σ ρ' → Same B B' → W (cv c) none σ H') : t σ H Q := by
  refine h F B H σ ρ Q R ?_
  unfold wpm
  rw [hm]
  exact k
theorem rel1 {K : PySem.W.Frag} {B H : Hp} {σ : L2.St} {ρ : Sl} (sB : Same B H) (hl : ρ.length = σ.length) (hs : ∀ (i : Nat) (sv : SV), ρ[i]? = some (some sv) → ∃ d v, sv = .sh d ∧ σ[i]? = some (some v) ∧ Rep K B v d) : Rel K (fun a => if B a = none then H a else none) B H σ ρ := by
  refine ⟨sB, (fun a o e => ?_), fun a o e => ?_, hl, fun i sv h => ?_, fun i j a o1 o2 => ?_⟩
  · by_cases hb : B a = none
    · simp only [if_pos hb] at e
      exact e
    · simp only [if_neg hb] at e
      cases e
  · by_cases hb : B a = none
    · exact hb
    · simp only [if_neg hb] at e
      cases e
  · obtain ⟨d, v, rfl, e, r⟩ := hs i sv h
    rw [e]
    exact .sh r
  · obtain ⟨⟨l, e⟩, _⟩ := o1
    obtain ⟨d, v, e2, _⟩ := hs i _ e
    cases e2
theorem kept1 {B H B' H' : Hp} {K : PySem.W.Frag} {σ : L2.St} {ρ : Sl} (R : Rel K (fun a => if B a = none then H a else none) B' H' σ ρ) (sB : Same B H) (sm : Same B B') : Same H H' := fun a o e => by
  cases hb : B a with
  | none => exact R.exF a o (by simp only [hb, if_true]; exact e)
  | some o' =>
    have := sB a o' hb
    rw [this] at e
    cases e
    exact R.exB a _ (sm a _ hb)
theorem lvDE_yes {i : Nat} {n : Int} (h1 : 1 ≤ n) (h2 : n ≤ 48) : lvDE i [.int n] = some (.ok (lvOb n)) := by
  have e : isLv (.int n) = some n := if_pos ⟨h1, h2⟩
  show (if thingB (.int n) = true then some (match isLv (.int n) with | some n => MkR.ok (lvOb n) | none => MkR.ex i) else none) = _
  rw [if_pos (show thingB (.int n) = true from rfl), e]
theorem lvDE_no {i : Nat} {d : D} (h1 : thingB d = true) (h2 : isLv d = none) : lvDE i [d] = some (.ex i) := by
  show (if thingB d = true then some (match isLv d with | some n => MkR.ok (lvOb n) | none => MkR.ex i) else none) = _
  rw [if_pos h1, h2]
/-! ### a def under another name -/
structure DefAtA (K : PySem.W.Frag) (mg : Str → Option Value) (x a : Str) (st : Stmt) (ps : List Str) : Prop where
  ex : ∃ f fd, Fun K x x st f fd ∧ mg a = some (.ref f) ∧ Binds K fd ps []
theorem with_defA {R : Prop} {K : PySem.W.Frag} {h : Heap} {mg : Str → Option Value} {x y : Str} {st : Stmt} {ps : List Str} {f : Addr} {od an : Option Addr} {sl : Array (Option Value)} {oc kV dc pm cd ct : Value} (X : K.In h) (G : h.Ns mainGlobals mg)
    (a : PySem.W.nsIn K mainGlobals y = some (some (.ref f))) (l : K.lookup f = some ⟨oc, od, .func (PySem.W.fnOf x x (defArgs st) (defBody st) (defScope st) .none kV dc pm an cd ct), sl⟩) (c : PySem.W.codeIn K cd x = true) (k : PySem.W.keepIn K (.ref f) = true)
    (b : ∀ (kV doc pm : Value) (an : Option Addr) (cdv ct : Value) (us : List Value), us.length = ps.length → bindArgs (PySem.W.fnOf x x (defArgs st) (defBody st) (defScope st) .none kV doc pm an cdv ct) ⟨us, []⟩ = pure (ps.zip us)) (n : DefAtA K mg x y st ps → R) : R := by
  have F := fun_mk (st := st) l c k
  exact n ⟨_, _, F, PySem.W.mg_of X G a, F.binds b⟩
theorem units65H {k : Nat} {A : Around} (r : L2H.RoomH k A) : A.units + 65 < cLine := by have := r.un; omega
theorem e_mkE {n : Nat} {Φ : List D → Option MkR} {fs : M (List Op)} {ρ : Sl} : vMkE n Φ fs ρ = bnK (fun os ρ => mkOE n Φ ρ (vals os)) (fs ρ) := rfl
theorem k_mkE {n : Nat} {Φ : List D → Option MkR} {ρ : Sl} {ds : List D} : mkOE n Φ ρ (some ds) = if ds.length = n then (Φ ds).map (mkRO ρ) else none := rfl
theorem k_mkR1 {ρ : Sl} {d : D} : mkRO ρ (.ok d) = .ok (.sh d) ρ := rfl
theorem k_mkR2 {ρ : Sl} {c : Nat} : mkRO ρ (.ex c) = .ex c ρ := rfl
end Sim

namespace Sim
open PySem PySem.Spec PyProof.Rows L2

/-! ### texts: partition, split, int, walked -/
def gPartn : D → List D → Option SV
  | .str a, [.str b] => if (b.length == 0) = false ∧ a.length ≤ 1000000 then some (.sh (.tup [.str (Txt.partition a b).1, .str (Txt.partition a b).2.1, .str (Txt.partition a b).2.2])) else none
  | _, _ => none
def gSplit : D → List D → Option SV
  | .str a, [.str b] => if (b.length == 0) = false ∧ a.length ≤ 1000000 then some (.fr ((Txt.split a b).map D.str)) else none
  | _, _ => none
def gIntS : List D → Option SV
  | [.str a] => if a.length ≤ 640 then (PySem.intText? a).map fun n => .sh (.int n) else none
  | _ => none
theorem RepL.strs {K : PySem.W.Frag} {H : Hp} : ∀ ns : List Str, RepL K H (ns.map V.str) (ns.map D.str)
  | [] => .nil
  | n :: ns => .cons (.str n) (RepL.strs ns)
section
variable {K : PySem.W.Frag}
theorem ok_partn : OkP K (fun x xs H Q => ∃ a b, x = .str a ∧ xs = [.str b] ∧ (b.length == 0) = false ∧ a.length ≤ sizeLine ∧
      ∀ p, H p = none → Q (.ref p) (upd H p (.tup [.str (Txt.partition a b).1, .str (Txt.partition a b).2.1, .str (Txt.partition a b).2.2]))) gPartn := by
  intro F B H σ ρ x xs dx ds sv Q R hx hxs hg q
  unfold gPartn at hg
  split at hg
  · rename_i a b
    split at hg
    · rename_i hc
      cases hg
      obtain ⟨v, rfl, rv⟩ := hxs.one
      refine ⟨a, b, hx.str, congrArg (fun v => [v]) rv.str, hc.1, mill_le hc.2, fun p hp => ?_⟩
      obtain ⟨R2, sm⟩ := R.newB (o := .tup [.str (Txt.partition a b).1, .str (Txt.partition a b).2.1, .str (Txt.partition a b).2.2]) hp
      exact q _ _ _ R2 sm (.sh (.tup (.inl upd_same) (.cons (.str _) (.cons (.str _) (.cons (.str _) .nil)))))
    · cases hg
  · cases hg
theorem mill2_le {n : Nat} (h : n ≤ 1000000) : n + 2 ≤ sizeLine := by
  have : (1000002 : Nat) ≤ sizeLine := by decide
  omega
theorem ok_split : OkP K (fun x xs H Q => ∃ a b, x = .str a ∧ xs = [.str b] ∧ (b.length == 0) = false ∧ a.length + 2 ≤ sizeLine ∧ rNewStrs (Txt.split a b) H Q) gSplit := by
  intro F B H σ ρ x xs dx ds sv Q R hx hxs hg q
  unfold gSplit at hg
  split at hg
  · rename_i a b
    split at hg
    · rename_i hc
      cases hg
      obtain ⟨v, rfl, rv⟩ := hxs.one
      exact ⟨a, b, hx.str, congrArg (fun v => [v]) rv.str, hc.1, mill2_le hc.2, fun p hp => q _ B _ (R.new hp) (Same.refl _) (RV.newL R hp (RepL.strs _))⟩
    · cases hg
  · cases hg
theorem ok_intS : OkA K (fun xs H Q => ∃ a n, xs = [.str a] ∧ PySem.intText? a = some n ∧ a.length ≤ 640 ∧ Q (.int n) H) gIntS := by
  intro F B H σ ρ xs ds sv Q R hx hg q
  unfold gIntS at hg
  split at hg
  · rename_i a
    split at hg
    · rename_i hc
      cases e : PySem.intText? a with
      | none =>
        rw [e] at hg
        cases hg
      | some n =>
        rw [e] at hg
        cases hg
        obtain ⟨v, rfl, rv⟩ := hx.one
        exact ⟨a, n, congrArg (fun v => [v]) rv.str, e, hc, q _ B H R (Same.refl _) (.sh (.int _))⟩
    · cases hg
  · cases hg
end
def signD (s : Str) : List D := s.cps.toList.map fun c => .str ⟨#[c]⟩
def jStr (o : Op) (ρ : Sl) : Option Itb := match get ρ o with
  | some (.str s) => some ⟨signD s, []⟩
  | _ => none
def iSg (a : M Op) : M Itb := liftI a jStr
section
variable {cv : Nat → Value} {X : Cx} {W : WX} {e tg : Expr} {te : TE} {f : M Op}
theorem sni_str (h : SndO cv X W e te f) : SndI cv X W tg e (iStr te) (iSg f) := by
  refine ⟨pi_str h.pe, fun F B H σ ρ Q R q => ?_⟩
  refine h.ad F B H σ ρ _ R (wpm_mono (wpm_bnd q) (fun o ρ1 q v B1 H1 R1 sm1 ov => ?_) fun _ _ q => q)
  obtain ⟨ib, e1, q⟩ := wpm_map q
  unfold jStr at e1
  split at e1
  · rename_i s e2
    cases e1
    have r := (ov.rep R1 e2).str
    refine ⟨s, r, q _ B1 H1 R1 sm1 fun F2 B2 H2 σ2 ρ2 R2 sm2 g i => ?_⟩
    refine ⟨fun d hd => ?_, fun hl => ?_⟩
    · have hd : (signD s)[i]? = some d := hd
      unfold signD at hd
      rw [List.getElem?_map] at hd
      cases ec : s.cps.toList[i]? with
      | none =>
        rw [ec] at hd
        cases hd
      | some c =>
        rw [ec] at hd
        cases hd
        rw [Array.getElem?_toList] at ec
        refine ⟨(Array.getElem?_eq_some_iff.mp ec).1, fun x H' hyd => ?_⟩
        obtain ⟨rfl, c', hc', rfl⟩ := hyd
        rw [ec] at hc'
        cases hc'
        exact ⟨B2, R2, Same.refl _, .str _⟩
    · have hl : (signD s).length ≤ i := hl
      unfold signD at hl
      rw [List.length_map, Array.length_toList] at hl
      exact hl
  · cases e1
end
theorem k_jSg {s : Str} {ρ : Sl} : jStr (.val (.str s)) ρ = some ⟨signD s, []⟩ := rfl
theorem e_iSg {f : M Op} {ρ : Sl} : iSg f ρ = bnK (fun o ρ => itK ρ (jStr o ρ)) (f ρ) := rfl
theorem e_partn {a b : Str} (h : (b.length == 0) = false ∧ a.length ≤ 1000000) : gPartn (.str a) [.str b] = some (.sh (.tup [.str (Txt.partition a b).1, .str (Txt.partition a b).2.1, .str (Txt.partition a b).2.2])) := if_pos h
theorem e_split {a b : Str} (h : (b.length == 0) = false ∧ a.length ≤ 1000000) : gSplit (.str a) [.str b] = some (.fr ((Txt.split a b).map D.str)) := if_pos h
theorem e_intS {a : Str} {n : Int} (h : a.length ≤ 640) (e : PySem.intText? a = some n) : gIntS [.str a] = some (.sh (.int n)) := by
  show (if a.length ≤ 640 then (PySem.intText? a).map fun n => SV.sh (.int n) else none) = _
  rw [if_pos h, e]
  rfl
end Sim


/-! the walk of law_k84_walks_written, printed by gen.py -/
namespace LawW
open PySem PySem.Spec PyProof.Rows L2 Sim
/-! ### runs -/
noncomputable def wc_common_1 : M Bool :=
    (tst (vOp2 (gCmp fun i j => decide (j < i)) (oPk 1) (oOf (vC (.int 0)))))
noncomputable def wb_common_1 : SM :=
    (sPar 0 1 (aCons (oOf (vVar 1)) (aCons (oOf (vOp2 gMod (oPk 0) (oPk 1))) aNil)))
noncomputable def b_common : SM :=
    (sSeq (sPar 0 1 (aCons (oOf (vBi gAbs (aCons (oPk 0) aNil))) (aCons (oOf (vBi gAbs (aCons (oPk 1) aNil))) aNil)))
    (sSeq (sWhile wc_common_1 wb_common_1)
    (sRet (vMv 0))))
noncomputable def phi_common : List D → Option CR := runB none 2 b_common
noncomputable def lc_read_number_1 : M Bool :=
    (tst (vOp2 (gInS true) (oPk 3) (oOf (vC (D.str "0123456789")))))
noncomputable def le_read_number_1 : M SV :=
    (vVar 3)
noncomputable def b_read_number : SM :=
    (sSeq (sAsg (vVar 0) (gN 2))
    (sSeq (sIf (tst (vOp2 gEq (oOf (vSl (oPk 0) pNo (pIn (vC (.int 1))))) (oOf (vC (.str "-")))))
    (sAsg (vSl (oPk 0) (pIn (vC (.int 1))) pNo) (gN 2))
    sNx)
    (sSeq (sIf (tor (tnot (tst (vChain (gCmp fun i j => decide (i ≤ j)) (gCmp fun i j => decide (i ≤ j)) (oOf (vC (.int 1))) (oOf (vBi gLen (aCons (oPk 2) aNil))) (oPk 1)))) (tst (vOp2 gNe (oOf (vLc [3] (iSg (oOf (vVar 2))) (gN 3) lc_read_number_1 le_read_number_1)) (oOf (vLst aNil)))))
    sNever
    sNx)
    (sSeq (sIf (tand (tst (vOp2 gEq (oOf (vOp2 gIx (oPk 2) (oOf (vC (.int 0))))) (oOf (vC (.str "0"))))) (tst (vOp2 gNe (oPk 0) (oOf (vC (.str "0"))))))
    sNever
    sNx)
    (sRet (vBi gIntS (aCons (oPk 0) aNil)))))))
noncomputable def phi_read_number : List D → Option CR := runB none 4 b_read_number
noncomputable def b_show_place : SM :=
    (sRet (vOp2 gAdd (oOf (vOp2 gAdd (oOf (vBi gStr (aCons (oOf (vOp2 gIx (oPk 0) (oOf (vC (.int 0))))) aNil))) (oOf (vC (.str "/"))))) (oOf (vBi gStr (aCons (oOf (vOp2 gIx (oPk 0) (oOf (vC (.int 1))))) aNil)))))
noncomputable def phi_show_place : List D → Option CR := runB none 1 b_show_place
noncomputable def lc_show_walk_1 : M Bool :=
    (ret true)
noncomputable def le_show_walk_1 : M SV :=
    (vCall 1 none phi_show_place (aCons (oPk 1) aNil))
noncomputable def b_show_walk : SM :=
    (sRet (vMp ckS gJoin (oOf (vC (.str " "))) (aCons (oOf (vLc [1] (iLs (oOf (vVar 0))) (gN 1) lc_show_walk_1 le_show_walk_1)) aNil)))
noncomputable def phi_show_walk : List D → Option CR := runB none 2 b_show_walk
noncomputable def b_read_place : SM :=
    (sSeq (sIf (tnot (tst (vIs isStr (oPk 0))))
    sNever
    sNx)
    (sSeq (sAsg (vMp ckS gPartn (oPk 0) (aCons (oOf (vC (.str "/"))) aNil)) (gT 3 (gsC (gN 1) (gsC (gN 2) (gsC (gN 3) gsN)))))
    (sSeq (sAsg (vTup (aCons (oOf (vCall 2 none phi_read_number (aCons (oPk 1) (aCons (oOf (vC (D.int 30))) aNil)))) (aCons (oOf (vCall 2 none phi_read_number (aCons (oPk 3) (aCons (oOf (vC (D.int 30))) aNil)))) aNil))) (gN 4))
    (sSeq (sIf (tor (tst (vOp2 (gCmp fun i j => decide (i < j)) (oOf (vOp2 gIx (oPk 4) (oOf (vC (.int 1))))) (oOf (vC (.int 0))))) (tor (tst (vOp2 gNe (oOf (vCall 2 none phi_common (aCons (oOf (vOp2 gIx (oPk 4) (oOf (vC (.int 0))))) (aCons (oOf (vOp2 gIx (oPk 4) (oOf (vC (.int 1))))) aNil)))) (oOf (vC (.int 1))))) (tand (tst (vOp2 gEq (oOf (vOp2 gIx (oPk 4) (oOf (vC (.int 1))))) (oOf (vC (.int 0))))) (tst (vOp2 gNe (oOf (vOp2 gIx (oPk 4) (oOf (vC (.int 0))))) (oOf (vC (.int 1))))))))
    sNever
    sNx)
    (sRet (vMv 4))))))
noncomputable def phi_read_place : List D → Option CR := runB none 5 b_read_place
noncomputable def lc_read_walk_1 : M Bool :=
    (ret true)
noncomputable def le_read_walk_1 : M SV :=
    (vCall 1 none phi_read_place (aCons (oPk 2) aNil))
noncomputable def b_read_walk : SM :=
    (sSeq (sIf (tnot (tst (vIs isStr (oPk 0))))
    sNever
    sNx)
    (sSeq (sAsg (vMp ckS gSplit (oPk 0) (aCons (oOf (vC (.str " "))) aNil)) (gN 1))
    (sSeq (sIf (tnot (tst (vChain (gCmp fun i j => decide (i ≤ j)) (gCmp fun i j => decide (i ≤ j)) (oOf (vC (.int 2))) (oOf (vBi gLen (aCons (oPk 1) aNil))) (oOf (vC (D.int 12))))))
    sNever
    sNx)
    (sRet (vLc [2] (iLs (oOf (vVar 1))) (gN 2) lc_read_walk_1 le_read_walk_1)))))
noncomputable def phi_read_walk : List D → Option CR := runB none 3 b_read_walk
noncomputable def b_law_cell_at : SM :=
    (sSeq (sIf (tst (vOp2 (gCmp fun i j => decide (i < j)) (oPk 1) (oOf (vBi gLen (aCons (oPk 0) aNil)))))
    (sRet (vOp2 gIx (oPk 0) (oPk 1)))
    sNx)
    (sRet (vC (.int 0))))
noncomputable def phi_law_cell_at : List D → Option CR := runB none 2 b_law_cell_at
noncomputable def b_law_number : SM :=
    (sSeq (sAsg (vCall 2 none phi_law_cell_at (aCons (oPk 0) (aCons (oPk 1) aNil))) (gN 2))
    (sSeq (sIf (tst (vOp2 (gCmp fun i j => decide (j ≤ i)) (oPk 2) (oOf (vOp2 gPow (oOf (vC (.int 10))) (oOf (vC (.int 18)))))))
    (sRet (vMv 2))
    sNx)
    (sSeq (sAsg (vOp2 gMod (oOf (vOp2 gMul (oOf (vOp2 gAdd (oPk 2) (oOf (vOp2 gMul (oOf (vC (.int 1442695040888963407))) (oOf (vOp2 gAdd (oOf (vOp2 gAdd (oOf (vOp2 gMul (oPk 1) (oPk 1))) (oPk 1))) (oOf (vC (.int 1))))))))) (oOf (vC (.int 6364136223846793005))))) (oOf (vOp2 gPow (oOf (vC (.int 10))) (oOf (vC (.int 37)))))) (gN 3))
    (sRet (vOp2 gMod (oOf (vOp2 gDiv (oOf (vOp2 gMul (oPk 3) (oPk 3))) (oOf (vOp2 gPow (oOf (vC (.int 10))) (oOf (vC (.int 17))))))) (oOf (vOp2 gPow (oOf (vC (.int 10))) (oOf (vC (.int 40))))))))))
noncomputable def phi_law_number : List D → Option CR := runB none 4 b_law_number
noncomputable def wc_law_common_1 : M Bool :=
    (tst (vOp2 (gCmp fun i j => decide (j < i)) (oPk 1) (oOf (vC (.int 0)))))
noncomputable def wb_law_common_1 : SM :=
    (sPar 0 1 (aCons (oOf (vVar 1)) (aCons (oOf (vOp2 gMod (oPk 0) (oPk 1))) aNil)))
noncomputable def b_law_common : SM :=
    (sSeq (sPar 0 1 (aCons (oOf (vBi gAbs (aCons (oPk 0) aNil))) (aCons (oOf (vBi gAbs (aCons (oPk 1) aNil))) aNil)))
    (sSeq (sWhile wc_law_common_1 wb_law_common_1)
    (sRet (vMv 0))))
noncomputable def phi_law_common : List D → Option CR := runB none 2 b_law_common
noncomputable def b_law_whole : SM :=
    (sRet (vand (vIs isInt (oPk 0)) (vnot (vIs isBl (oPk 0)))))
noncomputable def phi_law_whole : List D → Option CR := runB none 1 b_law_whole
noncomputable def b_law_place : SM :=
    (sSeq (sAsg (vCall 2 none phi_law_common (aCons (oPk 0) (aCons (oPk 1) aNil))) (gN 2))
    (sSeq (sIf (tor (tst (vOp2 (gCmp fun i j => decide (i < j)) (oPk 1) (oOf (vC (.int 0))))) (tand (tst (vOp2 gEq (oPk 1) (oOf (vC (.int 0))))) (tst (vOp2 (gCmp fun i j => decide (i < j)) (oPk 0) (oOf (vC (.int 0)))))))
    (sAsg (vOp2 gSub (oOf (vC (.int 0))) (oPk 2)) (gN 2))
    sNx)
    (sRet (vTup (aCons (oOf (vOp2 gDiv (oPk 0) (oPk 2))) (aCons (oOf (vOp2 gDiv (oPk 1) (oPk 2))) aNil))))))
noncomputable def phi_law_place : List D → Option CR := runB none 3 b_law_place
noncomputable def b_law_drawn_place : SM :=
    (sSeq (sAsg (vOp2 gIx (oOf (vLst (aCons (oOf (vC (.int 4))) (aCons (oOf (vC (.int 30))) (aCons (oOf (vOp2 gPow (oOf (vC (.int 10))) (oOf (vC (.int 9))))) (aCons (oOf (vOp2 gPow (oOf (vC (.int 10))) (oOf (vC (.int 30))))) aNil)))))) (oOf (vOp2 gMod (oPk 0) (oOf (vC (.int 4)))))) (gN 1))
    (sSeq (sAsg (vOp2 gDiv (oPk 0) (oOf (vC (.int 4)))) (gN 0))
    (sSeq (sAsg (vOp2 gMul (oOf (vOp2 gMod (oPk 0) (oPk 1))) (oOf (vOp2 gSub (oOf (vC (.int 1))) (oOf (vOp2 gMul (oOf (vC (.int 2))) (oOf (vOp2 gMod (oOf (vOp2 gDiv (oPk 0) (oPk 1))) (oOf (vC (.int 2)))))))))) (gN 2))
    (sSeq (sAsg (vOp2 gMod (oOf (vOp2 gDiv (oPk 0) (oOf (vOp2 gMul (oOf (vC (.int 2))) (oPk 1))))) (oPk 1)) (gN 3))
    (sSeq (sIf (tand (tst (vOp2 gEq (oPk 2) (oOf (vC (.int 0))))) (tst (vOp2 gEq (oPk 3) (oOf (vC (.int 0))))))
    (sRet (vTup (aCons (oOf (vC (.int 1))) (aCons (oOf (vC (.int 0))) aNil))))
    sNx)
    (sRet (vCall 2 none phi_law_place (aCons (oPk 2) (aCons (oPk 3) aNil)))))))))
noncomputable def phi_law_drawn_place : List D → Option CR := runB none 4 b_law_drawn_place
noncomputable def fb_law_walk_1 : SM :=
    (sDrop (vMt 4 gApp (aCons (oOf (vCall 1 none phi_law_drawn_place (aCons (oOf (vOp2 gAdd (oOf (vOp2 gDiv (oOf (vOp2 gDiv (oPk 2) (oOf (vC (.int 11))))) (oOf (vOp2 gIx (oOf (vLst (aCons (oOf (vC (.int 1))) (aCons (oOf (vC (.int 61))) (aCons (oOf (vC (.int 3721))) (aCons (oOf (vC (.int 226981))) aNil)))))) (oOf (vOp2 gMod (oPk 5) (oOf (vC (.int 4))))))))) (oOf (vOp2 gMul (oOf (vOp2 gMul (oPk 5) (oPk 5))) (oOf (vC (.int 104729))))))) aNil))) aNil)))
noncomputable def b_law_walk : SM :=
    (sSeq (sAsg (vCall 2 none phi_law_number (aCons (oPk 0) (aCons (oPk 1) aNil))) (gN 2))
    (sSeq (sAsg (vOp2 gAdd (oOf (vC (.int 2))) (oOf (vOp2 gMod (oPk 2) (oOf (vC (.int 11)))))) (gN 3))
    (sSeq (sAsg (vLst aNil) (gN 4))
    (sSeq (sFor (iR1 (aCons (oPk 3) aNil)) (gN 5) fb_law_walk_1)
    (sRet (vMv 4))))))
noncomputable def phi_law_walk : List D → Option CR := runB none 6 b_law_walk
noncomputable def lc_law_right_1 : M Bool :=
    (ret true)
noncomputable def le_law_right_1 : M SV :=
    (vOp2 gAdd (oOf (vOp2 gAdd (oOf (vBi gStr (aCons (oPk 6) aNil))) (oOf (vC (.str "/"))))) (oOf (vBi gStr (aCons (oPk 7) aNil))))
noncomputable def lc_law_right_2 : M Bool :=
    (ret true)
noncomputable def le_law_right_2 : M SV :=
    (vand (vIs isTup (oPk 8)) (vand (vCall 1 none phi_law_whole (aCons (oOf (vOp2 gIx (oPk 8) (oOf (vC (.int 0))))) aNil)) (vCall 1 none phi_law_whole (aCons (oOf (vOp2 gIx (oPk 8) (oOf (vC (.int 1))))) aNil))))
noncomputable def fb_law_right_1 : SM :=
    (sSeq (sAsg (vCall 1 none phi_read_walk (aCons (oPk 2) aNil)) (gN 5))
    (sSeq (sIf (tor (tnot (tst (vIs isLst (oPk 5)))) (tst (vOp2 gNe (oPk 5) (oPk 0))))
    (sRet (vC (.bl false)))
    sNx)
    (sSeq (sIf (tnot (tst (vBi gAll (aCons (oOf (vLc [8] (iLs (oPk 5)) (gN 8) lc_law_right_2 le_law_right_2)) aNil))))
    (sRet (vC (.bl false)))
    sNx)
    (sDrop (vMt 5 gApp (aCons (oOf (vTup (aCons (oOf (vC (.int 0))) (aCons (oOf (vC (.int 1))) aNil)))) aNil))))))
noncomputable def b_law_right : SM :=
    (sSeq (sAsg (vBi gListOf (aCons (oPk 0) aNil)) (gN 1))
    (sSeq (sAsg (vCall 1 none phi_show_walk (aCons (oPk 1) aNil)) (gN 2))
    (sSeq (sAsg (vMp ckS gJoin (oOf (vC (.str " "))) (aCons (oOf (vLc [6, 7] (iLs (oOf (vVar 0))) (gT 2 (gsC (gN 6) (gsC (gN 7) gsN))) lc_law_right_1 le_law_right_1)) aNil)) (gN 3))
    (sSeq (sIf (tor (tst (vOp2 gNe (oPk 1) (oPk 0))) (tor (tnot (tst (vIs isStr (oPk 2)))) (tst (vOp2 gNe (oPk 2) (oPk 3)))))
    (sRet (vC (.bl false)))
    sNx)
    (sSeq (sFor (iR1 (aCons (oOf (vC (.int 2))) aNil)) (gN 4) fb_law_right_1)
    (sRet (vC (.bl true))))))))
noncomputable def phi_law_right : List D → Option CR := runB none 9 b_law_right
noncomputable def fb_law_1 : SM :=
    (sIf (tnot (tst (vCall 1 none phi_law_right (aCons (oOf (vCall 2 none phi_law_walk (aCons (oPk 0) (aCons (oPk 1) aNil)))) aNil))))
    (sRet (vC (.bl false)))
    sNx)
noncomputable def b_law : SM :=
    (sSeq (sFor (iR1 (aCons (oOf (vBi gMax (aCons (oOf (vC (.int 2))) (aCons (oOf (vBi gMin (aCons (oOf (vC (.int 6))) (aCons (oOf (vBi gLen (aCons (oPk 0) aNil))) aNil)))) aNil)))) aNil)) (gN 1) fb_law_1)
    (sRet (vCall 1 none phi_law_right (aCons (oOf (vLst (aCons (oOf (vTup (aCons (oOf (vC (.int 1))) (aCons (oOf (vC (.int 0))) aNil)))) (aCons (oOf (vTup (aCons (oOf (vC (.int 1))) (aCons (oOf (vC (.int 0))) aNil)))) aNil)))) aNil))))
noncomputable def phi_law : List D → Option CR := runB none 2 b_law
end LawW

namespace LawW
open PySem PySem.Spec PyProof.Rows L2 Sim
abbrev M4 (a b c d : Int) : D := .tup [.tup [.int a, .int b], .tup [.int c, .int d]]
def Bd (k : Nat) (x : Int) : Prop := x.natAbs < 2 ^ k
def Bd4 (k : Nat) (a b c d : Int) : Prop := Bd k a ∧ Bd k b ∧ Bd k c ∧ Bd k d
def Sm (x : Int) : Prop := -(2 ^ 64) < x ∧ x < 2 ^ 64
theorem pw_le {k m : Nat} (h : k ≤ m) : 2 ^ k ≤ 2 ^ m := Nat.pow_le_pow_right (by decide) h
theorem Bd.mono {k m : Nat} {x : Int} (h : Bd k x) (e : k ≤ m) : Bd m x := Nat.lt_of_lt_of_le h (pw_le e)
theorem Bd.add {k : Nat} {x y : Int} (h : Bd k x) (g : Bd k y) : Bd (k + 1) (x + y) := by
  unfold Bd at *
  rw [Nat.pow_succ]
  omega
theorem Bd.sub {k : Nat} {x y : Int} (h : Bd k x) (g : Bd k y) : Bd (k + 1) (x - y) := by
  unfold Bd at *
  rw [Nat.pow_succ]
  omega
theorem Bd.mul {k m : Nat} {x y : Int} (h : Bd k x) (g : Bd m y) : Bd (k + m) (x * y) := by
  unfold Bd at *
  rw [Int.natAbs_mul, Nat.pow_add]
  exact Nat.mul_lt_mul'' h g
theorem Bd.sm {k : Nat} {x : Int} (h : Bd k x) (hk : k ≤ 64) : Sm x := by
  have e := h.mono hk
  unfold Bd at e
  unfold Sm
  have e2 : (2 : Nat) ^ 64 = 18446744073709551616 := by decide
  have e3 : (2 : Int) ^ 64 = 18446744073709551616 := by decide
  rw [e2] at e
  rw [e3]
  omega
theorem Bd4.mono {k m : Nat} {a b c d : Int} (h : Bd4 k a b c d) (e : k ≤ m) : Bd4 m a b c d := ⟨h.1.mono e, h.2.1.mono e, h.2.2.1.mono e, h.2.2.2.mono e⟩
theorem bd_0 {k : Nat} : Bd k 0 := by
  unfold Bd
  exact Nat.two_pow_pos k
theorem bd_1 {k : Nat} (h : 1 ≤ k) : Bd k 1 := Nat.lt_of_lt_of_le (by decide) (pw_le h)
theorem bd_m1 {k : Nat} (h : 1 ≤ k) : Bd k (-1) := Nat.lt_of_lt_of_le (by decide) (pw_le h)
theorem Bd4.mul {k m : Nat} {a b c d e f g h : Int} (p : Bd4 k a b c d) (q : Bd4 m e f g h) : Bd4 (k + m + 1) (a * e + b * g) (a * f + b * h) (c * e + d * g) (c * f + d * h) :=
  ⟨(p.1.mul q.1).add (p.2.1.mul q.2.2.1), (p.1.mul q.2.1).add (p.2.1.mul q.2.2.2), (p.2.2.1.mul q.1).add (p.2.2.2.mul q.2.2.1), (p.2.2.1.mul q.2.1).add (p.2.2.2.mul q.2.2.2)⟩
theorem forL_invN {g : SV → Sl → Option Sl} {body : SM} (Inv : Nat → Sl → Prop) : ∀ {ds : List D} {i : Nat} {ρ : Sl}, (∀ d ∈ ds, ∀ i ρ, Inv i ρ → ∃ ρ1 ρ2, g (.sh d) ρ = some ρ1 ∧ body ρ1 = some (.nx ρ2) ∧ Inv (i + 1) ρ2) → Inv i ρ → ∃ ρ', forL g body ds ρ = some (.nx ρ') ∧ Inv (i + ds.length) ρ'
  | [], i, ρ, _, h0 => ⟨ρ, rfl, h0⟩
  | d :: ds, i, ρ, h, h0 => by
    obtain ⟨ρ1, ρ2, h1, h2, h3⟩ := h d List.mem_cons_self i ρ h0
    obtain ⟨ρ', h4, h5⟩ := forL_invN Inv (ds := ds) (ρ := ρ2) (fun d hd => h d (List.mem_cons_of_mem _ hd)) h3
    refine ⟨ρ', ?_, ?_⟩
    · unfold forL
      rw [h1]
      show turnK (forL g body ds) (body ρ1) = _
      rw [h2]
      exact h4
    · rw [List.length_cons, Nat.add_comm ds.length 1, ← Nat.add_assoc]
      exact h5
theorem atI_mem {α : Type} {l : List α} {i : Int} (h0 : 0 ≤ i) (h : i < l.length) : ∃ x ∈ l, atI l i = some x := by
  have e : i.toNat < l.length := by omega
  exact ⟨l[i.toNat], List.getElem_mem e, atI_at (List.getElem?_eq_getElem e) h0⟩
theorem bd_t {s t : Int} (h1 : 1 ≤ s) (h2 : s ≤ 9999) (h3 : 0 ≤ t) (h4 : t < 2 * s + 1) : Bd 14 (t - s) := by
  unfold Bd
  omega
theorem rng_len {lo : Int} {n : Nat} : (rngD lo n).length = n := by unfold rngD; rw [List.length_map, List.length_range]
theorem Bd.le {k : Nat} {x y : Int} (h : Bd k y) (e : x.natAbs ≤ y.natAbs) : Bd k x := Nat.lt_of_le_of_lt e h
abbrev P2 (p q : Int) : D := .tup [.int p, .int q]
/-- a comprehension that tells a value of each item -/
theorem lcL_map {vs : List Nat} {pk : List (Nat × List D)} {g : SV → Sl → Option Sl} {elt : M SV} {f : D → D} (St : Sl → Prop) : ∀ {ds : List D} {acc : List D} {ρ : Sl},
    (∀ d ∈ ds, ∀ ρ, St ρ → ∃ ρ1 ρ3, g (.sh d) (wipeS ρ vs) = some ρ1 ∧ elt ρ1 = some (.ok (.sh (f d)) ρ3) ∧ St ρ3) → (∀ ρ, St ρ → pkOk pk (wipeS ρ vs)) → acc.length + ds.length ≤ 1000000 → St ρ →
    ∃ ρ', lcL vs pk g (ret true) elt ds acc ρ = some (acc ++ ds.map f, ρ') ∧ St ρ'
  | [], acc, ρ, _, hp, _, h0 => by
    refine ⟨ρ, ?_, h0⟩
    unfold lcL
    rw [if_pos (hp ρ h0), List.map_nil, List.append_nil]
  | d :: ds, acc, ρ, h, hp, hl, h0 => by
    rw [List.length_cons] at hl
    obtain ⟨ρ1, ρ3, h1, h2, h3⟩ := h d List.mem_cons_self ρ h0
    obtain ⟨ρ', h4, h5⟩ := lcL_map St (ds := ds) (acc := acc ++ [f d]) (ρ := ρ3) (fun d hd => h d (List.mem_cons_of_mem _ hd)) hp (by rw [List.length_append, List.length_cons, List.length_nil]; omega) h3
    refine ⟨ρ', ?_, h5⟩
    unfold lcL
    rw [if_pos ⟨hp ρ h0, by omega⟩, h1]
    show (match elt ρ1 with | some (.ok sv ρ3) => lcL vs pk g (ret true) elt ds (acc ++ [sv.d]) ρ3 | _ => none) = _
    rw [h2]
    show lcL vs pk g (ret true) elt ds (acc ++ [f d]) ρ3 = _
    rw [h4, List.map_cons, List.append_assoc]
    rfl
theorem vLc_map {vs : List Nat} {it : M Itb} {ib : Itb} {g : SV → Sl → Option Sl} {elt : M SV} {f : D → D} (St : Sl → Prop) {ρ ρ0 : Sl} (hi : it ρ0 = some (.ok ib ρ)) (hn : noFr ρ vs) (hq : ∀ q ∈ ib.pk, q.1 ∉ vs) (hk : pkOk ib.pk ρ)
    (h : ∀ d ∈ ib.ds, ∀ ρ, St ρ → ∃ ρ1 ρ3, g (.sh d) (wipeS ρ vs) = some ρ1 ∧ elt ρ1 = some (.ok (.sh (f d)) ρ3) ∧ St ρ3) (hp : ∀ ρ, St ρ → pkOk ib.pk (wipeS ρ vs)) (hl : ib.ds.length ≤ 1000000) (h0 : St ρ) :
    ∃ ρ', vLc vs it g (ret true) elt ρ0 = some (.ok (.fr (ib.ds.map f)) (restS ρ ρ' vs)) ∧ St ρ' := by
  obtain ⟨ρ', e, h1⟩ := lcL_map St (ds := ib.ds) (acc := []) (ρ := ρ) h hp (by rw [List.length_nil]; omega) h0
  refine ⟨ρ', ?_, h1⟩
  unfold vLc
  rw [bnd_ok hi]
  rw [if_pos ⟨hn, hq, hk⟩, e]
  rfl
theorem blL_true : ∀ n : Nat, blL (List.replicate n (D.bl true)) = some (List.replicate n true)
  | 0 => rfl
  | n + 1 => by
    rw [List.replicate_succ]
    show (blL (List.replicate n (D.bl true))).map (true :: ·) = _
    rw [blL_true n]
    rfl
theorem gAll_true {n : Nat} : gAll [.lst (List.replicate n (.bl true))] = some (.sh (.bl true)) := by
  show (blL (List.replicate n (D.bl true))).map (fun bs => SV.sh (.bl (bs.all id))) = _
  rw [blL_true]
  simp
theorem map_const {l : List D} {d : D} : l.map (fun _ => d) = List.replicate l.length d := by
  induction l with
  | nil => rfl
  | cons a l ih => rw [List.map_cons, ih]; rfl
/-- a comprehension with a test -/
theorem lcL_fm {vs : List Nat} {pk : List (Nat × List D)} {g : SV → Sl → Option Sl} {c : M Bool} {elt : M SV} {p : D → Bool} {f : D → D} (St : Sl → Prop) : ∀ {ds : List D} {acc : List D} {ρ : Sl},
    (∀ d ∈ ds, ∀ ρ, St ρ → ∃ ρ1 ρ2, g (.sh d) (wipeS ρ vs) = some ρ1 ∧ c ρ1 = some (.ok (p d) ρ2) ∧ (p d = false → St ρ2) ∧ (p d = true → ∃ ρ3, elt ρ2 = some (.ok (.sh (f d)) ρ3) ∧ St ρ3)) → (∀ ρ, St ρ → pkOk pk (wipeS ρ vs)) → acc.length + ds.length ≤ 1000000 → St ρ →
    ∃ ρ', lcL vs pk g c elt ds acc ρ = some (acc ++ (ds.filter p).map f, ρ') ∧ St ρ'
  | [], acc, ρ, _, hp, _, h0 => by
    refine ⟨ρ, ?_, h0⟩
    unfold lcL
    rw [if_pos (hp ρ h0), List.filter_nil, List.map_nil, List.append_nil]
  | d :: ds, acc, ρ, h, hp, hl, h0 => by
    rw [List.length_cons] at hl
    obtain ⟨ρ1, ρ2, h1, h2, h3, h4⟩ := h d List.mem_cons_self ρ h0
    cases hpd : p d with
    | false =>
      obtain ⟨ρ', e, k⟩ := lcL_fm St (ds := ds) (acc := acc) (ρ := ρ2) (fun d hd => h d (List.mem_cons_of_mem _ hd)) hp (by omega) (h3 hpd)
      refine ⟨ρ', ?_, k⟩
      unfold lcL
      rw [if_pos ⟨hp ρ h0, by omega⟩, h1]
      show (match c ρ1 with | some (.ok true ρ2) => _ | some (.ok false ρ2) => lcL vs pk g c elt ds acc ρ2 | _ => none) = _
      rw [h2, hpd]
      show lcL vs pk g c elt ds acc ρ2 = _
      rw [e, List.filter_cons, hpd]
      rfl
    | true =>
      obtain ⟨ρ3, h5, h6⟩ := h4 hpd
      obtain ⟨ρ', e, k⟩ := lcL_fm St (ds := ds) (acc := acc ++ [f d]) (ρ := ρ3) (fun d hd => h d (List.mem_cons_of_mem _ hd)) hp (by rw [List.length_append, List.length_cons, List.length_nil]; omega) h6
      refine ⟨ρ', ?_, k⟩
      unfold lcL
      rw [if_pos ⟨hp ρ h0, by omega⟩, h1]
      show (match c ρ1 with | some (.ok true ρ2) => (match elt ρ2 with | some (.ok sv ρ3) => lcL vs pk g c elt ds (acc ++ [sv.d]) ρ3 | _ => none) | some (.ok false ρ2) => lcL vs pk g c elt ds acc ρ2 | _ => none) = _
      rw [h2, hpd]
      show (match elt ρ2 with | some (.ok sv ρ3) => lcL vs pk g c elt ds (acc ++ [sv.d]) ρ3 | _ => none) = _
      rw [h5]
      show lcL vs pk g c elt ds (acc ++ [f d]) ρ3 = _
      rw [e, List.filter_cons, hpd, List.append_assoc]
      rfl
theorem vLc_fm {vs : List Nat} {it : M Itb} {ib : Itb} {g : SV → Sl → Option Sl} {c : M Bool} {elt : M SV} {p : D → Bool} {f : D → D} (St : Sl → Prop) {ρ ρ0 : Sl} (hi : it ρ0 = some (.ok ib ρ)) (hn : noFr ρ vs) (hq : ∀ q ∈ ib.pk, q.1 ∉ vs) (hk : pkOk ib.pk ρ)
    (h : ∀ d ∈ ib.ds, ∀ ρ, St ρ → ∃ ρ1 ρ2, g (.sh d) (wipeS ρ vs) = some ρ1 ∧ c ρ1 = some (.ok (p d) ρ2) ∧ (p d = false → St ρ2) ∧ (p d = true → ∃ ρ3, elt ρ2 = some (.ok (.sh (f d)) ρ3) ∧ St ρ3)) (hp : ∀ ρ, St ρ → pkOk ib.pk (wipeS ρ vs)) (hl : ib.ds.length ≤ 1000000) (h0 : St ρ) :
    ∃ ρ', vLc vs it g c elt ρ0 = some (.ok (.fr ((ib.ds.filter p).map f)) (restS ρ ρ' vs)) ∧ St ρ' := by
  obtain ⟨ρ', e, h1⟩ := lcL_fm St (ds := ib.ds) (acc := []) (ρ := ρ) h hp (by rw [List.length_nil]; omega) h0
  refine ⟨ρ', ?_, h1⟩
  unfold vLc
  rw [bnd_ok hi]
  rw [if_pos ⟨hn, hq, hk⟩, e]
  rfl
theorem gAll_bools (l : List Bool) : gAll [.lst (l.map .bl)] = some (.sh (.bl (l.all id))) := by
  have h : ∀ l : List Bool, blL (l.map D.bl) = some l := by
    intro l
    induction l with
    | nil => rfl
    | cons b l ih =>
      show (blL (l.map D.bl)).map (b :: ·) = _
      rw [ih]
      rfl
  show (blL (l.map D.bl)).map (fun bs => SV.sh (.bl (bs.all id))) = _
  rw [h]
  rfl
theorem rng_small {n : Int} (h0 : -1000 ≤ n) (h : n ≤ 1000000) : RngOk n := by
  unfold RngOk
  have e2 : (2 : Int) ^ 62 = 4611686018427387904 := by decide
  rw [e2]
  omega
/-! a comprehension whose parts change nothing but its own names -/
theorem wipe_get {ρ : Sl} {j : Nat} : ∀ {vs : List Nat}, j ∉ vs → (wipeS ρ vs)[j]? = ρ[j]?
  | [], _ => rfl
  | v :: vs, h => by
    rw [List.mem_cons, not_or] at h
    unfold wipeS
    rw [List.getElem?_set_ne (fun e => h.1 e.symm)]
    exact wipe_get h.2
theorem rest_get {ρ0 ρ : Sl} {j : Nat} : ∀ {vs : List Nat}, j ∉ vs → (restS ρ0 ρ vs)[j]? = ρ[j]?
  | [], _ => rfl
  | v :: vs, h => by
    rw [List.mem_cons, not_or] at h
    unfold restS
    rw [List.getElem?_set_ne (fun e => h.1 e.symm)]
    exact rest_get h.2
theorem rest_in {ρ0 ρ : Sl} {j : Nat} (hj : j < ρ.length) : ∀ {vs : List Nat}, j ∈ vs → (restS ρ0 ρ vs)[j]? = some (ρ0[j]?.getD none)
  | [], h => nomatch h
  | v :: vs, h => by
    unfold restS
    by_cases e : v = j
    · subst e
      rw [List.getElem?_set_self (by rw [restS_length]; exact hj)]
    · rw [List.getElem?_set_ne e]
      exact rest_in hj ((List.mem_cons.mp h).resolve_left (fun z => e z.symm))
theorem rest_wipe {ρ ρ' : Sl} {vs : List Nat} (hl : ρ'.length = ρ.length) (hw : wipeS ρ' vs = wipeS ρ vs) : restS ρ ρ' vs = ρ := by
  refine List.ext_getElem? fun j => ?_
  by_cases hj : j ∈ vs
  · by_cases h1 : j < ρ.length
    · rw [rest_in (by omega) hj, List.getElem?_eq_getElem h1]
      rfl
    · rw [List.getElem?_eq_none (by rw [restS_length]; omega), List.getElem?_eq_none (by omega)]
  · rw [rest_get hj, ← wipe_get (ρ := ρ') hj, hw, wipe_get hj]
theorem vLc_pure {vs : List Nat} {it : M Itb} {ds : List D} {pk : List (Nat × List D)} {g : SV → Sl → Option Sl} {c : M Bool} {elt : M SV} {p : D → Bool} {f : D → D} {ρ ρ0 : Sl} (hi : it ρ0 = some (.ok ⟨ds, pk⟩ ρ)) (hn : noFr ρ vs) (hq : ∀ q ∈ pk, q.1 ∉ vs) (hk : pkOk pk ρ)
    (h : ∀ d ∈ ds, ∃ ρ1, g (.sh d) (wipeS ρ vs) = some ρ1 ∧ ρ1.length = ρ.length ∧ wipeS ρ1 vs = wipeS ρ vs ∧ c ρ1 = some (.ok (p d) ρ1) ∧ (p d = true → elt ρ1 = some (.ok (.sh (f d)) ρ1))) (hl : ds.length ≤ 1000000) :
    vLc vs it g c elt ρ0 = some (.ok (.fr ((ds.filter p).map f)) ρ) := by
  obtain ⟨ρ', e, h1, h2⟩ := vLc_fm (vs := vs) (it := it) (ib := ⟨ds, pk⟩) (g := g) (c := c) (elt := elt) (p := p) (f := f) (fun ρ' => ρ'.length = ρ.length ∧ wipeS ρ' vs = wipeS ρ vs) (ρ := ρ) (ρ0 := ρ0) hi hn hq hk
    (by
      rintro d hd ρ' ⟨h1, h2⟩
      obtain ⟨ρ1, e1, e2, e3, e4, e5⟩ := h d hd
      rw [h2]
      refine ⟨ρ1, ρ1, e1, e4, fun _ => ⟨e2, e3⟩, fun hp => ⟨ρ1, e5 hp, e2, e3⟩⟩)
    (by
      rintro ρ' ⟨h1, h2⟩ q hq'
      rw [h2, wipe_get (hq q hq')]
      exact hk q hq')
    hl ⟨rfl, rfl⟩
  rw [e, rest_wipe h1 h2]
/-- the same over what is not borrowed -/
theorem vLc_sh {vs : List Nat} {it : M Itb} {ds : List D} {g : SV → Sl → Option Sl} {c : M Bool} {elt : M SV} {p : D → Bool} {f : D → D} {ρ ρ0 : Sl} (hi : it ρ0 = some (.ok ⟨ds, []⟩ ρ)) (hn : noFr ρ vs)
    (h : ∀ d ∈ ds, ∃ ρ1, g (.sh d) (wipeS ρ vs) = some ρ1 ∧ ρ1.length = ρ.length ∧ wipeS ρ1 vs = wipeS ρ vs ∧ c ρ1 = some (.ok (p d) ρ1) ∧ (p d = true → elt ρ1 = some (.ok (.sh (f d)) ρ1))) (hl : ds.length ≤ 1000000) :
    vLc vs it g c elt ρ0 = some (.ok (.fr ((ds.filter p).map f)) ρ) := vLc_pure hi hn (fun _ h => nomatch h) (fun _ h => nomatch h) h hl
theorem vLc_bw {vs : List Nat} {it : M Itb} {ds : List D} {i : Nat} {g : SV → Sl → Option Sl} {c : M Bool} {elt : M SV} {p : D → Bool} {f : D → D} {ρ ρ0 : Sl} (hi : it ρ0 = some (.ok ⟨ds, [(i, ds)]⟩ ρ)) (hn : noFr ρ vs) (hiv : i ∉ vs) (hr : ρ[i]? = some (some (.fr ds)))
    (h : ∀ d ∈ ds, ∃ ρ1, g (.sh d) (wipeS ρ vs) = some ρ1 ∧ ρ1.length = ρ.length ∧ wipeS ρ1 vs = wipeS ρ vs ∧ c ρ1 = some (.ok (p d) ρ1) ∧ (p d = true → elt ρ1 = some (.ok (.sh (f d)) ρ1))) (hl : ds.length ≤ 1000000) :
    vLc vs it g c elt ρ0 = some (.ok (.fr ((ds.filter p).map f)) ρ) := vLc_pure hi hn (fun q hq => by rw [List.mem_singleton.mp hq]; exact hiv) (fun q hq => by rw [List.mem_singleton.mp hq]; exact hr) h hl
theorem filter_true' {α : Type} (l : List α) : l.filter (fun _ => true) = l := List.filter_eq_self.mpr fun _ _ => rfl
theorem noFr_1 {ρ : Sl} {v : Nat} {x : Option (Option SV)} (h : ρ[v]? = x) (hx : ∀ c, x ≠ some (some (.ow c))) : noFr ρ [v] := fun w hw c e => by
  rw [List.mem_singleton] at hw
  subst hw
  exact hx c (h ▸ e)
theorem noFr_of {ρ : Sl} {vs : List Nat} (h : ∀ v ∈ vs, ρ[v]? = some none) : noFr ρ vs := fun v hv c e => by
  rw [h v hv] at e
  cases e
/-! a comprehension whose elements are known by a relation -/
theorem lcL_rel {vs : List Nat} {pk : List (Nat × List D)} {g : SV → Sl → Option Sl} {elt : M SV} (St : Sl → Prop) : ∀ {ds : List D} {acc : List D} {ρ : Sl} (Rl : Nat → D → Prop),
    (∀ i d, ds[i]? = some d → ∀ ρ, St ρ → ∃ ρ1 sv ρ3, g (.sh d) (wipeS ρ vs) = some ρ1 ∧ elt ρ1 = some (.ok sv ρ3) ∧ Rl i sv.d ∧ St ρ3) → (∀ ρ, St ρ → pkOk pk (wipeS ρ vs)) → acc.length + ds.length ≤ 1000000 → St ρ →
    ∃ l ρ', lcL vs pk g (ret true) elt ds acc ρ = some (acc ++ l, ρ') ∧ (l.length = ds.length ∧ ∀ i, i < ds.length → ∃ d, l[i]? = some d ∧ Rl i d) ∧ St ρ'
  | [], acc, ρ, Rl, _, hp, _, h0 => by
    refine ⟨[], ρ, ?_, ⟨rfl, fun i h => absurd h (Nat.not_lt_zero _)⟩, h0⟩
    unfold lcL
    rw [if_pos (hp ρ h0), List.append_nil]
  | d :: ds, acc, ρ, Rl, h, hp, hl, h0 => by
    rw [List.length_cons] at hl
    obtain ⟨ρ1, sv, ρ3, h1, h2, h3, h4⟩ := h 0 d rfl ρ h0
    obtain ⟨l, ρ', e, ⟨k1, k2⟩, k3⟩ := lcL_rel St (ds := ds) (acc := acc ++ [sv.d]) (ρ := ρ3) (fun i => Rl (i + 1)) (fun i d hd => h (i + 1) d (by simpa using hd)) hp (by rw [List.length_append, List.length_cons, List.length_nil]; omega) h4
    refine ⟨sv.d :: l, ρ', ?_, ⟨by rw [List.length_cons, List.length_cons, k1], fun i hi => ?_⟩, k3⟩
    · unfold lcL
      rw [if_pos ⟨hp ρ h0, by omega⟩, h1]
      show (match elt ρ1 with | some (.ok sv ρ3) => lcL vs pk g (ret true) elt ds (acc ++ [sv.d]) ρ3 | _ => none) = _
      rw [h2]
      show lcL vs pk g (ret true) elt ds (acc ++ [sv.d]) ρ3 = _
      rw [e, List.append_assoc]
      rfl
    · cases i with
      | zero => exact ⟨sv.d, rfl, h3⟩
      | succ i =>
        rw [List.length_cons] at hi
        obtain ⟨d', q1, q2⟩ := k2 i (by omega)
        exact ⟨d', by simpa using q1, q2⟩
theorem vLc_relP {vs : List Nat} {it : M Itb} {ds : List D} {pk : List (Nat × List D)} {g : SV → Sl → Option Sl} {c : M Bool} {elt : M SV} {ρ ρ0 : Sl} (hi : it ρ0 = some (.ok ⟨ds, pk⟩ ρ)) (hn : noFr ρ vs) (hq : ∀ q ∈ pk, q.1 ∉ vs) (hk : pkOk pk ρ) {Rl : Nat → D → Prop} (hc : c = ret true)
    (h : ∀ i d, ds[i]? = some d → ∃ ρ1 sv, g (.sh d) (wipeS ρ vs) = some ρ1 ∧ ρ1.length = ρ.length ∧ wipeS ρ1 vs = wipeS ρ vs ∧ elt ρ1 = some (.ok sv ρ1) ∧ Rl i sv.d) (hl : ds.length ≤ 1000000) :
    ∃ l, vLc vs it g c elt ρ0 = some (.ok (.fr l) ρ) ∧ (l.length = ds.length ∧ ∀ i, i < ds.length → ∃ d, l[i]? = some d ∧ Rl i d) := by
  subst hc
  obtain ⟨l, ρ', e, k, h1, h2⟩ := lcL_rel (vs := vs) (pk := pk) (ds := ds) (acc := []) (g := g) (elt := elt) (fun ρ' => ρ'.length = ρ.length ∧ wipeS ρ' vs = wipeS ρ vs) (ρ := ρ) Rl
    (by
      rintro i d hd ρ' ⟨h1, h2⟩
      obtain ⟨ρ1, sv, e1, e2, e3, e4, e5⟩ := h i d hd
      rw [h2]
      exact ⟨ρ1, sv, ρ1, e1, e4, e5, e2, e3⟩)
    (by
      rintro ρ' ⟨h1, h2⟩ q hq'
      rw [h2, wipe_get (hq q hq')]
      exact hk q hq')
    (by rw [List.length_nil]; omega) ⟨rfl, rfl⟩
  refine ⟨l, ?_, k⟩
  unfold vLc
  rw [bnd_ok hi]
  rw [if_pos ⟨hn, hq, hk⟩, e]
  show some (Out.ok (SV.fr ([] ++ l)) (restS ρ ρ' vs)) = _
  rw [rest_wipe h1 h2, List.nil_append]
theorem vLc_rel {vs : List Nat} {it : M Itb} {ds : List D} {g : SV → Sl → Option Sl} {c : M Bool} {elt : M SV} {ρ ρ0 : Sl} (hi : it ρ0 = some (.ok ⟨ds, []⟩ ρ)) (hn : noFr ρ vs) {Rl : Nat → D → Prop} (hc : c = ret true)
    (h : ∀ i d, ds[i]? = some d → ∃ ρ1 sv, g (.sh d) (wipeS ρ vs) = some ρ1 ∧ ρ1.length = ρ.length ∧ wipeS ρ1 vs = wipeS ρ vs ∧ elt ρ1 = some (.ok sv ρ1) ∧ Rl i sv.d) (hl : ds.length ≤ 1000000) :
    ∃ l, vLc vs it g c elt ρ0 = some (.ok (.fr l) ρ) ∧ (l.length = ds.length ∧ ∀ i, i < ds.length → ∃ d, l[i]? = some d ∧ Rl i d) := vLc_relP hi hn (fun _ h => nomatch h) (fun _ h => nomatch h) hc h hl
theorem noFr1 {ρ : Sl} {v : Nat} (h : ρ[v]? = some none) : noFr ρ [v] := noFr_of fun w hw => by
  rw [List.mem_singleton] at hw
  subst hw
  exact h
theorem noFr2 {ρ : Sl} {v w : Nat} (h : ρ[v]? = some none) (h2 : ρ[w]? = some none) : noFr ρ [v, w] := noFr_of fun z hz => by
  rcases List.mem_cons.mp hz with rfl | hz
  · exact h
  · rw [List.mem_singleton] at hz
    subst hz
    exact h2
theorem rngOk_2 : RngOk 2 := rng_small (by decide) (by decide)
theorem forR_from {g : SV → Sl → Option Sl} {body : SM} (Inv : Nat → Sl → Prop) {lo : Int} : ∀ (m j : Nat) (ρ : Sl), Inv j ρ → (∀ i, j ≤ i → i < j + m → ∀ ρ, Inv i ρ → ∃ ρ1 ρ2, g (.sh (.int (lo + (i : Int)))) ρ = some ρ1 ∧ body ρ1 = some (.nx ρ2) ∧ Inv (i + 1) ρ2) →
    ∃ ρ', forL g body ((List.range' j m).map fun k => D.int (lo + (k : Nat))) ρ = some (.nx ρ') ∧ Inv (j + m) ρ'
  | 0, j, ρ, h0, _ => ⟨ρ, rfl, h0⟩
  | m + 1, j, ρ, h0, h => by
    obtain ⟨ρ1, ρ2, h1, h2, h3⟩ := h j (Nat.le_refl j) (by omega) ρ h0
    obtain ⟨ρ', e, k⟩ := forR_from Inv m (j + 1) ρ2 h3 (fun i hi hi2 => h i (by omega) (by omega))
    refine ⟨ρ', ?_, by rw [show j + (m + 1) = j + 1 + m by omega]; exact k⟩
    rw [List.range'_succ, List.map_cons]
    exact (forL_cons h1 h2).trans e
/-- a loop over a range, with an invariant that knows the turn -/
theorem forR {g : SV → Sl → Option Sl} {body : SM} (Inv : Nat → Sl → Prop) {lo : Int} {m : Nat} {ρ : Sl} (h0 : Inv 0 ρ) (h : ∀ i, i < m → ∀ ρ, Inv i ρ → ∃ ρ1 ρ2, g (.sh (.int (lo + (i : Int)))) ρ = some ρ1 ∧ body ρ1 = some (.nx ρ2) ∧ Inv (i + 1) ρ2) : ∃ ρ', forL g body (rngD lo m) ρ = some (.nx ρ') ∧ Inv m ρ' := by
  obtain ⟨ρ', e, k⟩ := forR_from Inv (lo := lo) m 0 ρ h0 (fun i _ hi => h i (by omega))
  rw [Nat.zero_add] at k
  refine ⟨ρ', ?_, k⟩
  unfold rngD
  rw [List.range_eq_range']
  exact e
theorem iabs_nat {c : Int} : (if c < 0 then -c else c) = ((c.natAbs : Nat) : Int) := by split <;> omega
theorem iabs_eq {c : Int} : gAbs [.int c] = some (.sh (.int ((c.natAbs : Nat) : Int))) := by rw [e_abs, iabs_nat]
theorem common_loop {x2 : List (Option SV)} : ∀ (y x : Nat), sWhile wc_law_common_1 wb_law_common_1 [some (.sh (.int x)), some (.sh (.int y))] = some (.nx [some (.sh (.int (Nat.gcd x y : Nat))), some (.sh (.int 0))]) := by
  intro y
  induction y using Nat.strongRecOn with
  | _ y ih =>
    intro x
    rcases Nat.eq_zero_or_pos y with rfl | hy
    · rw [Nat.gcd_zero_right]
      refine sWhile_stop ?_
      unfold wc_law_common_1
      simp only [e_seq, k_seq1, k_seq2, k_seq3, k_seq4, k_seq5, e_ex, k_ex1, k_ex2, e_bnd, k_bn1, k_bn2, e_ret, e_nx, e_bk, e_ct, e_c, e_var, k_var1, k_var2, e_mv, k_mv1, k_mv2, e_pk, k_pk, e_get1, e_get2, k_sd1, k_sd2, e_gets1, e_gets2, k_gs, e_vals1, e_vals2, e_oOf, e_d1, e_d2, e_an, e_ac, e_op1, e_op2, e_bi, e_l1, k_l1, e_l2, k_l2, e_lA, k_lA, k_ok, e_tst, k_ts1, k_ts2, e_tand, e_tor, e_tnot, e_vand, e_vor, e_vnot, e_vif, e_iteT, e_iteF, e_tup, k_tp, e_lst, k_ls, e_is, e_call, e_callM, k_cl, k_rs, e_if, e_sret, e_sretN, e_drop, e_asg, k_nx, e_gN, e_gT, e_gLs1, e_gLs2, e_gsN, e_gsC, e_par, e_run, k_ru1, k_ru2, k_ru3, e_out1, e_out2, k_os, e_start, e_stl1, e_stl2, e_fro, e_isFr, k_fr1, k_fr2, e_ioOk1, e_ioOk2, k_ioOk, e_noBr, e_ios1, e_ios2, e_brs1, e_brs2, e_brs3, e_brs4, e_brs5, e_dec1, e_dec2, e_dec3, e_put1, k_put, e_put2, e_outOf1, e_outOf2, e_guard, e_setIx, e_stK, k_stI, e_mt, e_mtK, k_app, k_ext, k_rvs, k_pop, e_chain, e_for, e_forL1, k_turn1, k_turn2, k_turn3, k_turn4, k_turn5, e_R1, k_R1, e_R2, k_R2, e_iLs, k_it, e_iTp, k_tI, e_lsV, e_lsS, k_ls1, k_ls2, k_ls3, e_iZp, e_iEn, e_iRv, e_iSg, k_jSg, e_jZp, k_zp, e_jEn, e_jRev, e_sl, e_pNo, e_pIn, k_pn, e_slL, cut_1, isLst_lst, isLst_tup, isLst_int, e_eqI, e_neI, e_eqB, e_neB, gStr_ok, isInt_int, isInt_bl, isInt_str, isInt_non, isInt_tup, isInt_lst, isBl_int, isBl_bl, isBl_tup, isTup_int, isTup_bl, isTup_str, isTup_non, isTup_tup, isTup_lst, e_sub, e_add, e_addL, e_neg, e_cmp, e_ixL, e_ixT, e_ixS, e_abs, e_max, e_max4, e_min, e_intI, e_intB, e_lenL, e_lenT, e_lenS, e_isT1, e_isT2, e_isT3, e_isTL1, e_isTL2, e_resT1, e_resT2, shL, e_mp, e_mpN, e_mpF, k_mf, k_ck, ckL_1, ckS_1, e_revL, e_gRv, e_iR3, e_jR3, k_R3, isN_1, isN_2, e_callF, k_callF, k_cf, gIs_non, gIs_bl, gIs_int, gIs_str, gIs_tup, gIs_lst, gIs_scr, e_meth, e_mtO, k_isOb, e_mtC, k_okO, e_mk, k_mk, k_mkQ, e_mkE, k_mkE, k_mkR1, k_mkR2, k_fld, e_d3, e_d4, e_d5, k_var3, k_var4, k_var5, k_mv3, k_sd3, k_sd4, k_sd5, e_isOw, k_ow1, k_ow2, e_resOk, e_resL1, e_resL2, e_noBrL, e_isL1, e_isL2, e_isL3, e_isL4, e_isL5, e_isL6, e_isLL1, e_isLL2, k_fr3, k_fr4, k_fr5, e_dnK, e_dnT, e_dputT, e_dputK, e_isDt, e_isDk, k_isDt, k_isDk, e_dtK2, e_dpK, k_dtI, k_dkI, e_keyI, e_keyS, e_inK, e_dxK, e_inT, e_dxT, e_intL2, List.getElem?_cons_zero, List.getElem?_cons_succ, List.getElem?_nil, List.set_cons_zero, List.set_cons_succ, List.length_cons, List.length_nil, List.map_cons, List.map_nil, List.nil_append, List.cons_append, List.replicate_succ, List.replicate_zero, List.all_nil, List.all_cons, List.contains_nil, List.contains_cons, Option.map_some, Option.map_none, Option.bind_some, Option.bind_none, Bool.and_true, Bool.true_and, Bool.and_false, Bool.false_and, Bool.or_true, Bool.true_or, Bool.or_false, Bool.false_or, Bool.not_true, Bool.not_false, Bool.not_not, Nat.zero_add, Nat.reduceAdd, Nat.reduceSub, Nat.reduceLT, Nat.reduceLeDiff, Nat.reduceEqDiff, reduceIte, if_true, if_false, atI_0, atI_1, atI_2, atI_3, gMul_ok, gMod_pos, gDiv_pos, true_and, and_true, and_self, Nat.reduceBEq, Nat.reduceBNe, beq_self_eq_true, decide_true, decide_false, not_false_iff, not_true, ne_eq, gt_iff_lt, ge_iff_le, Int.reduceEq, Int.reduceNe, Int.reduceLT, Int.reduceLE, Int.cast_ofNat_Int, Int.natCast_one, Int.natCast_zero, reduceCtorEq, Bool.false_eq_true, eq_self, Int.lt_irrefl]
    · have hp : (0 : Int) < (y : Int) := by omega
      have e := ih (x % y) (Nat.mod_lt _ hy) y
      have g : Nat.gcd y (x % y) = Nat.gcd x y := by rw [Nat.gcd_comm x y, Nat.gcd_rec y x, Nat.gcd_comm]
      rw [g] at e
      refine sWhile_step (ρ1 := [some (.sh (.int x)), some (.sh (.int y))]) ?_ ?_ e
      · unfold wc_law_common_1
        simp only [e_seq, k_seq1, k_seq2, k_seq3, k_seq4, k_seq5, e_ex, k_ex1, k_ex2, e_bnd, k_bn1, k_bn2, e_ret, e_nx, e_bk, e_ct, e_c, e_var, k_var1, k_var2, e_mv, k_mv1, k_mv2, e_pk, k_pk, e_get1, e_get2, k_sd1, k_sd2, e_gets1, e_gets2, k_gs, e_vals1, e_vals2, e_oOf, e_d1, e_d2, e_an, e_ac, e_op1, e_op2, e_bi, e_l1, k_l1, e_l2, k_l2, e_lA, k_lA, k_ok, e_tst, k_ts1, k_ts2, e_tand, e_tor, e_tnot, e_vand, e_vor, e_vnot, e_vif, e_iteT, e_iteF, e_tup, k_tp, e_lst, k_ls, e_is, e_call, e_callM, k_cl, k_rs, e_if, e_sret, e_sretN, e_drop, e_asg, k_nx, e_gN, e_gT, e_gLs1, e_gLs2, e_gsN, e_gsC, e_par, e_run, k_ru1, k_ru2, k_ru3, e_out1, e_out2, k_os, e_start, e_stl1, e_stl2, e_fro, e_isFr, k_fr1, k_fr2, e_ioOk1, e_ioOk2, k_ioOk, e_noBr, e_ios1, e_ios2, e_brs1, e_brs2, e_brs3, e_brs4, e_brs5, e_dec1, e_dec2, e_dec3, e_put1, k_put, e_put2, e_outOf1, e_outOf2, e_guard, e_setIx, e_stK, k_stI, e_mt, e_mtK, k_app, k_ext, k_rvs, k_pop, e_chain, e_for, e_forL1, k_turn1, k_turn2, k_turn3, k_turn4, k_turn5, e_R1, k_R1, e_R2, k_R2, e_iLs, k_it, e_iTp, k_tI, e_lsV, e_lsS, k_ls1, k_ls2, k_ls3, e_iZp, e_iEn, e_iRv, e_iSg, k_jSg, e_jZp, k_zp, e_jEn, e_jRev, e_sl, e_pNo, e_pIn, k_pn, e_slL, cut_1, isLst_lst, isLst_tup, isLst_int, e_eqI, e_neI, e_eqB, e_neB, gStr_ok, isInt_int, isInt_bl, isInt_str, isInt_non, isInt_tup, isInt_lst, isBl_int, isBl_bl, isBl_tup, isTup_int, isTup_bl, isTup_str, isTup_non, isTup_tup, isTup_lst, e_sub, e_add, e_addL, e_neg, e_cmp, e_ixL, e_ixT, e_ixS, e_abs, e_max, e_max4, e_min, e_intI, e_intB, e_lenL, e_lenT, e_lenS, e_isT1, e_isT2, e_isT3, e_isTL1, e_isTL2, e_resT1, e_resT2, shL, e_mp, e_mpN, e_mpF, k_mf, k_ck, ckL_1, ckS_1, e_revL, e_gRv, e_iR3, e_jR3, k_R3, isN_1, isN_2, e_callF, k_callF, k_cf, gIs_non, gIs_bl, gIs_int, gIs_str, gIs_tup, gIs_lst, gIs_scr, e_meth, e_mtO, k_isOb, e_mtC, k_okO, e_mk, k_mk, k_mkQ, e_mkE, k_mkE, k_mkR1, k_mkR2, k_fld, e_d3, e_d4, e_d5, k_var3, k_var4, k_var5, k_mv3, k_sd3, k_sd4, k_sd5, e_isOw, k_ow1, k_ow2, e_resOk, e_resL1, e_resL2, e_noBrL, e_isL1, e_isL2, e_isL3, e_isL4, e_isL5, e_isL6, e_isLL1, e_isLL2, k_fr3, k_fr4, k_fr5, e_dnK, e_dnT, e_dputT, e_dputK, e_isDt, e_isDk, k_isDt, k_isDk, e_dtK2, e_dpK, k_dtI, k_dkI, e_keyI, e_keyS, e_inK, e_dxK, e_inT, e_dxT, e_intL2, List.getElem?_cons_zero, List.getElem?_cons_succ, List.getElem?_nil, List.set_cons_zero, List.set_cons_succ, List.length_cons, List.length_nil, List.map_cons, List.map_nil, List.nil_append, List.cons_append, List.replicate_succ, List.replicate_zero, List.all_nil, List.all_cons, List.contains_nil, List.contains_cons, Option.map_some, Option.map_none, Option.bind_some, Option.bind_none, Bool.and_true, Bool.true_and, Bool.and_false, Bool.false_and, Bool.or_true, Bool.true_or, Bool.or_false, Bool.false_or, Bool.not_true, Bool.not_false, Bool.not_not, Nat.zero_add, Nat.reduceAdd, Nat.reduceSub, Nat.reduceLT, Nat.reduceLeDiff, Nat.reduceEqDiff, reduceIte, if_true, if_false, atI_0, atI_1, atI_2, atI_3, gMul_ok, gMod_pos, gDiv_pos, true_and, and_true, and_self, Nat.reduceBEq, Nat.reduceBNe, beq_self_eq_true, decide_true, decide_false, not_false_iff, not_true, ne_eq, gt_iff_lt, ge_iff_le, Int.reduceEq, Int.reduceNe, Int.reduceLT, Int.reduceLE, Int.cast_ofNat_Int, Int.natCast_one, Int.natCast_zero, reduceCtorEq, Bool.false_eq_true, eq_self, hp]
      · unfold wb_law_common_1
        simp only [e_seq, k_seq1, k_seq2, k_seq3, k_seq4, k_seq5, e_ex, k_ex1, k_ex2, e_bnd, k_bn1, k_bn2, e_ret, e_nx, e_bk, e_ct, e_c, e_var, k_var1, k_var2, e_mv, k_mv1, k_mv2, e_pk, k_pk, e_get1, e_get2, k_sd1, k_sd2, e_gets1, e_gets2, k_gs, e_vals1, e_vals2, e_oOf, e_d1, e_d2, e_an, e_ac, e_op1, e_op2, e_bi, e_l1, k_l1, e_l2, k_l2, e_lA, k_lA, k_ok, e_tst, k_ts1, k_ts2, e_tand, e_tor, e_tnot, e_vand, e_vor, e_vnot, e_vif, e_iteT, e_iteF, e_tup, k_tp, e_lst, k_ls, e_is, e_call, e_callM, k_cl, k_rs, e_if, e_sret, e_sretN, e_drop, e_asg, k_nx, e_gN, e_gT, e_gLs1, e_gLs2, e_gsN, e_gsC, e_par, e_run, k_ru1, k_ru2, k_ru3, e_out1, e_out2, k_os, e_start, e_stl1, e_stl2, e_fro, e_isFr, k_fr1, k_fr2, e_ioOk1, e_ioOk2, k_ioOk, e_noBr, e_ios1, e_ios2, e_brs1, e_brs2, e_brs3, e_brs4, e_brs5, e_dec1, e_dec2, e_dec3, e_put1, k_put, e_put2, e_outOf1, e_outOf2, e_guard, e_setIx, e_stK, k_stI, e_mt, e_mtK, k_app, k_ext, k_rvs, k_pop, e_chain, e_for, e_forL1, k_turn1, k_turn2, k_turn3, k_turn4, k_turn5, e_R1, k_R1, e_R2, k_R2, e_iLs, k_it, e_iTp, k_tI, e_lsV, e_lsS, k_ls1, k_ls2, k_ls3, e_iZp, e_iEn, e_iRv, e_iSg, k_jSg, e_jZp, k_zp, e_jEn, e_jRev, e_sl, e_pNo, e_pIn, k_pn, e_slL, cut_1, isLst_lst, isLst_tup, isLst_int, e_eqI, e_neI, e_eqB, e_neB, gStr_ok, isInt_int, isInt_bl, isInt_str, isInt_non, isInt_tup, isInt_lst, isBl_int, isBl_bl, isBl_tup, isTup_int, isTup_bl, isTup_str, isTup_non, isTup_tup, isTup_lst, e_sub, e_add, e_addL, e_neg, e_cmp, e_ixL, e_ixT, e_ixS, e_abs, e_max, e_max4, e_min, e_intI, e_intB, e_lenL, e_lenT, e_lenS, e_isT1, e_isT2, e_isT3, e_isTL1, e_isTL2, e_resT1, e_resT2, shL, e_mp, e_mpN, e_mpF, k_mf, k_ck, ckL_1, ckS_1, e_revL, e_gRv, e_iR3, e_jR3, k_R3, isN_1, isN_2, e_callF, k_callF, k_cf, gIs_non, gIs_bl, gIs_int, gIs_str, gIs_tup, gIs_lst, gIs_scr, e_meth, e_mtO, k_isOb, e_mtC, k_okO, e_mk, k_mk, k_mkQ, e_mkE, k_mkE, k_mkR1, k_mkR2, k_fld, e_d3, e_d4, e_d5, k_var3, k_var4, k_var5, k_mv3, k_sd3, k_sd4, k_sd5, e_isOw, k_ow1, k_ow2, e_resOk, e_resL1, e_resL2, e_noBrL, e_isL1, e_isL2, e_isL3, e_isL4, e_isL5, e_isL6, e_isLL1, e_isLL2, k_fr3, k_fr4, k_fr5, e_dnK, e_dnT, e_dputT, e_dputK, e_isDt, e_isDk, k_isDt, k_isDk, e_dtK2, e_dpK, k_dtI, k_dkI, e_keyI, e_keyS, e_inK, e_dxK, e_inT, e_dxT, e_intL2, List.getElem?_cons_zero, List.getElem?_cons_succ, List.getElem?_nil, List.set_cons_zero, List.set_cons_succ, List.length_cons, List.length_nil, List.map_cons, List.map_nil, List.nil_append, List.cons_append, List.replicate_succ, List.replicate_zero, List.all_nil, List.all_cons, List.contains_nil, List.contains_cons, Option.map_some, Option.map_none, Option.bind_some, Option.bind_none, Bool.and_true, Bool.true_and, Bool.and_false, Bool.false_and, Bool.or_true, Bool.true_or, Bool.or_false, Bool.false_or, Bool.not_true, Bool.not_false, Bool.not_not, Nat.zero_add, Nat.reduceAdd, Nat.reduceSub, Nat.reduceLT, Nat.reduceLeDiff, Nat.reduceEqDiff, reduceIte, if_true, if_false, atI_0, atI_1, atI_2, atI_3, gMul_ok, gMod_pos, gDiv_pos, true_and, and_true, and_self, Nat.reduceBEq, Nat.reduceBNe, beq_self_eq_true, decide_true, decide_false, not_false_iff, not_true, ne_eq, gt_iff_lt, ge_iff_le, Int.reduceEq, Int.reduceNe, Int.reduceLT, Int.reduceLE, Int.cast_ofNat_Int, Int.natCast_one, Int.natCast_zero, reduceCtorEq, Bool.false_eq_true, eq_self, hp, Int.natCast_emod]
theorem common_ok {a b : Int} : phi_law_common [.int a, .int b] = some (.ret (.sh (.int (Int.gcd a b : Nat))) []) := by
  have e := common_loop (x2 := []) b.natAbs a.natAbs
  unfold phi_law_common b_law_common
  simp only [e_seq, k_seq1, k_seq2, k_seq3, k_seq4, k_seq5, e_ex, k_ex1, k_ex2, e_bnd, k_bn1, k_bn2, e_ret, e_nx, e_bk, e_ct, e_c, e_var, k_var1, k_var2, e_mv, k_mv1, k_mv2, e_pk, k_pk, e_get1, e_get2, k_sd1, k_sd2, e_gets1, e_gets2, k_gs, e_vals1, e_vals2, e_oOf, e_d1, e_d2, e_an, e_ac, e_op1, e_op2, e_bi, e_l1, k_l1, e_l2, k_l2, e_lA, k_lA, k_ok, e_tst, k_ts1, k_ts2, e_tand, e_tor, e_tnot, e_vand, e_vor, e_vnot, e_vif, e_iteT, e_iteF, e_tup, k_tp, e_lst, k_ls, e_is, e_call, e_callM, k_cl, k_rs, e_if, e_sret, e_sretN, e_drop, e_asg, k_nx, e_gN, e_gT, e_gLs1, e_gLs2, e_gsN, e_gsC, e_par, e_run, k_ru1, k_ru2, k_ru3, e_out1, e_out2, k_os, e_start, e_stl1, e_stl2, e_fro, e_isFr, k_fr1, k_fr2, e_ioOk1, e_ioOk2, k_ioOk, e_noBr, e_ios1, e_ios2, e_brs1, e_brs2, e_brs3, e_brs4, e_brs5, e_dec1, e_dec2, e_dec3, e_put1, k_put, e_put2, e_outOf1, e_outOf2, e_guard, e_setIx, e_stK, k_stI, e_mt, e_mtK, k_app, k_ext, k_rvs, k_pop, e_chain, e_for, e_forL1, k_turn1, k_turn2, k_turn3, k_turn4, k_turn5, e_R1, k_R1, e_R2, k_R2, e_iLs, k_it, e_iTp, k_tI, e_lsV, e_lsS, k_ls1, k_ls2, k_ls3, e_iZp, e_iEn, e_iRv, e_iSg, k_jSg, e_jZp, k_zp, e_jEn, e_jRev, e_sl, e_pNo, e_pIn, k_pn, e_slL, cut_1, isLst_lst, isLst_tup, isLst_int, e_eqI, e_neI, e_eqB, e_neB, gStr_ok, isInt_int, isInt_bl, isInt_str, isInt_non, isInt_tup, isInt_lst, isBl_int, isBl_bl, isBl_tup, isTup_int, isTup_bl, isTup_str, isTup_non, isTup_tup, isTup_lst, e_sub, e_add, e_addL, e_neg, e_cmp, e_ixL, e_ixT, e_ixS, e_max, e_max4, e_min, e_intI, e_intB, e_lenL, e_lenT, e_lenS, e_isT1, e_isT2, e_isT3, e_isTL1, e_isTL2, e_resT1, e_resT2, shL, e_mp, e_mpN, e_mpF, k_mf, k_ck, ckL_1, ckS_1, e_revL, e_gRv, e_iR3, e_jR3, k_R3, isN_1, isN_2, e_callF, k_callF, k_cf, gIs_non, gIs_bl, gIs_int, gIs_str, gIs_tup, gIs_lst, gIs_scr, e_meth, e_mtO, k_isOb, e_mtC, k_okO, e_mk, k_mk, k_mkQ, e_mkE, k_mkE, k_mkR1, k_mkR2, k_fld, e_d3, e_d4, e_d5, k_var3, k_var4, k_var5, k_mv3, k_sd3, k_sd4, k_sd5, e_isOw, k_ow1, k_ow2, e_resOk, e_resL1, e_resL2, e_noBrL, e_isL1, e_isL2, e_isL3, e_isL4, e_isL5, e_isL6, e_isLL1, e_isLL2, k_fr3, k_fr4, k_fr5, e_dnK, e_dnT, e_dputT, e_dputK, e_isDt, e_isDk, k_isDt, k_isDk, e_dtK2, e_dpK, k_dtI, k_dkI, e_keyI, e_keyS, e_inK, e_dxK, e_inT, e_dxT, e_intL2, List.getElem?_cons_zero, List.getElem?_cons_succ, List.getElem?_nil, List.set_cons_zero, List.set_cons_succ, List.length_cons, List.length_nil, List.map_cons, List.map_nil, List.nil_append, List.cons_append, List.replicate_succ, List.replicate_zero, List.all_nil, List.all_cons, List.contains_nil, List.contains_cons, Option.map_some, Option.map_none, Option.bind_some, Option.bind_none, Bool.and_true, Bool.true_and, Bool.and_false, Bool.false_and, Bool.or_true, Bool.true_or, Bool.or_false, Bool.false_or, Bool.not_true, Bool.not_false, Bool.not_not, Nat.zero_add, Nat.reduceAdd, Nat.reduceSub, Nat.reduceLT, Nat.reduceLeDiff, Nat.reduceEqDiff, reduceIte, if_true, if_false, atI_0, atI_1, atI_2, atI_3, gMul_ok, gMod_pos, gDiv_pos, true_and, and_true, and_self, Nat.reduceBEq, Nat.reduceBNe, beq_self_eq_true, decide_true, decide_false, not_false_iff, not_true, ne_eq, gt_iff_lt, ge_iff_le, Int.reduceEq, Int.reduceNe, Int.reduceLT, Int.reduceLE, Int.cast_ofNat_Int, Int.natCast_one, Int.natCast_zero, reduceCtorEq, Bool.false_eq_true, eq_self, iabs_eq, e]
  rfl
def Spt (p q : Int) : Prop := Int.gcd p q = 1 ∧ (0 < q ∨ (q = 0 ∧ 0 < p))
/-- a place in lowest terms -/
def SpR (o : Option CR) (t b : Int) : Prop := ∃ p q g, o = some (.ret (.sh (P2 p q)) []) ∧ Spt p q ∧ t = g * p ∧ b = g * q ∧ g ≠ 0
theorem mul_pos_r {g x : Int} (h : 0 < g) (h2 : 0 < g * x) : 0 < x := by
  refine Int.not_le.mp fun hx => ?_
  have e := Int.mul_le_mul_of_nonneg_left hx (Int.le_of_lt h)
  omega
theorem gcd_pos {t b : Int} (h : ¬ (t = 0 ∧ b = 0)) : 0 < Int.gcd t b := by
  refine Nat.pos_of_ne_zero fun e => h ?_
  exact Int.gcd_eq_zero_iff.mp e
theorem low_pos {t b : Int} (h : ¬ (t = 0 ∧ b = 0)) (hs : 0 < b ∨ (b = 0 ∧ 0 < t)) : ∃ p q, t / (Int.gcd t b : Nat) = p ∧ b / (Int.gcd t b : Nat) = q ∧ Spt p q ∧ t = (Int.gcd t b : Nat) * p ∧ b = (Int.gcd t b : Nat) * q := by
  have hg := gcd_pos h
  have hg2 : (0 : Int) < (Int.gcd t b : Nat) := by omega
  have e1 := Int.mul_ediv_cancel' (Int.gcd_dvd_left t b)
  have e2 := Int.mul_ediv_cancel' (Int.gcd_dvd_right t b)
  refine ⟨_, _, rfl, rfl, ⟨Int.gcd_ediv_gcd_ediv_gcd hg, ?_⟩, e1.symm, e2.symm⟩
  rcases hs with hs | ⟨hs, hs2⟩
  · exact .inl (mul_pos_r hg2 (by rw [e2]; exact hs))
  · refine .inr ⟨?_, mul_pos_r hg2 (by rw [e1]; exact hs2)⟩
    rw [hs, Int.zero_ediv]
theorem low_neg {t b : Int} (h : ¬ (t = 0 ∧ b = 0)) (hs : b < 0 ∨ (b = 0 ∧ t < 0)) : ∃ p q, (-t) / (-(0 - ((Int.gcd t b : Nat) : Int))) = p ∧ (-b) / (-(0 - ((Int.gcd t b : Nat) : Int))) = q ∧ Spt p q ∧ t = (-(Int.gcd t b : Nat)) * p ∧ b = (-(Int.gcd t b : Nat)) * q := by
  have h2 : ¬ (-t = 0 ∧ -b = 0) := by omega
  obtain ⟨p, q, e1, e2, s, e3, e4⟩ := low_pos h2 (by omega)
  rw [Int.gcd_neg, Int.neg_gcd] at e1 e2 e3 e4
  have z : -(0 - ((Int.gcd t b : Nat) : Int)) = ((Int.gcd t b : Nat) : Int) := by omega
  rw [z]
  exact ⟨p, q, e1, e2, s, by rw [Int.neg_mul]; omega, by rw [Int.neg_mul]; omega⟩
theorem gcd_le {t b : Int} (h : ¬ (t = 0 ∧ b = 0)) {k : Nat} (ht : Bd k t) (hb : Bd k b) : Int.gcd t b < 2 ^ k := by
  by_cases h0 : t = 0
  · have h1 : 0 < b.natAbs := by omega
    exact Nat.lt_of_le_of_lt (Nat.gcd_le_right _ h1) hb
  · have h1 : 0 < t.natAbs := by omega
    exact Nat.lt_of_le_of_lt (Nat.gcd_le_left _ h1) ht
theorem short_ok {t b : Int} {k : Nat} (h : ¬ (t = 0 ∧ b = 0)) (ht : Bd k t) (hb : Bd k b) (hk : k ≤ 8000) : SpR (phi_law_place [.int t, .int b]) t b := by
  have hg := gcd_pos h
  have g0 : (0 : Int) < (Int.gcd t b : Nat) := by omega
  have gn : ¬ ((Int.gcd t b : Nat) : Int) = 0 := by omega
  have g1 : 0 - ((Int.gcd t b : Nat) : Int) < 0 := by omega
  have hl0 : Int.gcd t b < 2 ^ 8000 := Nat.lt_of_lt_of_le (gcd_le h ht hb) (pw_le hk)
  have hl : (((Int.gcd t b : Nat) : Int)).natAbs.log2 < 9000 := log_9000 (k := 8000) (by rw [Int.natAbs_natCast]; exact hl0) (by decide) (by decide)
  have hl2 : ((0 - ((Int.gcd t b : Nat) : Int))).natAbs.log2 < 9000 := log_9000 (k := 8000) (by rw [Int.zero_sub, Int.natAbs_neg, Int.natAbs_natCast]; exact hl0) (by decide) (by decide)
  rcases Int.lt_trichotomy b 0 with hs | hs | hs
  · obtain ⟨p, q, e1, e2, s, e3, e4⟩ := low_neg h (.inl hs)
    refine ⟨p, q, _, ?_, s, e3, e4, by omega⟩
    unfold phi_law_place b_law_place
    simp only [e_seq, k_seq1, k_seq2, k_seq3, k_seq4, k_seq5, e_ex, k_ex1, k_ex2, e_bnd, k_bn1, k_bn2, e_ret, e_nx, e_bk, e_ct, e_c, e_var, k_var1, k_var2, e_mv, k_mv1, k_mv2, e_pk, k_pk, e_get1, e_get2, k_sd1, k_sd2, e_gets1, e_gets2, k_gs, e_vals1, e_vals2, e_oOf, e_d1, e_d2, e_an, e_ac, e_op1, e_op2, e_bi, e_l1, k_l1, e_l2, k_l2, e_lA, k_lA, k_ok, e_tst, k_ts1, k_ts2, e_tand, e_tor, e_tnot, e_vand, e_vor, e_vnot, e_vif, e_iteT, e_iteF, e_tup, k_tp, e_lst, k_ls, e_is, e_call, e_callM, k_cl, k_rs, e_if, e_sret, e_sretN, e_drop, e_asg, k_nx, e_gN, e_gT, e_gLs1, e_gLs2, e_gsN, e_gsC, e_par, e_run, k_ru1, k_ru2, k_ru3, e_out1, e_out2, k_os, e_start, e_stl1, e_stl2, e_fro, e_isFr, k_fr1, k_fr2, e_ioOk1, e_ioOk2, k_ioOk, e_noBr, e_ios1, e_ios2, e_brs1, e_brs2, e_brs3, e_brs4, e_brs5, e_dec1, e_dec2, e_dec3, e_put1, k_put, e_put2, e_outOf1, e_outOf2, e_guard, e_setIx, e_stK, k_stI, e_mt, e_mtK, k_app, k_ext, k_rvs, k_pop, e_chain, e_for, e_forL1, k_turn1, k_turn2, k_turn3, k_turn4, k_turn5, e_R1, k_R1, e_R2, k_R2, e_iLs, k_it, e_iTp, k_tI, e_lsV, e_lsS, k_ls1, k_ls2, k_ls3, e_iZp, e_iEn, e_iRv, e_iSg, k_jSg, e_jZp, k_zp, e_jEn, e_jRev, e_sl, e_pNo, e_pIn, k_pn, e_slL, cut_1, isLst_lst, isLst_tup, isLst_int, e_eqI, e_neI, e_eqB, e_neB, gStr_ok, isInt_int, isInt_bl, isInt_str, isInt_non, isInt_tup, isInt_lst, isBl_int, isBl_bl, isBl_tup, isTup_int, isTup_bl, isTup_str, isTup_non, isTup_tup, isTup_lst, e_sub, e_add, e_addL, e_neg, e_cmp, e_ixL, e_ixT, e_ixS, e_abs, e_max, e_max4, e_min, e_intI, e_intB, e_lenL, e_lenT, e_lenS, e_isT1, e_isT2, e_isT3, e_isTL1, e_isTL2, e_resT1, e_resT2, shL, e_mp, e_mpN, e_mpF, k_mf, k_ck, ckL_1, ckS_1, e_revL, e_gRv, e_iR3, e_jR3, k_R3, isN_1, isN_2, e_callF, k_callF, k_cf, gIs_non, gIs_bl, gIs_int, gIs_str, gIs_tup, gIs_lst, gIs_scr, e_meth, e_mtO, k_isOb, e_mtC, k_okO, e_mk, k_mk, k_mkQ, e_mkE, k_mkE, k_mkR1, k_mkR2, k_fld, e_d3, e_d4, e_d5, k_var3, k_var4, k_var5, k_mv3, k_sd3, k_sd4, k_sd5, e_isOw, k_ow1, k_ow2, e_resOk, e_resL1, e_resL2, e_noBrL, e_isL1, e_isL2, e_isL3, e_isL4, e_isL5, e_isL6, e_isLL1, e_isLL2, k_fr3, k_fr4, k_fr5, e_dnK, e_dnT, e_dputT, e_dputK, e_isDt, e_isDk, k_isDt, k_isDk, e_dtK2, e_dpK, k_dtI, k_dkI, e_keyI, e_keyS, e_inK, e_dxK, e_inT, e_dxT, e_intL2, List.getElem?_cons_zero, List.getElem?_cons_succ, List.getElem?_nil, List.set_cons_zero, List.set_cons_succ, List.length_cons, List.length_nil, List.map_cons, List.map_nil, List.nil_append, List.cons_append, List.replicate_succ, List.replicate_zero, List.all_nil, List.all_cons, List.contains_nil, List.contains_cons, Option.map_some, Option.map_none, Option.bind_some, Option.bind_none, Bool.and_true, Bool.true_and, Bool.and_false, Bool.false_and, Bool.or_true, Bool.true_or, Bool.or_false, Bool.false_or, Bool.not_true, Bool.not_false, Bool.not_not, Nat.zero_add, Nat.reduceAdd, Nat.reduceSub, Nat.reduceLT, Nat.reduceLeDiff, Nat.reduceEqDiff, reduceIte, if_true, if_false, atI_0, atI_1, atI_2, atI_3, gMul_ok, gMod_pos, gDiv_pos, true_and, and_true, and_self, Nat.reduceBEq, Nat.reduceBNe, beq_self_eq_true, decide_true, decide_false, not_false_iff, not_true, ne_eq, gt_iff_lt, ge_iff_le, Int.reduceEq, Int.reduceNe, Int.reduceLT, Int.reduceLE, Int.cast_ofNat_Int, Int.natCast_one, Int.natCast_zero, reduceCtorEq, Bool.false_eq_true, eq_self, common_ok, hs, gDiv_neg, g1, hl2, e1, e2]
  · have ht0 : t ≠ 0 := fun e => h ⟨e, hs⟩
    have n1 : ¬ (b < 0) := by omega
    rcases Int.lt_or_gt_of_ne ht0 with hn | hp
    · obtain ⟨p, q, e1, e2, s, e3, e4⟩ := low_neg h (.inr ⟨hs, hn⟩)
      refine ⟨p, q, _, ?_, s, e3, e4, by omega⟩
      have hs' : decide (b = 0) = true := decide_eq_true hs
      unfold phi_law_place b_law_place
      simp only [e_seq, k_seq1, k_seq2, k_seq3, k_seq4, k_seq5, e_ex, k_ex1, k_ex2, e_bnd, k_bn1, k_bn2, e_ret, e_nx, e_bk, e_ct, e_c, e_var, k_var1, k_var2, e_mv, k_mv1, k_mv2, e_pk, k_pk, e_get1, e_get2, k_sd1, k_sd2, e_gets1, e_gets2, k_gs, e_vals1, e_vals2, e_oOf, e_d1, e_d2, e_an, e_ac, e_op1, e_op2, e_bi, e_l1, k_l1, e_l2, k_l2, e_lA, k_lA, k_ok, e_tst, k_ts1, k_ts2, e_tand, e_tor, e_tnot, e_vand, e_vor, e_vnot, e_vif, e_iteT, e_iteF, e_tup, k_tp, e_lst, k_ls, e_is, e_call, e_callM, k_cl, k_rs, e_if, e_sret, e_sretN, e_drop, e_asg, k_nx, e_gN, e_gT, e_gLs1, e_gLs2, e_gsN, e_gsC, e_par, e_run, k_ru1, k_ru2, k_ru3, e_out1, e_out2, k_os, e_start, e_stl1, e_stl2, e_fro, e_isFr, k_fr1, k_fr2, e_ioOk1, e_ioOk2, k_ioOk, e_noBr, e_ios1, e_ios2, e_brs1, e_brs2, e_brs3, e_brs4, e_brs5, e_dec1, e_dec2, e_dec3, e_put1, k_put, e_put2, e_outOf1, e_outOf2, e_guard, e_setIx, e_stK, k_stI, e_mt, e_mtK, k_app, k_ext, k_rvs, k_pop, e_chain, e_for, e_forL1, k_turn1, k_turn2, k_turn3, k_turn4, k_turn5, e_R1, k_R1, e_R2, k_R2, e_iLs, k_it, e_iTp, k_tI, e_lsV, e_lsS, k_ls1, k_ls2, k_ls3, e_iZp, e_iEn, e_iRv, e_iSg, k_jSg, e_jZp, k_zp, e_jEn, e_jRev, e_sl, e_pNo, e_pIn, k_pn, e_slL, cut_1, isLst_lst, isLst_tup, isLst_int, e_eqI, e_neI, e_eqB, e_neB, gStr_ok, isInt_int, isInt_bl, isInt_str, isInt_non, isInt_tup, isInt_lst, isBl_int, isBl_bl, isBl_tup, isTup_int, isTup_bl, isTup_str, isTup_non, isTup_tup, isTup_lst, e_sub, e_add, e_addL, e_neg, e_cmp, e_ixL, e_ixT, e_ixS, e_abs, e_max, e_max4, e_min, e_intI, e_intB, e_lenL, e_lenT, e_lenS, e_isT1, e_isT2, e_isT3, e_isTL1, e_isTL2, e_resT1, e_resT2, shL, e_mp, e_mpN, e_mpF, k_mf, k_ck, ckL_1, ckS_1, e_revL, e_gRv, e_iR3, e_jR3, k_R3, isN_1, isN_2, e_callF, k_callF, k_cf, gIs_non, gIs_bl, gIs_int, gIs_str, gIs_tup, gIs_lst, gIs_scr, e_meth, e_mtO, k_isOb, e_mtC, k_okO, e_mk, k_mk, k_mkQ, e_mkE, k_mkE, k_mkR1, k_mkR2, k_fld, e_d3, e_d4, e_d5, k_var3, k_var4, k_var5, k_mv3, k_sd3, k_sd4, k_sd5, e_isOw, k_ow1, k_ow2, e_resOk, e_resL1, e_resL2, e_noBrL, e_isL1, e_isL2, e_isL3, e_isL4, e_isL5, e_isL6, e_isLL1, e_isLL2, k_fr3, k_fr4, k_fr5, e_dnK, e_dnT, e_dputT, e_dputK, e_isDt, e_isDk, k_isDt, k_isDk, e_dtK2, e_dpK, k_dtI, k_dkI, e_keyI, e_keyS, e_inK, e_dxK, e_inT, e_dxT, e_intL2, List.getElem?_cons_zero, List.getElem?_cons_succ, List.getElem?_nil, List.set_cons_zero, List.set_cons_succ, List.length_cons, List.length_nil, List.map_cons, List.map_nil, List.nil_append, List.cons_append, List.replicate_succ, List.replicate_zero, List.all_nil, List.all_cons, List.contains_nil, List.contains_cons, Option.map_some, Option.map_none, Option.bind_some, Option.bind_none, Bool.and_true, Bool.true_and, Bool.and_false, Bool.false_and, Bool.or_true, Bool.true_or, Bool.or_false, Bool.false_or, Bool.not_true, Bool.not_false, Bool.not_not, Nat.zero_add, Nat.reduceAdd, Nat.reduceSub, Nat.reduceLT, Nat.reduceLeDiff, Nat.reduceEqDiff, reduceIte, if_true, if_false, atI_0, atI_1, atI_2, atI_3, gMul_ok, gMod_pos, gDiv_pos, true_and, and_true, and_self, Nat.reduceBEq, Nat.reduceBNe, beq_self_eq_true, decide_true, decide_false, not_false_iff, not_true, ne_eq, gt_iff_lt, ge_iff_le, Int.reduceEq, Int.reduceNe, Int.reduceLT, Int.reduceLE, Int.cast_ofNat_Int, Int.natCast_one, Int.natCast_zero, reduceCtorEq, Bool.false_eq_true, eq_self, common_ok, n1, hs', hn, gDiv_neg, g1, hl2, e1, e2]
    · obtain ⟨p, q, e1, e2, s, e3, e4⟩ := low_pos h (.inr ⟨hs, hp⟩)
      refine ⟨p, q, _, ?_, s, e3, e4, by omega⟩
      have n2 : ¬ (t < 0) := by omega
      have hs' : decide (b = 0) = true := decide_eq_true hs
      unfold phi_law_place b_law_place
      simp only [e_seq, k_seq1, k_seq2, k_seq3, k_seq4, k_seq5, e_ex, k_ex1, k_ex2, e_bnd, k_bn1, k_bn2, e_ret, e_nx, e_bk, e_ct, e_c, e_var, k_var1, k_var2, e_mv, k_mv1, k_mv2, e_pk, k_pk, e_get1, e_get2, k_sd1, k_sd2, e_gets1, e_gets2, k_gs, e_vals1, e_vals2, e_oOf, e_d1, e_d2, e_an, e_ac, e_op1, e_op2, e_bi, e_l1, k_l1, e_l2, k_l2, e_lA, k_lA, k_ok, e_tst, k_ts1, k_ts2, e_tand, e_tor, e_tnot, e_vand, e_vor, e_vnot, e_vif, e_iteT, e_iteF, e_tup, k_tp, e_lst, k_ls, e_is, e_call, e_callM, k_cl, k_rs, e_if, e_sret, e_sretN, e_drop, e_asg, k_nx, e_gN, e_gT, e_gLs1, e_gLs2, e_gsN, e_gsC, e_par, e_run, k_ru1, k_ru2, k_ru3, e_out1, e_out2, k_os, e_start, e_stl1, e_stl2, e_fro, e_isFr, k_fr1, k_fr2, e_ioOk1, e_ioOk2, k_ioOk, e_noBr, e_ios1, e_ios2, e_brs1, e_brs2, e_brs3, e_brs4, e_brs5, e_dec1, e_dec2, e_dec3, e_put1, k_put, e_put2, e_outOf1, e_outOf2, e_guard, e_setIx, e_stK, k_stI, e_mt, e_mtK, k_app, k_ext, k_rvs, k_pop, e_chain, e_for, e_forL1, k_turn1, k_turn2, k_turn3, k_turn4, k_turn5, e_R1, k_R1, e_R2, k_R2, e_iLs, k_it, e_iTp, k_tI, e_lsV, e_lsS, k_ls1, k_ls2, k_ls3, e_iZp, e_iEn, e_iRv, e_iSg, k_jSg, e_jZp, k_zp, e_jEn, e_jRev, e_sl, e_pNo, e_pIn, k_pn, e_slL, cut_1, isLst_lst, isLst_tup, isLst_int, e_eqI, e_neI, e_eqB, e_neB, gStr_ok, isInt_int, isInt_bl, isInt_str, isInt_non, isInt_tup, isInt_lst, isBl_int, isBl_bl, isBl_tup, isTup_int, isTup_bl, isTup_str, isTup_non, isTup_tup, isTup_lst, e_sub, e_add, e_addL, e_neg, e_cmp, e_ixL, e_ixT, e_ixS, e_abs, e_max, e_max4, e_min, e_intI, e_intB, e_lenL, e_lenT, e_lenS, e_isT1, e_isT2, e_isT3, e_isTL1, e_isTL2, e_resT1, e_resT2, shL, e_mp, e_mpN, e_mpF, k_mf, k_ck, ckL_1, ckS_1, e_revL, e_gRv, e_iR3, e_jR3, k_R3, isN_1, isN_2, e_callF, k_callF, k_cf, gIs_non, gIs_bl, gIs_int, gIs_str, gIs_tup, gIs_lst, gIs_scr, e_meth, e_mtO, k_isOb, e_mtC, k_okO, e_mk, k_mk, k_mkQ, e_mkE, k_mkE, k_mkR1, k_mkR2, k_fld, e_d3, e_d4, e_d5, k_var3, k_var4, k_var5, k_mv3, k_sd3, k_sd4, k_sd5, e_isOw, k_ow1, k_ow2, e_resOk, e_resL1, e_resL2, e_noBrL, e_isL1, e_isL2, e_isL3, e_isL4, e_isL5, e_isL6, e_isLL1, e_isLL2, k_fr3, k_fr4, k_fr5, e_dnK, e_dnT, e_dputT, e_dputK, e_isDt, e_isDk, k_isDt, k_isDk, e_dtK2, e_dpK, k_dtI, k_dkI, e_keyI, e_keyS, e_inK, e_dxK, e_inT, e_dxT, e_intL2, List.getElem?_cons_zero, List.getElem?_cons_succ, List.getElem?_nil, List.set_cons_zero, List.set_cons_succ, List.length_cons, List.length_nil, List.map_cons, List.map_nil, List.nil_append, List.cons_append, List.replicate_succ, List.replicate_zero, List.all_nil, List.all_cons, List.contains_nil, List.contains_cons, Option.map_some, Option.map_none, Option.bind_some, Option.bind_none, Bool.and_true, Bool.true_and, Bool.and_false, Bool.false_and, Bool.or_true, Bool.true_or, Bool.or_false, Bool.false_or, Bool.not_true, Bool.not_false, Bool.not_not, Nat.zero_add, Nat.reduceAdd, Nat.reduceSub, Nat.reduceLT, Nat.reduceLeDiff, Nat.reduceEqDiff, reduceIte, if_true, if_false, atI_0, atI_1, atI_2, atI_3, gMul_ok, gMod_pos, gDiv_pos, true_and, and_true, and_self, Nat.reduceBEq, Nat.reduceBNe, beq_self_eq_true, decide_true, decide_false, not_false_iff, not_true, ne_eq, gt_iff_lt, ge_iff_le, Int.reduceEq, Int.reduceNe, Int.reduceLT, Int.reduceLE, Int.cast_ofNat_Int, Int.natCast_one, Int.natCast_zero, reduceCtorEq, Bool.false_eq_true, eq_self, common_ok, n1, hs', n2, g0, hl, e1, e2]
  · obtain ⟨p, q, e1, e2, s, e3, e4⟩ := low_pos h (.inl hs)
    refine ⟨p, q, _, ?_, s, e3, e4, by omega⟩
    have n1 : ¬ (b < 0) := by omega
    have n3 : ¬ (b = 0) := by omega
    unfold phi_law_place b_law_place
    simp only [e_seq, k_seq1, k_seq2, k_seq3, k_seq4, k_seq5, e_ex, k_ex1, k_ex2, e_bnd, k_bn1, k_bn2, e_ret, e_nx, e_bk, e_ct, e_c, e_var, k_var1, k_var2, e_mv, k_mv1, k_mv2, e_pk, k_pk, e_get1, e_get2, k_sd1, k_sd2, e_gets1, e_gets2, k_gs, e_vals1, e_vals2, e_oOf, e_d1, e_d2, e_an, e_ac, e_op1, e_op2, e_bi, e_l1, k_l1, e_l2, k_l2, e_lA, k_lA, k_ok, e_tst, k_ts1, k_ts2, e_tand, e_tor, e_tnot, e_vand, e_vor, e_vnot, e_vif, e_iteT, e_iteF, e_tup, k_tp, e_lst, k_ls, e_is, e_call, e_callM, k_cl, k_rs, e_if, e_sret, e_sretN, e_drop, e_asg, k_nx, e_gN, e_gT, e_gLs1, e_gLs2, e_gsN, e_gsC, e_par, e_run, k_ru1, k_ru2, k_ru3, e_out1, e_out2, k_os, e_start, e_stl1, e_stl2, e_fro, e_isFr, k_fr1, k_fr2, e_ioOk1, e_ioOk2, k_ioOk, e_noBr, e_ios1, e_ios2, e_brs1, e_brs2, e_brs3, e_brs4, e_brs5, e_dec1, e_dec2, e_dec3, e_put1, k_put, e_put2, e_outOf1, e_outOf2, e_guard, e_setIx, e_stK, k_stI, e_mt, e_mtK, k_app, k_ext, k_rvs, k_pop, e_chain, e_for, e_forL1, k_turn1, k_turn2, k_turn3, k_turn4, k_turn5, e_R1, k_R1, e_R2, k_R2, e_iLs, k_it, e_iTp, k_tI, e_lsV, e_lsS, k_ls1, k_ls2, k_ls3, e_iZp, e_iEn, e_iRv, e_iSg, k_jSg, e_jZp, k_zp, e_jEn, e_jRev, e_sl, e_pNo, e_pIn, k_pn, e_slL, cut_1, isLst_lst, isLst_tup, isLst_int, e_eqI, e_neI, e_eqB, e_neB, gStr_ok, isInt_int, isInt_bl, isInt_str, isInt_non, isInt_tup, isInt_lst, isBl_int, isBl_bl, isBl_tup, isTup_int, isTup_bl, isTup_str, isTup_non, isTup_tup, isTup_lst, e_sub, e_add, e_addL, e_neg, e_cmp, e_ixL, e_ixT, e_ixS, e_abs, e_max, e_max4, e_min, e_intI, e_intB, e_lenL, e_lenT, e_lenS, e_isT1, e_isT2, e_isT3, e_isTL1, e_isTL2, e_resT1, e_resT2, shL, e_mp, e_mpN, e_mpF, k_mf, k_ck, ckL_1, ckS_1, e_revL, e_gRv, e_iR3, e_jR3, k_R3, isN_1, isN_2, e_callF, k_callF, k_cf, gIs_non, gIs_bl, gIs_int, gIs_str, gIs_tup, gIs_lst, gIs_scr, e_meth, e_mtO, k_isOb, e_mtC, k_okO, e_mk, k_mk, k_mkQ, e_mkE, k_mkE, k_mkR1, k_mkR2, k_fld, e_d3, e_d4, e_d5, k_var3, k_var4, k_var5, k_mv3, k_sd3, k_sd4, k_sd5, e_isOw, k_ow1, k_ow2, e_resOk, e_resL1, e_resL2, e_noBrL, e_isL1, e_isL2, e_isL3, e_isL4, e_isL5, e_isL6, e_isLL1, e_isLL2, k_fr3, k_fr4, k_fr5, e_dnK, e_dnT, e_dputT, e_dputK, e_isDt, e_isDk, k_isDt, k_isDk, e_dtK2, e_dpK, k_dtI, k_dkI, e_keyI, e_keyS, e_inK, e_dxK, e_inT, e_dxT, e_intL2, List.getElem?_cons_zero, List.getElem?_cons_succ, List.getElem?_nil, List.set_cons_zero, List.set_cons_succ, List.length_cons, List.length_nil, List.map_cons, List.map_nil, List.nil_append, List.cons_append, List.replicate_succ, List.replicate_zero, List.all_nil, List.all_cons, List.contains_nil, List.contains_cons, Option.map_some, Option.map_none, Option.bind_some, Option.bind_none, Bool.and_true, Bool.true_and, Bool.and_false, Bool.false_and, Bool.or_true, Bool.true_or, Bool.or_false, Bool.false_or, Bool.not_true, Bool.not_false, Bool.not_not, Nat.zero_add, Nat.reduceAdd, Nat.reduceSub, Nat.reduceLT, Nat.reduceLeDiff, Nat.reduceEqDiff, reduceIte, if_true, if_false, atI_0, atI_1, atI_2, atI_3, gMul_ok, gMod_pos, gDiv_pos, true_and, and_true, and_self, Nat.reduceBEq, Nat.reduceBNe, beq_self_eq_true, decide_true, decide_false, not_false_iff, not_true, ne_eq, gt_iff_lt, ge_iff_le, Int.reduceEq, Int.reduceNe, Int.reduceLT, Int.reduceLE, Int.cast_ofNat_Int, Int.natCast_one, Int.natCast_zero, reduceCtorEq, Bool.false_eq_true, eq_self, common_ok, n1, n3, g0, hl, e1, e2]
theorem dvd_q {p q p' q' : Int} (s : Spt p q) (e : p * q' = q * p') : q.natAbs ∣ q'.natAbs := by
  have c : Nat.Coprime q.natAbs p.natAbs := by
    show Nat.gcd q.natAbs p.natAbs = 1
    rw [Nat.gcd_comm]
    exact s.1
  refine c.dvd_of_dvd_mul_left (m := p.natAbs) ?_
  rw [← Int.natAbs_mul, e, Int.natAbs_mul]
  exact Nat.dvd_mul_right _ _
theorem spt_one {p : Int} (h : Int.gcd p 0 = 1) (hp : 0 < p) : p = 1 := by
  have e : p.natAbs = 1 := by
    have e := h
    rw [Int.gcd_zero] at e
    exact e
  omega
/-- lowest terms are one -/
theorem spt_uniq {p q p' q' : Int} (s : Spt p q) (s' : Spt p' q') (e : p * q' = q * p') : p = p' ∧ q = q' := by
  have d1 := dvd_q s e
  have d2 := dvd_q s' (p' := p) (q' := q) (by rw [Int.mul_comm, ← e, Int.mul_comm])
  have hq := Nat.dvd_antisymm d1 d2
  have hq2 : q = q' := by
    have := s.2
    have := s'.2
    omega
  subst hq2
  refine ⟨?_, rfl⟩
  rcases s.2 with hp | ⟨h0, hp⟩
  · refine Int.eq_of_mul_eq_mul_right (a := q) (by omega) ?_
    rw [e, Int.mul_comm]
  · subst h0
    rw [spt_one s.1 hp]
    rcases s'.2 with h | ⟨_, hp'⟩
    · omega
    · rw [spt_one s'.1 hp']
theorem Spt.ne {p q : Int} (s : Spt p q) : ¬ (p = 0 ∧ q = 0) := by
  have := s.2
  omega
theorem bd_of {k : Nat} {g p t : Int} (h : Bd k t) (e : t = g * p) (hg : g ≠ 0) : Bd k p := by
  unfold Bd at *
  rw [e, Int.natAbs_mul] at h
  have h1 : 1 ≤ g.natAbs := by omega
  have h2 := Nat.mul_le_mul_right p.natAbs h1
  omega
/-- lowest terms of two proportional pairs -/
theorem SpR.same {o : Option CR} {t b p q : Int} (r : SpR o t b) (s : Spt p q) (e : t * q = b * p) : o = some (.ret (.sh (P2 p q)) []) := by
  obtain ⟨p1, q1, g, e0, s1, e1, e2, hg⟩ := r
  have e3 : g * (p1 * q) = g * (q1 * p) := by
    rw [e1, e2] at e
    rw [← Int.mul_assoc, ← Int.mul_assoc]
    exact e
  obtain ⟨rfl, rfl⟩ := spt_uniq s1 s (Int.eq_of_mul_eq_mul_left hg e3)
  exact e0
theorem common_same : phi_common = phi_law_common := rfl
theorem common_ok' {a b : Int} : phi_common [.int a, .int b] = some (.ret (.sh (.int (Int.gcd a b : Nat))) []) := common_ok
/-! the number of a cell -/
theorem pw {x : Int} {n : Nat} (h : PowOk 10 (n : Int)) (e : (10 : Int) ^ n = x) : gPow (.int 10) (.int (n : Int)) = some (.sh (.int x)) := by
  show (if PowOk 10 (n : Int) then some (SV.sh (.int ((10 : Int) ^ ((n : Nat) : Int).toNat))) else none) = _
  rw [if_pos h, Int.toNat_natCast, e]
theorem pow18 : gPow (.int 10) (.int 18) = some (.sh (.int 1000000000000000000)) := pw (n := 18) (by decide) (by decide)
theorem pow37 : gPow (.int 10) (.int 37) = some (.sh (.int 10000000000000000000000000000000000000)) := pw (n := 37) (by decide) (by decide)
theorem pow17 : gPow (.int 10) (.int 17) = some (.sh (.int 100000000000000000)) := pw (n := 17) (by decide) (by decide)
theorem pow40 : gPow (.int 10) (.int 40) = some (.sh (.int 10000000000000000000000000000000000000000)) := pw (n := 40) (by decide) (by decide)
theorem cell_ok {ns : List Int} {k : Nat} : ∃ x, phi_law_cell_at [.scr ns, .int (k : Int)] = some (.ret (.sh (.int x)) []) := by
  by_cases h : k < ns.length
  · refine ⟨ns[k], ?_⟩
    have hx : gIx (.scr ns) (.int (k : Int)) = some (.sh (.int ns[k])) := by
      show (atI ns (k : Int)).map (fun i => SV.sh (.int i)) = _
      rw [atI_nat (List.getElem?_eq_getElem h)]
      rfl
    have c : decide ((k : Int) < (ns.length : Int)) = true := decide_eq_true (by omega)
    unfold phi_law_cell_at b_law_cell_at
    simp -implicitDefEqProofs only [e_seq, k_seq1, k_seq2, k_seq3, k_seq4, k_seq5, e_ex, k_ex1, k_ex2, e_bnd, k_bn1, k_bn2, e_ret, e_nx, e_bk, e_ct, e_c, e_var, k_var1, k_var2, e_mv, k_mv1, k_mv2, e_pk, k_pk, e_get1, e_get2, k_sd1, k_sd2, e_gets1, e_gets2, k_gs, e_vals1, e_vals2, e_oOf, e_d1, e_d2, e_an, e_ac, e_op1, e_op2, e_bi, e_l1, k_l1, e_l2, k_l2, e_lA, k_lA, k_ok, e_tst, k_ts1, k_ts2, e_tand, e_tor, e_tnot, e_vand, e_vor, e_vnot, e_vif, e_iteT, e_iteF, e_tup, k_tp, e_lst, k_ls, e_is, e_call, e_callM, k_cl, k_rs, e_if, e_sret, e_sretN, e_drop, e_asg, k_nx, e_gN, e_gT, e_gLs1, e_gLs2, e_gsN, e_gsC, e_par, e_run, k_ru1, k_ru2, k_ru3, e_out1, e_out2, k_os, e_start, e_stl1, e_stl2, e_fro, e_isFr, k_fr1, k_fr2, e_ioOk1, e_ioOk2, k_ioOk, e_noBr, e_ios1, e_ios2, e_brs1, e_brs2, e_brs3, e_brs4, e_brs5, e_dec1, e_dec2, e_dec3, e_put1, k_put, e_put2, e_outOf1, e_outOf2, e_guard, e_setIx, e_stK, k_stI, e_mt, e_mtK, k_app, k_ext, k_rvs, k_pop, e_chain, e_for, e_forL1, k_turn1, k_turn2, k_turn3, k_turn4, k_turn5, e_R1, k_R1, e_R2, k_R2, e_iLs, k_it, e_iTp, k_tI, e_lsV, e_lsS, k_ls1, k_ls2, k_ls3, e_iZp, e_iEn, e_iRv, e_iSg, k_jSg, e_jZp, k_zp, e_jEn, e_jRev, e_sl, e_pNo, e_pIn, k_pn, e_slL, cut_1, isLst_lst, isLst_tup, isLst_int, e_eqI, e_neI, e_eqB, e_neB, gStr_ok, isInt_int, isInt_bl, isInt_str, isInt_non, isInt_tup, isInt_lst, isBl_int, isBl_bl, isBl_tup, isTup_int, isTup_bl, isTup_str, isTup_non, isTup_tup, isTup_lst, e_sub, e_add, e_addL, e_neg, e_cmp, e_ixL, e_ixT, e_ixS, e_abs, e_max, e_max4, e_min, e_intI, e_intB, e_lenL, e_lenT, e_lenS, e_isT1, e_isT2, e_isT3, e_isTL1, e_isTL2, e_resT1, e_resT2, shL, e_mp, e_mpN, e_mpF, k_mf, k_ck, ckL_1, ckS_1, e_revL, e_gRv, e_iR3, e_jR3, k_R3, isN_1, isN_2, e_callF, k_callF, k_cf, gIs_non, gIs_bl, gIs_int, gIs_str, gIs_tup, gIs_lst, gIs_scr, e_meth, e_mtO, k_isOb, e_mtC, k_okO, e_mk, k_mk, k_mkQ, e_mkE, k_mkE, k_mkR1, k_mkR2, k_fld, e_d3, e_d4, e_d5, k_var3, k_var4, k_var5, k_mv3, k_sd3, k_sd4, k_sd5, e_isOw, k_ow1, k_ow2, e_resOk, e_resL1, e_resL2, e_noBrL, e_isL1, e_isL2, e_isL3, e_isL4, e_isL5, e_isL6, e_isLL1, e_isLL2, k_fr3, k_fr4, k_fr5, e_dnK, e_dnT, e_dputT, e_dputK, e_isDt, e_isDk, k_isDt, k_isDk, e_dtK2, e_dpK, k_dtI, k_dkI, e_keyI, e_keyS, e_inK, e_dxK, e_inT, e_dxT, e_intL2, List.getElem?_cons_zero, List.getElem?_cons_succ, List.getElem?_nil, List.set_cons_zero, List.set_cons_succ, List.length_cons, List.length_nil, List.map_cons, List.map_nil, List.nil_append, List.cons_append, List.replicate_succ, List.replicate_zero, List.all_nil, List.all_cons, List.contains_nil, List.contains_cons, Option.map_some, Option.map_none, Option.bind_some, Option.bind_none, Bool.and_true, Bool.true_and, Bool.and_false, Bool.false_and, Bool.or_true, Bool.true_or, Bool.or_false, Bool.false_or, Bool.not_true, Bool.not_false, Bool.not_not, Nat.zero_add, Nat.reduceAdd, Nat.reduceSub, Nat.reduceLT, Nat.reduceLeDiff, Nat.reduceEqDiff, reduceIte, if_true, if_false, atI_0, atI_1, atI_2, atI_3, gMul_ok, gMod_pos, gDiv_pos, true_and, and_true, and_self, Nat.reduceBEq, Nat.reduceBNe, beq_self_eq_true, decide_true, decide_false, not_false_iff, not_true, ne_eq, gt_iff_lt, ge_iff_le, Int.reduceEq, Int.reduceNe, Int.reduceLT, Int.reduceLE, Int.cast_ofNat_Int, Int.natCast_one, Int.natCast_zero, reduceCtorEq, Bool.false_eq_true, eq_self, c, hx]
  · refine ⟨0, ?_⟩
    have c : decide ((k : Int) < (ns.length : Int)) = false := decide_eq_false (by omega)
    unfold phi_law_cell_at b_law_cell_at
    simp -implicitDefEqProofs only [e_seq, k_seq1, k_seq2, k_seq3, k_seq4, k_seq5, e_ex, k_ex1, k_ex2, e_bnd, k_bn1, k_bn2, e_ret, e_nx, e_bk, e_ct, e_c, e_var, k_var1, k_var2, e_mv, k_mv1, k_mv2, e_pk, k_pk, e_get1, e_get2, k_sd1, k_sd2, e_gets1, e_gets2, k_gs, e_vals1, e_vals2, e_oOf, e_d1, e_d2, e_an, e_ac, e_op1, e_op2, e_bi, e_l1, k_l1, e_l2, k_l2, e_lA, k_lA, k_ok, e_tst, k_ts1, k_ts2, e_tand, e_tor, e_tnot, e_vand, e_vor, e_vnot, e_vif, e_iteT, e_iteF, e_tup, k_tp, e_lst, k_ls, e_is, e_call, e_callM, k_cl, k_rs, e_if, e_sret, e_sretN, e_drop, e_asg, k_nx, e_gN, e_gT, e_gLs1, e_gLs2, e_gsN, e_gsC, e_par, e_run, k_ru1, k_ru2, k_ru3, e_out1, e_out2, k_os, e_start, e_stl1, e_stl2, e_fro, e_isFr, k_fr1, k_fr2, e_ioOk1, e_ioOk2, k_ioOk, e_noBr, e_ios1, e_ios2, e_brs1, e_brs2, e_brs3, e_brs4, e_brs5, e_dec1, e_dec2, e_dec3, e_put1, k_put, e_put2, e_outOf1, e_outOf2, e_guard, e_setIx, e_stK, k_stI, e_mt, e_mtK, k_app, k_ext, k_rvs, k_pop, e_chain, e_for, e_forL1, k_turn1, k_turn2, k_turn3, k_turn4, k_turn5, e_R1, k_R1, e_R2, k_R2, e_iLs, k_it, e_iTp, k_tI, e_lsV, e_lsS, k_ls1, k_ls2, k_ls3, e_iZp, e_iEn, e_iRv, e_iSg, k_jSg, e_jZp, k_zp, e_jEn, e_jRev, e_sl, e_pNo, e_pIn, k_pn, e_slL, cut_1, isLst_lst, isLst_tup, isLst_int, e_eqI, e_neI, e_eqB, e_neB, gStr_ok, isInt_int, isInt_bl, isInt_str, isInt_non, isInt_tup, isInt_lst, isBl_int, isBl_bl, isBl_tup, isTup_int, isTup_bl, isTup_str, isTup_non, isTup_tup, isTup_lst, e_sub, e_add, e_addL, e_neg, e_cmp, e_ixL, e_ixT, e_ixS, e_abs, e_max, e_max4, e_min, e_intI, e_intB, e_lenL, e_lenT, e_lenS, e_isT1, e_isT2, e_isT3, e_isTL1, e_isTL2, e_resT1, e_resT2, shL, e_mp, e_mpN, e_mpF, k_mf, k_ck, ckL_1, ckS_1, e_revL, e_gRv, e_iR3, e_jR3, k_R3, isN_1, isN_2, e_callF, k_callF, k_cf, gIs_non, gIs_bl, gIs_int, gIs_str, gIs_tup, gIs_lst, gIs_scr, e_meth, e_mtO, k_isOb, e_mtC, k_okO, e_mk, k_mk, k_mkQ, e_mkE, k_mkE, k_mkR1, k_mkR2, k_fld, e_d3, e_d4, e_d5, k_var3, k_var4, k_var5, k_mv3, k_sd3, k_sd4, k_sd5, e_isOw, k_ow1, k_ow2, e_resOk, e_resL1, e_resL2, e_noBrL, e_isL1, e_isL2, e_isL3, e_isL4, e_isL5, e_isL6, e_isLL1, e_isLL2, k_fr3, k_fr4, k_fr5, e_dnK, e_dnT, e_dputT, e_dputK, e_isDt, e_isDk, k_isDt, k_isDk, e_dtK2, e_dpK, k_dtI, k_dkI, e_keyI, e_keyS, e_inK, e_dxK, e_inT, e_dxT, e_intL2, List.getElem?_cons_zero, List.getElem?_cons_succ, List.getElem?_nil, List.set_cons_zero, List.set_cons_succ, List.length_cons, List.length_nil, List.map_cons, List.map_nil, List.nil_append, List.cons_append, List.replicate_succ, List.replicate_zero, List.all_nil, List.all_cons, List.contains_nil, List.contains_cons, Option.map_some, Option.map_none, Option.bind_some, Option.bind_none, Bool.and_true, Bool.true_and, Bool.and_false, Bool.false_and, Bool.or_true, Bool.true_or, Bool.or_false, Bool.false_or, Bool.not_true, Bool.not_false, Bool.not_not, Nat.zero_add, Nat.reduceAdd, Nat.reduceSub, Nat.reduceLT, Nat.reduceLeDiff, Nat.reduceEqDiff, reduceIte, if_true, if_false, atI_0, atI_1, atI_2, atI_3, gMul_ok, gMod_pos, gDiv_pos, true_and, and_true, and_self, Nat.reduceBEq, Nat.reduceBNe, beq_self_eq_true, decide_true, decide_false, not_false_iff, not_true, ne_eq, gt_iff_lt, ge_iff_le, Int.reduceEq, Int.reduceNe, Int.reduceLT, Int.reduceLE, Int.cast_ofNat_Int, Int.natCast_one, Int.natCast_zero, reduceCtorEq, Bool.false_eq_true, eq_self, c]
theorem number_nn {ns : List Int} {k : Nat} (hk : k < 1000) : ∃ x, 0 ≤ x ∧ phi_law_number [.scr ns, .int (k : Int)] = some (.ret (.sh (.int x)) []) := by
  obtain ⟨x, e⟩ := @cell_ok ns k
  by_cases h : (1000000000000000000 : Int) ≤ x
  · refine ⟨x, by omega, ?_⟩
    unfold phi_law_number b_law_number
    simp -implicitDefEqProofs only [e_seq, k_seq1, k_seq2, k_seq3, k_seq4, k_seq5, e_ex, k_ex1, k_ex2, e_bnd, k_bn1, k_bn2, e_ret, e_nx, e_bk, e_ct, e_c, e_var, k_var1, k_var2, e_mv, k_mv1, k_mv2, e_pk, k_pk, e_get1, e_get2, k_sd1, k_sd2, e_gets1, e_gets2, k_gs, e_vals1, e_vals2, e_oOf, e_d1, e_d2, e_an, e_ac, e_op1, e_op2, e_bi, e_l1, k_l1, e_l2, k_l2, e_lA, k_lA, k_ok, e_tst, k_ts1, k_ts2, e_tand, e_tor, e_tnot, e_vand, e_vor, e_vnot, e_vif, e_iteT, e_iteF, e_tup, k_tp, e_lst, k_ls, e_is, e_call, e_callM, k_cl, k_rs, e_if, e_sret, e_sretN, e_drop, e_asg, k_nx, e_gN, e_gT, e_gLs1, e_gLs2, e_gsN, e_gsC, e_par, e_run, k_ru1, k_ru2, k_ru3, e_out1, e_out2, k_os, e_start, e_stl1, e_stl2, e_fro, e_isFr, k_fr1, k_fr2, e_ioOk1, e_ioOk2, k_ioOk, e_noBr, e_ios1, e_ios2, e_brs1, e_brs2, e_brs3, e_brs4, e_brs5, e_dec1, e_dec2, e_dec3, e_put1, k_put, e_put2, e_outOf1, e_outOf2, e_guard, e_setIx, e_stK, k_stI, e_mt, e_mtK, k_app, k_ext, k_rvs, k_pop, e_chain, e_for, e_forL1, k_turn1, k_turn2, k_turn3, k_turn4, k_turn5, e_R1, k_R1, e_R2, k_R2, e_iLs, k_it, e_iTp, k_tI, e_lsV, e_lsS, k_ls1, k_ls2, k_ls3, e_iZp, e_iEn, e_iRv, e_iSg, k_jSg, e_jZp, k_zp, e_jEn, e_jRev, e_sl, e_pNo, e_pIn, k_pn, e_slL, cut_1, isLst_lst, isLst_tup, isLst_int, e_eqI, e_neI, e_eqB, e_neB, gStr_ok, isInt_int, isInt_bl, isInt_str, isInt_non, isInt_tup, isInt_lst, isBl_int, isBl_bl, isBl_tup, isTup_int, isTup_bl, isTup_str, isTup_non, isTup_tup, isTup_lst, e_sub, e_add, e_addL, e_neg, e_cmp, e_ixL, e_ixT, e_ixS, e_abs, e_max, e_max4, e_min, e_intI, e_intB, e_lenL, e_lenT, e_lenS, e_isT1, e_isT2, e_isT3, e_isTL1, e_isTL2, e_resT1, e_resT2, shL, e_mp, e_mpN, e_mpF, k_mf, k_ck, ckL_1, ckS_1, e_revL, e_gRv, e_iR3, e_jR3, k_R3, isN_1, isN_2, e_callF, k_callF, k_cf, gIs_non, gIs_bl, gIs_int, gIs_str, gIs_tup, gIs_lst, gIs_scr, e_meth, e_mtO, k_isOb, e_mtC, k_okO, e_mk, k_mk, k_mkQ, e_mkE, k_mkE, k_mkR1, k_mkR2, k_fld, e_d3, e_d4, e_d5, k_var3, k_var4, k_var5, k_mv3, k_sd3, k_sd4, k_sd5, e_isOw, k_ow1, k_ow2, e_resOk, e_resL1, e_resL2, e_noBrL, e_isL1, e_isL2, e_isL3, e_isL4, e_isL5, e_isL6, e_isLL1, e_isLL2, k_fr3, k_fr4, k_fr5, e_dnK, e_dnT, e_dputT, e_dputK, e_isDt, e_isDk, k_isDt, k_isDk, e_dtK2, e_dpK, k_dtI, k_dkI, e_keyI, e_keyS, e_inK, e_dxK, e_inT, e_dxT, e_intL2, List.getElem?_cons_zero, List.getElem?_cons_succ, List.getElem?_nil, List.set_cons_zero, List.set_cons_succ, List.length_cons, List.length_nil, List.map_cons, List.map_nil, List.nil_append, List.cons_append, List.replicate_succ, List.replicate_zero, List.all_nil, List.all_cons, List.contains_nil, List.contains_cons, Option.map_some, Option.map_none, Option.bind_some, Option.bind_none, Bool.and_true, Bool.true_and, Bool.and_false, Bool.false_and, Bool.or_true, Bool.true_or, Bool.or_false, Bool.false_or, Bool.not_true, Bool.not_false, Bool.not_not, Nat.zero_add, Nat.reduceAdd, Nat.reduceSub, Nat.reduceLT, Nat.reduceLeDiff, Nat.reduceEqDiff, reduceIte, if_true, if_false, atI_0, atI_1, atI_2, atI_3, gMul_ok, gMod_pos, gDiv_pos, true_and, and_true, and_self, Nat.reduceBEq, Nat.reduceBNe, beq_self_eq_true, decide_true, decide_false, not_false_iff, not_true, ne_eq, gt_iff_lt, ge_iff_le, Int.reduceEq, Int.reduceNe, Int.reduceLT, Int.reduceLE, Int.cast_ofNat_Int, Int.natCast_one, Int.natCast_zero, reduceCtorEq, Bool.false_eq_true, eq_self, e, pow18, decide_eq_true h]
  · have m1 : Sim.MulOk (k : Int) (k : Int) := mulOk_l (by omega) (by omega)
    have m2 : ∀ i, Sim.MulOk 1442695040888963407 i := fun i => mulOk_l (by decide) (by decide)
    have m3 : ∀ i, Sim.MulOk i 6364136223846793005 := fun i => mulOk_r (by decide) (by decide)
    generalize hy : (x + 1442695040888963407 * ((k : Int) * (k : Int) + (k : Int) + 1)) * 6364136223846793005 % 10000000000000000000000000000000000000 = y
    have y0 : 0 ≤ y := by rw [← hy]; exact Int.emod_nonneg _ (by decide)
    have y1 : y < 10000000000000000000000000000000000000 := by rw [← hy]; exact Int.emod_lt_of_pos _ (by decide)
    have m4 : Sim.MulOk y y := mulOk_big (k := 130) (m := 130) (by omega) (by omega) (by decide) (by decide) (by decide)
    have p1 : (0 : Int) < 10000000000000000000000000000000000000 := by decide
    have p2 : (0 : Int) < 10000000000000000000000000000000000000000 := by decide
    have dv : gDiv (.int (y * y)) (.int 100000000000000000) = some (.sh (.int (y * y / 100000000000000000))) := gDiv_pos (by decide) (log_9000 (k := 70) (by decide) (by decide) (by decide))
    refine ⟨y * y / 100000000000000000 % 10000000000000000000000000000000000000000, Int.emod_nonneg _ (by decide), ?_⟩
    unfold phi_law_number b_law_number
    simp -implicitDefEqProofs only [e_seq, k_seq1, k_seq2, k_seq3, k_seq4, k_seq5, e_ex, k_ex1, k_ex2, e_bnd, k_bn1, k_bn2, e_ret, e_nx, e_bk, e_ct, e_c, e_var, k_var1, k_var2, e_mv, k_mv1, k_mv2, e_pk, k_pk, e_get1, e_get2, k_sd1, k_sd2, e_gets1, e_gets2, k_gs, e_vals1, e_vals2, e_oOf, e_d1, e_d2, e_an, e_ac, e_op1, e_op2, e_bi, e_l1, k_l1, e_l2, k_l2, e_lA, k_lA, k_ok, e_tst, k_ts1, k_ts2, e_tand, e_tor, e_tnot, e_vand, e_vor, e_vnot, e_vif, e_iteT, e_iteF, e_tup, k_tp, e_lst, k_ls, e_is, e_call, e_callM, k_cl, k_rs, e_if, e_sret, e_sretN, e_drop, e_asg, k_nx, e_gN, e_gT, e_gLs1, e_gLs2, e_gsN, e_gsC, e_par, e_run, k_ru1, k_ru2, k_ru3, e_out1, e_out2, k_os, e_start, e_stl1, e_stl2, e_fro, e_isFr, k_fr1, k_fr2, e_ioOk1, e_ioOk2, k_ioOk, e_noBr, e_ios1, e_ios2, e_brs1, e_brs2, e_brs3, e_brs4, e_brs5, e_dec1, e_dec2, e_dec3, e_put1, k_put, e_put2, e_outOf1, e_outOf2, e_guard, e_setIx, e_stK, k_stI, e_mt, e_mtK, k_app, k_ext, k_rvs, k_pop, e_chain, e_for, e_forL1, k_turn1, k_turn2, k_turn3, k_turn4, k_turn5, e_R1, k_R1, e_R2, k_R2, e_iLs, k_it, e_iTp, k_tI, e_lsV, e_lsS, k_ls1, k_ls2, k_ls3, e_iZp, e_iEn, e_iRv, e_iSg, k_jSg, e_jZp, k_zp, e_jEn, e_jRev, e_sl, e_pNo, e_pIn, k_pn, e_slL, cut_1, isLst_lst, isLst_tup, isLst_int, e_eqI, e_neI, e_eqB, e_neB, gStr_ok, isInt_int, isInt_bl, isInt_str, isInt_non, isInt_tup, isInt_lst, isBl_int, isBl_bl, isBl_tup, isTup_int, isTup_bl, isTup_str, isTup_non, isTup_tup, isTup_lst, e_sub, e_add, e_addL, e_neg, e_cmp, e_ixL, e_ixT, e_ixS, e_abs, e_max, e_max4, e_min, e_intI, e_intB, e_lenL, e_lenT, e_lenS, e_isT1, e_isT2, e_isT3, e_isTL1, e_isTL2, e_resT1, e_resT2, shL, e_mp, e_mpN, e_mpF, k_mf, k_ck, ckL_1, ckS_1, e_revL, e_gRv, e_iR3, e_jR3, k_R3, isN_1, isN_2, e_callF, k_callF, k_cf, gIs_non, gIs_bl, gIs_int, gIs_str, gIs_tup, gIs_lst, gIs_scr, e_meth, e_mtO, k_isOb, e_mtC, k_okO, e_mk, k_mk, k_mkQ, e_mkE, k_mkE, k_mkR1, k_mkR2, k_fld, e_d3, e_d4, e_d5, k_var3, k_var4, k_var5, k_mv3, k_sd3, k_sd4, k_sd5, e_isOw, k_ow1, k_ow2, e_resOk, e_resL1, e_resL2, e_noBrL, e_isL1, e_isL2, e_isL3, e_isL4, e_isL5, e_isL6, e_isLL1, e_isLL2, k_fr3, k_fr4, k_fr5, e_dnK, e_dnT, e_dputT, e_dputK, e_isDt, e_isDk, k_isDt, k_isDk, e_dtK2, e_dpK, k_dtI, k_dkI, e_keyI, e_keyS, e_inK, e_dxK, e_inT, e_dxT, e_intL2, List.getElem?_cons_zero, List.getElem?_cons_succ, List.getElem?_nil, List.set_cons_zero, List.set_cons_succ, List.length_cons, List.length_nil, List.map_cons, List.map_nil, List.nil_append, List.cons_append, List.replicate_succ, List.replicate_zero, List.all_nil, List.all_cons, List.contains_nil, List.contains_cons, Option.map_some, Option.map_none, Option.bind_some, Option.bind_none, Bool.and_true, Bool.true_and, Bool.and_false, Bool.false_and, Bool.or_true, Bool.true_or, Bool.or_false, Bool.false_or, Bool.not_true, Bool.not_false, Bool.not_not, Nat.zero_add, Nat.reduceAdd, Nat.reduceSub, Nat.reduceLT, Nat.reduceLeDiff, Nat.reduceEqDiff, reduceIte, if_true, if_false, atI_0, atI_1, atI_2, atI_3, gMul_ok, gMod_pos, gDiv_pos, true_and, and_true, and_self, Nat.reduceBEq, Nat.reduceBNe, beq_self_eq_true, decide_true, decide_false, not_false_iff, not_true, ne_eq, gt_iff_lt, ge_iff_le, Int.reduceEq, Int.reduceNe, Int.reduceLT, Int.reduceLE, Int.cast_ofNat_Int, Int.natCast_one, Int.natCast_zero, reduceCtorEq, Bool.false_eq_true, eq_self, e, pow18, pow37, pow17, pow40, decide_eq_false h, m1, m2, m3, p1, p2, hy, m4, dv]
theorem number_ok {ns : List Int} {k : Nat} (hk : k < 1000) : ∃ x, phi_law_number [.scr ns, .int (k : Int)] = some (.ret (.sh (.int x)) []) := by
  obtain ⟨x, _, e⟩ := @number_nn ns k hk
  exact ⟨x, e⟩
/-! texts: signs, numbers as they are written -/
open TL
open PySem.NumText (AllDigits digitsVal)
def tS (l : List Nat) : Str := ⟨l.toArray⟩
theorem tl_tS (l : List Nat) : tl (tS l) = l := rfl
theorem tS_tl (s : Str) : tS (tl s) = s := ext_tl rfl
theorem tS_len (l : List Nat) : (tS l).length = l.length := by rw [len_tl, tl_tS]
theorem tS_app (l m : List Nat) : tS l ++ tS m = tS (l ++ m) := ext_tl (by rw [tl_append, tl_tS, tl_tS, tl_tS])
theorem tS_inj {l m : List Nat} (h : tS l = tS m) : l = m := by
  have := congrArg tl h
  exact this
/-- signs that a text may have -/
def sOk (l : List Nat) : Prop := ∀ c ∈ l, c < 0x110000
theorem ok_tS {l : List Nat} (h : sOk l) : okPy (.str (tS l)) = true := by
  have e : PyData.strOk (tS l) = true := by
    unfold PyData.strOk
    rw [Array.all_eq_true']
    intro c hc
    exact decide_eq_true (h c (Array.mem_toList_iff.mpr hc))
  show (PyData.strOk (tS l) && decide (_ ≤ 64)) = true
  rw [e]
  rfl
theorem eqD_tS {l m : List Nat} : eqD (.str (tS l)) (.str (tS m)) = decide (l = m) := by
  show (tS l == tS m) = decide (l = m)
  by_cases h : l = m
  · subst h
    rw [decide_eq_true rfl]
    exact beq_self_eq_true _
  · rw [decide_eq_false h]
    exact beq_eq_false_iff_ne.mpr fun e => h (tS_inj e)
theorem eq_tS {l m : List Nat} (hl : sOk l) (hm : sOk m) : gEq (.str (tS l)) (.str (tS m)) = some (.sh (.bl (decide (l = m)))) := by
  unfold gEq
  rw [if_pos ⟨ok_tS hl, ok_tS hm⟩, eqD_tS]
theorem ne_tS {l m : List Nat} (hl : sOk l) (hm : sOk m) : gNe (.str (tS l)) (.str (tS m)) = some (.sh (.bl (!decide (l = m)))) := by
  unfold gNe
  rw [if_pos ⟨ok_tS hl, ok_tS hm⟩, eqD_tS]
theorem sOk_cons {c : Nat} {l : List Nat} (h : sOk (c :: l)) : sOk [c] ∧ sOk l := ⟨fun d hd => h d (by rw [List.mem_singleton.mp hd]; exact List.mem_cons_self), fun d hd => h d (List.mem_cons_of_mem _ hd)⟩
theorem sOk_take {l : List Nat} {n : Nat} (h : sOk l) : sOk (l.take n) := fun c hc => h c (List.mem_of_mem_take hc)
theorem sOk_drop {l : List Nat} {n : Nat} (h : sOk l) : sOk (l.drop n) := fun c hc => h c (List.mem_of_mem_drop hc)
theorem sOk_app {l m : List Nat} (h : sOk l) (g : sOk m) : sOk (l ++ m) := fun c hc => (List.mem_append.mp hc).elim (h c) (g c)
theorem sOk_lit {l : List Nat} (h : l.all (fun c => decide (c < 0x110000)) = true) : sOk l := fun c hc => of_decide_eq_true (List.all_eq_true.mp h c hc)
/-- the signs of a whole number -/
def zL (p : Int) : List Nat := tl (Str.ofString (toString p))
theorem zL_nat (n : Nat) : zL (n : Int) = numL n := tl_num n
theorem zL_neg (n : Nat) : zL (Int.negSucc n) = 45 :: numL (n + 1) := by
  show tl (Str.ofString ("-" ++ toString ((n + 1 : Nat)))) = _
  have e := tl_num (n + 1)
  rw [tl_ofString] at e
  rw [tl_ofString, String.toList_append, List.map_append]
  show 45 :: _ = _
  exact congrArg (45 :: ·) e
theorem zL_free {p : Int} {s : Nat} (h : s < 45 ∨ (45 < s ∧ s < 48) ∨ 57 < s) : s ∉ zL p := by
  cases p with
  | ofNat n =>
    rw [show zL (Int.ofNat n) = numL n from zL_nat n]
    exact numL_free (by omega)
  | negSucc n =>
    rw [zL_neg, List.mem_cons]
    rintro (e | e)
    · omega
    · exact numL_free (by omega) e
theorem numL_head : ∀ (n : Nat) (c : Nat) (r : List Nat), numL n = c :: r → c = 48 → n = 0 ∧ r = [] := by
  intro n
  induction n using Nat.strongRecOn with
  | _ n ih =>
    intro c r h hc
    by_cases hn : n < 10
    · rw [numL_lt hn] at h
      injection h with h1 h2
      exact ⟨by omega, h2.symm⟩
    · rw [numL_step (by omega)] at h
      cases e : numL (n / 10) with
      | nil => exact absurd e (numL_ne _)
      | cons d s =>
        rw [e] at h
        injection h with h1 h2
        have := (ih (n / 10) (by omega) d s e (by omega)).1
        omega
/-- figures alone -/
def figs (l : List Nat) : Bool := l.all fun c => decide (48 ≤ c) && decide (c ≤ 57)
theorem figs_numL (n : Nat) : figs (numL n) = true := List.all_eq_true.mpr fun c hc => by
  have := numL_digits n c hc
  rw [Bool.and_eq_true, decide_eq_true_eq, decide_eq_true_eq]
  exact this
theorem figs_all {l : List Nat} (h : figs l = true) : NumText.AllDigits l := fun c hc => by
  have := List.all_eq_true.mp h c hc
  rw [Bool.and_eq_true, decide_eq_true_eq, decide_eq_true_eq] at this
  exact this
theorem figs_ok {l : List Nat} (h : figs l = true) : sOk l := fun c hc => by
  have := List.all_eq_true.mp h c hc
  rw [Bool.and_eq_true, decide_eq_true_eq, decide_eq_true_eq] at this
  omega
theorem zL_ok {p : Int} : sOk (zL p) := by
  cases p with
  | ofNat n =>
    rw [show zL (Int.ofNat n) = numL n from zL_nat n]
    exact figs_ok (figs_numL n)
  | negSucc n =>
    rw [zL_neg]
    intro c hc
    rcases List.mem_cons.mp hc with rfl | hc
    · decide
    · exact figs_ok (figs_numL (n + 1)) c hc
def figL (l : List Nat) : List Nat := if l.take 1 = [45] then l.drop 1 else l
/-- the whole number that a word writes -/
def numS (most : Nat) (l : List Nat) : Option Int :=
  if (1 ≤ (figL l).length ∧ (figL l).length ≤ most) ∧ figs (figL l) = true then
    if (figL l).take 1 = [48] ∧ l ≠ [48] then none
    else some (if l.take 1 = [45] then -((NumText.digitsVal (figL l) : Nat) : Int) else ((NumText.digitsVal (figL l) : Nat) : Int))
  else none
theorem intT {l : List Nat} {most : Nat} {n : Int} (h : numS most l = some n) (hm : most ≤ 600) : intText? (tS l) = some n ∧ l.length ≤ 601 := by
  unfold numS at h
  split at h
  · rename_i hc
    split at h
    · cases h
    · injection h with h
      subst h
      unfold figL at hc ⊢
      split
      · rename_i h45
        rw [if_pos h45] at hc
        obtain ⟨r, rfl⟩ : ∃ r, l = 45 :: r := by
          cases l with
          | nil => cases h45
          | cons c r =>
            injection h45 with h1 _
            exact ⟨r, by rw [h1]⟩
        have hc : (1 ≤ r.length ∧ r.length ≤ most) ∧ figs r = true := hc
        refine ⟨intText_neg (x := tS (45 :: r)) (cs := r) rfl (figs_all hc.2) (fun e => by rw [e] at hc; simp at hc) (by rw [tS_len]; show r.length + 1 ≤ 4300; omega), by show r.length + 1 ≤ 601; omega⟩
      · rename_i h45
        rw [if_neg h45] at hc
        exact ⟨intText_digits (x := tS l) (figs_all hc.2) (fun e => by rw [show l = [] from e] at hc; simp at hc) (by rw [tS_len]; omega), by omega⟩
  · cases h
theorem numS_ok {l : List Nat} {most : Nat} {n : Int} (h : numS most l = some n) : sOk l := by
  unfold numS at h
  split at h
  · rename_i hc
    unfold figL at hc
    split at hc
    · rename_i h45
      intro c hm
      cases l with
      | nil => cases hm
      | cons d r =>
        injection h45 with h1 _
        rcases List.mem_cons.mp hm with rfl | hm
        · omega
        · exact figs_ok hc.2 c hm
    · exact figs_ok hc.2
  · cases h
theorem numS_zL {p : Int} (h : p.natAbs < 10 ^ 30) : numS 30 (zL p) = some p := by
  cases p with
  | ofNat n =>
    rw [show zL (Int.ofNat n) = numL n from zL_nat n]
    have h45 : ¬ (numL n).take 1 = [45] := by
      intro e
      cases e2 : numL n with
      | nil => exact absurd e2 (numL_ne _)
      | cons c r =>
        rw [e2] at e
        injection e with e _
        have := numL_digits n c (by rw [e2]; exact List.mem_cons_self)
        omega
    have hf : figL (numL n) = numL n := if_neg h45
    unfold numS
    rw [hf, if_pos ⟨⟨Nat.pos_of_ne_zero fun e => numL_ne n (List.length_eq_zero_iff.mp e), numL_len (by decide) h⟩, figs_numL n⟩, if_neg (by
      rintro ⟨h1, h2⟩
      cases e2 : numL n with
      | nil => exact absurd e2 (numL_ne _)
      | cons c r =>
        rw [e2] at h1
        injection h1 with h1 _
        obtain ⟨_, z⟩ := numL_head n c r e2 h1
        rw [e2, h1, z] at h2
        exact h2 rfl), if_neg h45, numL_val]
    rfl
  | negSucc n =>
    rw [zL_neg]
    have hf : figL (45 :: numL (n + 1)) = numL (n + 1) := if_pos rfl
    unfold numS
    rw [hf, if_pos ⟨⟨Nat.pos_of_ne_zero fun e => numL_ne _ (List.length_eq_zero_iff.mp e), numL_len (by decide) h⟩, figs_numL _⟩, if_neg (by
      rintro ⟨h1, _⟩
      cases e2 : numL (n + 1) with
      | nil => exact absurd e2 (numL_ne _)
      | cons c r =>
        rw [e2] at h1
        injection h1 with h1 _
        obtain ⟨z, _⟩ := numL_head _ c r e2 h1
        omega)]
    show some (-((digitsVal (numL (n + 1)) : Nat) : Int)) = _
    rw [numL_val]
    rfl
theorem cut_1 {l : List Nat} : cutS (tS l) none (some 1) = tS (l.take 1) := by
  have : HT.sIx l.length l.length (some 1) = min 1 l.length := rfl
  refine ext_tl ?_
  show (l.drop 0).take (HT.sIx (tS l).length (tS l).length (some 1) - 0) = l.take 1
  rw [tS_len, this, List.drop_zero, Nat.sub_zero]
  cases l with
  | nil => rfl
  | cons c r => rw [Nat.min_eq_left (by show 1 ≤ r.length + 1; omega)]
theorem cut_r {l : List Nat} : cutS (tS l) (some 1) none = tS (l.drop 1) := by
  have e : HT.sIx l.length 0 (some 1) = min 1 l.length := rfl
  refine ext_tl ?_
  show (l.drop (HT.sIx (tS l).length 0 (some 1))).take ((tS l).length - HT.sIx (tS l).length 0 (some 1)) = l.drop 1
  rw [tS_len, e]
  cases l with
  | nil => rfl
  | cons c r =>
    rw [Nat.min_eq_left (by show 1 ≤ r.length + 1; omega)]
    show r.take (r.length + 1 - 1) = r
    rw [Nat.add_sub_cancel, List.take_length]
theorem sl_1 {l : List Nat} (h : l.length ≤ 1000000) : gSl (.str (tS l)) none (some 1) = some (.sh (.str (tS (l.take 1)))) := by
  show (if (tS l).length ≤ 1000000 then some (SV.sh (.str (cutS (tS l) none (some 1)))) else none) = _
  rw [if_pos (by rw [tS_len]; exact h), cut_1]
theorem sl_r {l : List Nat} (h : l.length ≤ 1000000) : gSl (.str (tS l)) (some 1) none = some (.sh (.str (tS (l.drop 1)))) := by
  show (if (tS l).length ≤ 1000000 then some (SV.sh (.str (cutS (tS l) (some 1) none))) else none) = _
  rw [if_pos (by rw [tS_len]; exact h), cut_r]
theorem lit_minus : ("-" : Str) = tS [45] := ext_tl (by rw [tl_ofString]; rfl)
theorem lit_0 : ("0" : Str) = tS [48] := ext_tl (by rw [tl_ofString]; rfl)
theorem lit_sl : ("/" : Str) = tS [47] := ext_tl (by rw [tl_ofString]; rfl)
theorem lit_figs : ("0123456789" : Str) = tS [48, 49, 50, 51, 52, 53, 54, 55, 56, 57] := ext_tl (by rw [tl_ofString]; rfl)
theorem in_figs {c : Nat} : gInS true (.str (tS [c])) (.str (tS [48, 49, 50, 51, 52, 53, 54, 55, 56, 57])) = some (.sh (.bl (!(decide (48 ≤ c) && decide (c ≤ 57))))) := by
  show some (SV.sh (.bl (true ^^ decide (c ∈ [48, 49, 50, 51, 52, 53, 54, 55, 56, 57])))) = _
  have : decide (c ∈ [48, 49, 50, 51, 52, 53, 54, 55, 56, 57]) = (decide (48 ≤ c) && decide (c ≤ 57)) := by
    rw [← Bool.decide_and]
    refine decide_eq_decide.mpr ?_
    simp only [List.mem_cons, List.not_mem_nil, or_false]
    omega
  rw [this, Bool.true_xor]
theorem len_str {l : List Nat} (h : l.length ≤ 1000000) : gLen [.str (tS l)] = some (.sh (.int (l.length : Int))) := by
  show (if (tS l).length ≤ 1000000 then some (SV.sh (.int ((tS l).length : Nat))) else none) = _
  rw [if_pos (by rw [tS_len]; exact h), tS_len]
theorem ix_str {c : Nat} {r : List Nat} (h : (c :: r).length ≤ 1000000) : gIx (.str (tS (c :: r))) (.int 0) = some (.sh (.str (tS [c]))) := by
  show (if (tS (c :: r)).length ≤ 1000000 then (atI (c :: r) 0).map (fun c => SV.sh (.str ⟨#[c]⟩)) else none) = _
  rw [if_pos (by rw [tS_len]; exact h), atI_0]
  rfl
theorem sg_tS (l : List Nat) : signD (tS l) = l.map fun c => D.str (tS [c]) := rfl
/-! read_number, read_place, show_place -/
theorem lc_fig {s0 s1 : Option SV} {F : List Nat} (hF : F.length ≤ 1000000) : vLc [3] (iSg (oOf (vVar 2))) (gN 3) lc_read_number_1 le_read_number_1 [s0, s1, some (.sh (.str (tS F))), none] = some (.ok (.fr ((F.filter fun c => !(decide (48 ≤ c) && decide (c ≤ 57))).map fun c => D.str (tS [c]))) [s0, s1, some (.sh (.str (tS F))), none]) := by
  have hi : iSg (oOf (vVar 2)) [s0, s1, some (.sh (.str (tS F))), none] = some (.ok ⟨signD (tS F), []⟩ [s0, s1, some (.sh (.str (tS F))), none]) := by
    simp -implicitDefEqProofs only [e_seq, k_seq1, k_seq2, k_seq3, k_seq4, k_seq5, e_ex, k_ex1, k_ex2, e_bnd, k_bn1, k_bn2, e_ret, e_nx, e_bk, e_ct, e_c, e_var, k_var1, k_var2, e_mv, k_mv1, k_mv2, e_pk, k_pk, e_get1, e_get2, k_sd1, k_sd2, e_gets1, e_gets2, k_gs, e_vals1, e_vals2, e_oOf, e_d1, e_d2, e_an, e_ac, e_op1, e_op2, e_bi, e_l1, k_l1, e_l2, k_l2, e_lA, k_lA, k_ok, e_tst, k_ts1, k_ts2, e_tand, e_tor, e_tnot, e_vand, e_vor, e_vnot, e_vif, e_iteT, e_iteF, e_tup, k_tp, e_lst, k_ls, e_is, e_call, e_callM, k_cl, k_rs, e_if, e_sret, e_sretN, e_drop, e_asg, k_nx, e_gN, e_gT, e_gLs1, e_gLs2, e_gsN, e_gsC, e_par, e_run, k_ru1, k_ru2, k_ru3, e_out1, e_out2, k_os, e_start, e_stl1, e_stl2, e_fro, e_isFr, k_fr1, k_fr2, e_ioOk1, e_ioOk2, k_ioOk, e_noBr, e_ios1, e_ios2, e_brs1, e_brs2, e_brs3, e_brs4, e_brs5, e_dec1, e_dec2, e_dec3, e_put1, k_put, e_put2, e_outOf1, e_outOf2, e_guard, e_setIx, e_stK, k_stI, e_mt, e_mtK, k_app, k_ext, k_rvs, k_pop, e_chain, e_for, e_forL1, k_turn1, k_turn2, k_turn3, k_turn4, k_turn5, e_R1, k_R1, e_R2, k_R2, e_iLs, k_it, e_iTp, k_tI, e_lsV, e_lsS, k_ls1, k_ls2, k_ls3, e_iZp, e_iEn, e_iRv, e_iSg, k_jSg, e_jZp, k_zp, e_jEn, e_jRev, e_sl, e_pNo, e_pIn, k_pn, e_slL, cut_1, isLst_lst, isLst_tup, isLst_int, e_eqI, e_neI, e_eqB, e_neB, gStr_ok, isInt_int, isInt_bl, isInt_str, isInt_non, isInt_tup, isInt_lst, isBl_int, isBl_bl, isBl_tup, isTup_int, isTup_bl, isTup_str, isTup_non, isTup_tup, isTup_lst, e_sub, e_add, e_addL, e_neg, e_cmp, e_ixL, e_ixT, e_ixS, e_abs, e_max, e_max4, e_min, e_intI, e_intB, e_lenL, e_lenT, e_lenS, e_isT1, e_isT2, e_isT3, e_isTL1, e_isTL2, e_resT1, e_resT2, shL, e_mp, e_mpN, e_mpF, k_mf, k_ck, ckL_1, ckS_1, e_revL, e_gRv, e_iR3, e_jR3, k_R3, isN_1, isN_2, e_callF, k_callF, k_cf, gIs_non, gIs_bl, gIs_int, gIs_str, gIs_tup, gIs_lst, gIs_scr, e_meth, e_mtO, k_isOb, e_mtC, k_okO, e_mk, k_mk, k_mkQ, e_mkE, k_mkE, k_mkR1, k_mkR2, k_fld, e_d3, e_d4, e_d5, k_var3, k_var4, k_var5, k_mv3, k_sd3, k_sd4, k_sd5, e_isOw, k_ow1, k_ow2, e_resOk, e_resL1, e_resL2, e_noBrL, e_isL1, e_isL2, e_isL3, e_isL4, e_isL5, e_isL6, e_isLL1, e_isLL2, k_fr3, k_fr4, k_fr5, e_dnK, e_dnT, e_dputT, e_dputK, e_isDt, e_isDk, k_isDt, k_isDk, e_dtK2, e_dpK, k_dtI, k_dkI, e_keyI, e_keyS, e_inK, e_dxK, e_inT, e_dxT, e_intL2, List.getElem?_cons_zero, List.getElem?_cons_succ, List.getElem?_nil, List.set_cons_zero, List.set_cons_succ, List.length_cons, List.length_nil, List.map_cons, List.map_nil, List.nil_append, List.cons_append, List.replicate_succ, List.replicate_zero, List.all_nil, List.all_cons, List.contains_nil, List.contains_cons, Option.map_some, Option.map_none, Option.bind_some, Option.bind_none, Bool.and_true, Bool.true_and, Bool.and_false, Bool.false_and, Bool.or_true, Bool.true_or, Bool.or_false, Bool.false_or, Bool.not_true, Bool.not_false, Bool.not_not, Nat.zero_add, Nat.reduceAdd, Nat.reduceSub, Nat.reduceLT, Nat.reduceLeDiff, Nat.reduceEqDiff, reduceIte, if_true, if_false, atI_0, atI_1, atI_2, atI_3, gMul_ok, gMod_pos, gDiv_pos, true_and, and_true, and_self, Nat.reduceBEq, Nat.reduceBNe, beq_self_eq_true, decide_true, decide_false, not_false_iff, not_true, ne_eq, gt_iff_lt, ge_iff_le, Int.reduceEq, Int.reduceNe, Int.reduceLT, Int.reduceLE, Int.cast_ofNat_Int, Int.natCast_one, Int.natCast_zero, reduceCtorEq, Bool.false_eq_true, eq_self]
  have e := vLc_sh (vs := [3]) (g := gN 3) (c := lc_read_number_1) (elt := le_read_number_1) (p := fun d => match d with | .str s => (match tl s with | [c] => !(decide (48 ≤ c) && decide (c ≤ 57)) | _ => false) | _ => false) (f := fun d => d) hi (noFr_1 rfl (fun c h => nomatch h)) (fun d hd => by
      rw [sg_tS] at hd
      obtain ⟨c, hc, rfl⟩ := List.mem_map.mp hd
      refine ⟨[s0, s1, some (.sh (.str (tS F))), some (.sh (.str (tS [c])))], rfl, rfl, rfl, ?_, fun _ => ?_⟩
      · show _ = some (Out.ok (!(decide (48 ≤ c) && decide (c ≤ 57))) _)
        unfold lc_read_number_1
        simp -implicitDefEqProofs only [e_seq, k_seq1, k_seq2, k_seq3, k_seq4, k_seq5, e_ex, k_ex1, k_ex2, e_bnd, k_bn1, k_bn2, e_ret, e_nx, e_bk, e_ct, e_c, e_var, k_var1, k_var2, e_mv, k_mv1, k_mv2, e_pk, k_pk, e_get1, e_get2, k_sd1, k_sd2, e_gets1, e_gets2, k_gs, e_vals1, e_vals2, e_oOf, e_d1, e_d2, e_an, e_ac, e_op1, e_op2, e_bi, e_l1, k_l1, e_l2, k_l2, e_lA, k_lA, k_ok, e_tst, k_ts1, k_ts2, e_tand, e_tor, e_tnot, e_vand, e_vor, e_vnot, e_vif, e_iteT, e_iteF, e_tup, k_tp, e_lst, k_ls, e_is, e_call, e_callM, k_cl, k_rs, e_if, e_sret, e_sretN, e_drop, e_asg, k_nx, e_gN, e_gT, e_gLs1, e_gLs2, e_gsN, e_gsC, e_par, e_run, k_ru1, k_ru2, k_ru3, e_out1, e_out2, k_os, e_start, e_stl1, e_stl2, e_fro, e_isFr, k_fr1, k_fr2, e_ioOk1, e_ioOk2, k_ioOk, e_noBr, e_ios1, e_ios2, e_brs1, e_brs2, e_brs3, e_brs4, e_brs5, e_dec1, e_dec2, e_dec3, e_put1, k_put, e_put2, e_outOf1, e_outOf2, e_guard, e_setIx, e_stK, k_stI, e_mt, e_mtK, k_app, k_ext, k_rvs, k_pop, e_chain, e_for, e_forL1, k_turn1, k_turn2, k_turn3, k_turn4, k_turn5, e_R1, k_R1, e_R2, k_R2, e_iLs, k_it, e_iTp, k_tI, e_lsV, e_lsS, k_ls1, k_ls2, k_ls3, e_iZp, e_iEn, e_iRv, e_iSg, k_jSg, e_jZp, k_zp, e_jEn, e_jRev, e_sl, e_pNo, e_pIn, k_pn, e_slL, cut_1, isLst_lst, isLst_tup, isLst_int, e_eqI, e_neI, e_eqB, e_neB, gStr_ok, isInt_int, isInt_bl, isInt_str, isInt_non, isInt_tup, isInt_lst, isBl_int, isBl_bl, isBl_tup, isTup_int, isTup_bl, isTup_str, isTup_non, isTup_tup, isTup_lst, e_sub, e_add, e_addL, e_neg, e_cmp, e_ixL, e_ixT, e_ixS, e_abs, e_max, e_max4, e_min, e_intI, e_intB, e_lenL, e_lenT, e_lenS, e_isT1, e_isT2, e_isT3, e_isTL1, e_isTL2, e_resT1, e_resT2, shL, e_mp, e_mpN, e_mpF, k_mf, k_ck, ckL_1, ckS_1, e_revL, e_gRv, e_iR3, e_jR3, k_R3, isN_1, isN_2, e_callF, k_callF, k_cf, gIs_non, gIs_bl, gIs_int, gIs_str, gIs_tup, gIs_lst, gIs_scr, e_meth, e_mtO, k_isOb, e_mtC, k_okO, e_mk, k_mk, k_mkQ, e_mkE, k_mkE, k_mkR1, k_mkR2, k_fld, e_d3, e_d4, e_d5, k_var3, k_var4, k_var5, k_mv3, k_sd3, k_sd4, k_sd5, e_isOw, k_ow1, k_ow2, e_resOk, e_resL1, e_resL2, e_noBrL, e_isL1, e_isL2, e_isL3, e_isL4, e_isL5, e_isL6, e_isLL1, e_isLL2, k_fr3, k_fr4, k_fr5, e_dnK, e_dnT, e_dputT, e_dputK, e_isDt, e_isDk, k_isDt, k_isDk, e_dtK2, e_dpK, k_dtI, k_dkI, e_keyI, e_keyS, e_inK, e_dxK, e_inT, e_dxT, e_intL2, List.getElem?_cons_zero, List.getElem?_cons_succ, List.getElem?_nil, List.set_cons_zero, List.set_cons_succ, List.length_cons, List.length_nil, List.map_cons, List.map_nil, List.nil_append, List.cons_append, List.replicate_succ, List.replicate_zero, List.all_nil, List.all_cons, List.contains_nil, List.contains_cons, Option.map_some, Option.map_none, Option.bind_some, Option.bind_none, Bool.and_true, Bool.true_and, Bool.and_false, Bool.false_and, Bool.or_true, Bool.true_or, Bool.or_false, Bool.false_or, Bool.not_true, Bool.not_false, Bool.not_not, Nat.zero_add, Nat.reduceAdd, Nat.reduceSub, Nat.reduceLT, Nat.reduceLeDiff, Nat.reduceEqDiff, reduceIte, if_true, if_false, atI_0, atI_1, atI_2, atI_3, gMul_ok, gMod_pos, gDiv_pos, true_and, and_true, and_self, Nat.reduceBEq, Nat.reduceBNe, beq_self_eq_true, decide_true, decide_false, not_false_iff, not_true, ne_eq, gt_iff_lt, ge_iff_le, Int.reduceEq, Int.reduceNe, Int.reduceLT, Int.reduceLE, Int.cast_ofNat_Int, Int.natCast_one, Int.natCast_zero, reduceCtorEq, Bool.false_eq_true, eq_self, lit_figs, in_figs]
      · unfold le_read_number_1
        simp -implicitDefEqProofs only [e_seq, k_seq1, k_seq2, k_seq3, k_seq4, k_seq5, e_ex, k_ex1, k_ex2, e_bnd, k_bn1, k_bn2, e_ret, e_nx, e_bk, e_ct, e_c, e_var, k_var1, k_var2, e_mv, k_mv1, k_mv2, e_pk, k_pk, e_get1, e_get2, k_sd1, k_sd2, e_gets1, e_gets2, k_gs, e_vals1, e_vals2, e_oOf, e_d1, e_d2, e_an, e_ac, e_op1, e_op2, e_bi, e_l1, k_l1, e_l2, k_l2, e_lA, k_lA, k_ok, e_tst, k_ts1, k_ts2, e_tand, e_tor, e_tnot, e_vand, e_vor, e_vnot, e_vif, e_iteT, e_iteF, e_tup, k_tp, e_lst, k_ls, e_is, e_call, e_callM, k_cl, k_rs, e_if, e_sret, e_sretN, e_drop, e_asg, k_nx, e_gN, e_gT, e_gLs1, e_gLs2, e_gsN, e_gsC, e_par, e_run, k_ru1, k_ru2, k_ru3, e_out1, e_out2, k_os, e_start, e_stl1, e_stl2, e_fro, e_isFr, k_fr1, k_fr2, e_ioOk1, e_ioOk2, k_ioOk, e_noBr, e_ios1, e_ios2, e_brs1, e_brs2, e_brs3, e_brs4, e_brs5, e_dec1, e_dec2, e_dec3, e_put1, k_put, e_put2, e_outOf1, e_outOf2, e_guard, e_setIx, e_stK, k_stI, e_mt, e_mtK, k_app, k_ext, k_rvs, k_pop, e_chain, e_for, e_forL1, k_turn1, k_turn2, k_turn3, k_turn4, k_turn5, e_R1, k_R1, e_R2, k_R2, e_iLs, k_it, e_iTp, k_tI, e_lsV, e_lsS, k_ls1, k_ls2, k_ls3, e_iZp, e_iEn, e_iRv, e_iSg, k_jSg, e_jZp, k_zp, e_jEn, e_jRev, e_sl, e_pNo, e_pIn, k_pn, e_slL, cut_1, isLst_lst, isLst_tup, isLst_int, e_eqI, e_neI, e_eqB, e_neB, gStr_ok, isInt_int, isInt_bl, isInt_str, isInt_non, isInt_tup, isInt_lst, isBl_int, isBl_bl, isBl_tup, isTup_int, isTup_bl, isTup_str, isTup_non, isTup_tup, isTup_lst, e_sub, e_add, e_addL, e_neg, e_cmp, e_ixL, e_ixT, e_ixS, e_abs, e_max, e_max4, e_min, e_intI, e_intB, e_lenL, e_lenT, e_lenS, e_isT1, e_isT2, e_isT3, e_isTL1, e_isTL2, e_resT1, e_resT2, shL, e_mp, e_mpN, e_mpF, k_mf, k_ck, ckL_1, ckS_1, e_revL, e_gRv, e_iR3, e_jR3, k_R3, isN_1, isN_2, e_callF, k_callF, k_cf, gIs_non, gIs_bl, gIs_int, gIs_str, gIs_tup, gIs_lst, gIs_scr, e_meth, e_mtO, k_isOb, e_mtC, k_okO, e_mk, k_mk, k_mkQ, e_mkE, k_mkE, k_mkR1, k_mkR2, k_fld, e_d3, e_d4, e_d5, k_var3, k_var4, k_var5, k_mv3, k_sd3, k_sd4, k_sd5, e_isOw, k_ow1, k_ow2, e_resOk, e_resL1, e_resL2, e_noBrL, e_isL1, e_isL2, e_isL3, e_isL4, e_isL5, e_isL6, e_isLL1, e_isLL2, k_fr3, k_fr4, k_fr5, e_dnK, e_dnT, e_dputT, e_dputK, e_isDt, e_isDk, k_isDt, k_isDk, e_dtK2, e_dpK, k_dtI, k_dkI, e_keyI, e_keyS, e_inK, e_dxK, e_inT, e_dxT, e_intL2, List.getElem?_cons_zero, List.getElem?_cons_succ, List.getElem?_nil, List.set_cons_zero, List.set_cons_succ, List.length_cons, List.length_nil, List.map_cons, List.map_nil, List.nil_append, List.cons_append, List.replicate_succ, List.replicate_zero, List.all_nil, List.all_cons, List.contains_nil, List.contains_cons, Option.map_some, Option.map_none, Option.bind_some, Option.bind_none, Bool.and_true, Bool.true_and, Bool.and_false, Bool.false_and, Bool.or_true, Bool.true_or, Bool.or_false, Bool.false_or, Bool.not_true, Bool.not_false, Bool.not_not, Nat.zero_add, Nat.reduceAdd, Nat.reduceSub, Nat.reduceLT, Nat.reduceLeDiff, Nat.reduceEqDiff, reduceIte, if_true, if_false, atI_0, atI_1, atI_2, atI_3, gMul_ok, gMod_pos, gDiv_pos, true_and, and_true, and_self, Nat.reduceBEq, Nat.reduceBNe, beq_self_eq_true, decide_true, decide_false, not_false_iff, not_true, ne_eq, gt_iff_lt, ge_iff_le, Int.reduceEq, Int.reduceNe, Int.reduceLT, Int.reduceLE, Int.cast_ofNat_Int, Int.natCast_one, Int.natCast_zero, reduceCtorEq, Bool.false_eq_true, eq_self]) (by rw [sg_tS, List.length_map]; exact hF)
  rw [e, sg_tS, List.map_id', List.filter_map]
  rfl
theorem ne_nil0 : gNe (.lst []) (.lst []) = some (.sh (.bl false)) := rfl
theorem fig_filter {F : List Nat} (h : figs F = true) : (F.filter fun c => !(decide (48 ≤ c) && decide (c ≤ 57))) = [] := List.filter_eq_nil_iff.mpr fun c hc => by
  rw [List.all_eq_true.mp h c hc]
  decide
theorem read_num {l : List Nat} {n : Int} (h : numS 30 l = some n) : phi_read_number [.str (tS l), .int 30] = some (.ret (.sh (.int n)) []) := by
  obtain ⟨e1, e2⟩ := intT h (by decide)
  have hs := numS_ok h
  have hl : l.length ≤ 1000000 := by omega
  have ei : gIntS [.str (tS l)] = some (.sh (.int n)) := e_intS (by rw [tS_len]; omega) e1
  have s45 : sOk [45] := sOk_lit rfl
  have s48 : sOk [48] := sOk_lit rfl
  unfold numS at h
  split at h
  · rename_i hc
    split at h
    · cases h
    · rename_i h0
      clear h
      have hF : (figL l).length ≤ 1000000 := by omega
      have lc := @lc_fig (some (.sh (.str (tS l)))) (some (.sh (.int 30))) (figL l) hF
      rw [fig_filter hc.2, List.map_nil] at lc
      obtain ⟨k, ln, k1, k2⟩ : ∃ k : Int, gLen [.str (tS (figL l))] = some (.sh (.int k)) ∧ decide (1 ≤ k) = true ∧ decide (k ≤ 30) = true := ⟨_, len_str hF, decide_eq_true (by omega), decide_eq_true (by omega)⟩
      obtain ⟨c, r, ec⟩ : ∃ c r, figL l = c :: r := by
        cases e : figL l with
        | nil => rw [e] at hc; simp at hc
        | cons c r => exact ⟨c, r, rfl⟩
      have ix := @ix_str c r (by rw [← ec]; exact hF)
      rw [ec, List.take_succ_cons, List.take_zero] at h0
      have sc : sOk [c] := (sOk_cons (ec ▸ figs_ok hc.2 : sOk (c :: r))).1
      have q1 := eq_tS (sOk_take (n := 1) hs) s45
      have q2 := eq_tS sc s48
      have q3 := ne_tS hs s48
      have hk : (decide ([c] = [48]) && !decide (l = [48])) = false := by
        by_cases a : [c] = [48]
        · by_cases b : l = [48]
          · rw [decide_eq_true b]
            exact Bool.and_false _
          · exact absurd ⟨a, b⟩ h0
        · rw [decide_eq_false a]
          rfl
      generalize hA : decide ([c] = [48]) = A at hk q2
      generalize hB : (!decide (l = [48])) = B at hk q3
      generalize hG : tS (figL l) = G at lc ln
      rw [ec] at hG
      rw [hG] at ix
      have fg : tS (if l.take 1 = [45] then l.drop 1 else l) = G := by
        rw [← hG, ← ec]
        rfl
      have s1 := sl_1 hl
      have s2 := sl_r hl
      generalize hD : decide (l.take 1 = [45]) = D at q1
      generalize tS (l.take 1) = T at s1 q1
      unfold phi_read_number b_read_number
      cases D with
      | true =>
        rw [if_pos (of_decide_eq_true hD)] at fg
        rw [fg] at s2
        cases A with
        | true =>
          rw [Bool.true_and] at hk
          subst hk
          simp -implicitDefEqProofs only [e_seq, k_seq1, k_seq2, k_seq3, k_seq4, k_seq5, e_ex, k_ex1, k_ex2, e_bnd, k_bn1, k_bn2, e_ret, e_nx, e_bk, e_ct, e_c, e_var, k_var1, k_var2, e_mv, k_mv1, k_mv2, e_pk, k_pk, e_get1, e_get2, k_sd1, k_sd2, e_gets1, e_gets2, k_gs, e_vals1, e_vals2, e_oOf, e_d1, e_d2, e_an, e_ac, e_op1, e_op2, e_bi, e_l1, k_l1, e_l2, k_l2, e_lA, k_lA, k_ok, e_tst, k_ts1, k_ts2, e_tand, e_tor, e_tnot, e_vand, e_vor, e_vnot, e_vif, e_iteT, e_iteF, e_tup, k_tp, e_lst, k_ls, e_is, e_call, e_callM, k_cl, k_rs, e_if, e_sret, e_sretN, e_drop, e_asg, k_nx, e_gN, e_gT, e_gLs1, e_gLs2, e_gsN, e_gsC, e_par, e_run, k_ru1, k_ru2, k_ru3, e_out1, e_out2, k_os, e_start, e_stl1, e_stl2, e_fro, e_isFr, k_fr1, k_fr2, e_ioOk1, e_ioOk2, k_ioOk, e_noBr, e_ios1, e_ios2, e_brs1, e_brs2, e_brs3, e_brs4, e_brs5, e_dec1, e_dec2, e_dec3, e_put1, k_put, e_put2, e_outOf1, e_outOf2, e_guard, e_setIx, e_stK, k_stI, e_mt, e_mtK, k_app, k_ext, k_rvs, k_pop, e_chain, e_for, e_forL1, k_turn1, k_turn2, k_turn3, k_turn4, k_turn5, e_R1, k_R1, e_R2, k_R2, e_iLs, k_it, e_iTp, k_tI, e_lsV, e_lsS, k_ls1, k_ls2, k_ls3, e_iZp, e_iEn, e_iRv, e_iSg, k_jSg, e_jZp, k_zp, e_jEn, e_jRev, e_sl, e_pNo, e_pIn, k_pn, e_slL, cut_1, isLst_lst, isLst_tup, isLst_int, e_eqI, e_neI, e_eqB, e_neB, gStr_ok, isInt_int, isInt_bl, isInt_str, isInt_non, isInt_tup, isInt_lst, isBl_int, isBl_bl, isBl_tup, isTup_int, isTup_bl, isTup_str, isTup_non, isTup_tup, isTup_lst, e_sub, e_add, e_addL, e_neg, e_cmp, e_ixL, e_ixT, e_ixS, e_abs, e_max, e_max4, e_min, e_intI, e_intB, e_lenL, e_lenT, e_lenS, e_isT1, e_isT2, e_isT3, e_isTL1, e_isTL2, e_resT1, e_resT2, shL, e_mp, e_mpN, e_mpF, k_mf, k_ck, ckL_1, ckS_1, e_revL, e_gRv, e_iR3, e_jR3, k_R3, isN_1, isN_2, e_callF, k_callF, k_cf, gIs_non, gIs_bl, gIs_int, gIs_str, gIs_tup, gIs_lst, gIs_scr, e_meth, e_mtO, k_isOb, e_mtC, k_okO, e_mk, k_mk, k_mkQ, e_mkE, k_mkE, k_mkR1, k_mkR2, k_fld, e_d3, e_d4, e_d5, k_var3, k_var4, k_var5, k_mv3, k_sd3, k_sd4, k_sd5, e_isOw, k_ow1, k_ow2, e_resOk, e_resL1, e_resL2, e_noBrL, e_isL1, e_isL2, e_isL3, e_isL4, e_isL5, e_isL6, e_isLL1, e_isLL2, k_fr3, k_fr4, k_fr5, e_dnK, e_dnT, e_dputT, e_dputK, e_isDt, e_isDk, k_isDt, k_isDk, e_dtK2, e_dpK, k_dtI, k_dkI, e_keyI, e_keyS, e_inK, e_dxK, e_inT, e_dxT, e_intL2, List.getElem?_cons_zero, List.getElem?_cons_succ, List.getElem?_nil, List.set_cons_zero, List.set_cons_succ, List.length_cons, List.length_nil, List.map_cons, List.map_nil, List.nil_append, List.cons_append, List.replicate_succ, List.replicate_zero, List.all_nil, List.all_cons, List.contains_nil, List.contains_cons, Option.map_some, Option.map_none, Option.bind_some, Option.bind_none, Bool.and_true, Bool.true_and, Bool.and_false, Bool.false_and, Bool.or_true, Bool.true_or, Bool.or_false, Bool.false_or, Bool.not_true, Bool.not_false, Bool.not_not, Nat.zero_add, Nat.reduceAdd, Nat.reduceSub, Nat.reduceLT, Nat.reduceLeDiff, Nat.reduceEqDiff, reduceIte, if_true, if_false, atI_0, atI_1, atI_2, atI_3, gMul_ok, gMod_pos, gDiv_pos, true_and, and_true, and_self, Nat.reduceBEq, Nat.reduceBNe, beq_self_eq_true, decide_true, decide_false, not_false_iff, not_true, ne_eq, gt_iff_lt, ge_iff_le, Int.reduceEq, Int.reduceNe, Int.reduceLT, Int.reduceLE, Int.cast_ofNat_Int, Int.natCast_one, Int.natCast_zero, reduceCtorEq, Bool.false_eq_true, eq_self, s1, s2, lit_minus, q1, ln, k1, k2, lc, ne_nil0, ix, lit_0, q2, q3, ei]
        | false => simp -implicitDefEqProofs only [e_seq, k_seq1, k_seq2, k_seq3, k_seq4, k_seq5, e_ex, k_ex1, k_ex2, e_bnd, k_bn1, k_bn2, e_ret, e_nx, e_bk, e_ct, e_c, e_var, k_var1, k_var2, e_mv, k_mv1, k_mv2, e_pk, k_pk, e_get1, e_get2, k_sd1, k_sd2, e_gets1, e_gets2, k_gs, e_vals1, e_vals2, e_oOf, e_d1, e_d2, e_an, e_ac, e_op1, e_op2, e_bi, e_l1, k_l1, e_l2, k_l2, e_lA, k_lA, k_ok, e_tst, k_ts1, k_ts2, e_tand, e_tor, e_tnot, e_vand, e_vor, e_vnot, e_vif, e_iteT, e_iteF, e_tup, k_tp, e_lst, k_ls, e_is, e_call, e_callM, k_cl, k_rs, e_if, e_sret, e_sretN, e_drop, e_asg, k_nx, e_gN, e_gT, e_gLs1, e_gLs2, e_gsN, e_gsC, e_par, e_run, k_ru1, k_ru2, k_ru3, e_out1, e_out2, k_os, e_start, e_stl1, e_stl2, e_fro, e_isFr, k_fr1, k_fr2, e_ioOk1, e_ioOk2, k_ioOk, e_noBr, e_ios1, e_ios2, e_brs1, e_brs2, e_brs3, e_brs4, e_brs5, e_dec1, e_dec2, e_dec3, e_put1, k_put, e_put2, e_outOf1, e_outOf2, e_guard, e_setIx, e_stK, k_stI, e_mt, e_mtK, k_app, k_ext, k_rvs, k_pop, e_chain, e_for, e_forL1, k_turn1, k_turn2, k_turn3, k_turn4, k_turn5, e_R1, k_R1, e_R2, k_R2, e_iLs, k_it, e_iTp, k_tI, e_lsV, e_lsS, k_ls1, k_ls2, k_ls3, e_iZp, e_iEn, e_iRv, e_iSg, k_jSg, e_jZp, k_zp, e_jEn, e_jRev, e_sl, e_pNo, e_pIn, k_pn, e_slL, cut_1, isLst_lst, isLst_tup, isLst_int, e_eqI, e_neI, e_eqB, e_neB, gStr_ok, isInt_int, isInt_bl, isInt_str, isInt_non, isInt_tup, isInt_lst, isBl_int, isBl_bl, isBl_tup, isTup_int, isTup_bl, isTup_str, isTup_non, isTup_tup, isTup_lst, e_sub, e_add, e_addL, e_neg, e_cmp, e_ixL, e_ixT, e_ixS, e_abs, e_max, e_max4, e_min, e_intI, e_intB, e_lenL, e_lenT, e_lenS, e_isT1, e_isT2, e_isT3, e_isTL1, e_isTL2, e_resT1, e_resT2, shL, e_mp, e_mpN, e_mpF, k_mf, k_ck, ckL_1, ckS_1, e_revL, e_gRv, e_iR3, e_jR3, k_R3, isN_1, isN_2, e_callF, k_callF, k_cf, gIs_non, gIs_bl, gIs_int, gIs_str, gIs_tup, gIs_lst, gIs_scr, e_meth, e_mtO, k_isOb, e_mtC, k_okO, e_mk, k_mk, k_mkQ, e_mkE, k_mkE, k_mkR1, k_mkR2, k_fld, e_d3, e_d4, e_d5, k_var3, k_var4, k_var5, k_mv3, k_sd3, k_sd4, k_sd5, e_isOw, k_ow1, k_ow2, e_resOk, e_resL1, e_resL2, e_noBrL, e_isL1, e_isL2, e_isL3, e_isL4, e_isL5, e_isL6, e_isLL1, e_isLL2, k_fr3, k_fr4, k_fr5, e_dnK, e_dnT, e_dputT, e_dputK, e_isDt, e_isDk, k_isDt, k_isDk, e_dtK2, e_dpK, k_dtI, k_dkI, e_keyI, e_keyS, e_inK, e_dxK, e_inT, e_dxT, e_intL2, List.getElem?_cons_zero, List.getElem?_cons_succ, List.getElem?_nil, List.set_cons_zero, List.set_cons_succ, List.length_cons, List.length_nil, List.map_cons, List.map_nil, List.nil_append, List.cons_append, List.replicate_succ, List.replicate_zero, List.all_nil, List.all_cons, List.contains_nil, List.contains_cons, Option.map_some, Option.map_none, Option.bind_some, Option.bind_none, Bool.and_true, Bool.true_and, Bool.and_false, Bool.false_and, Bool.or_true, Bool.true_or, Bool.or_false, Bool.false_or, Bool.not_true, Bool.not_false, Bool.not_not, Nat.zero_add, Nat.reduceAdd, Nat.reduceSub, Nat.reduceLT, Nat.reduceLeDiff, Nat.reduceEqDiff, reduceIte, if_true, if_false, atI_0, atI_1, atI_2, atI_3, gMul_ok, gMod_pos, gDiv_pos, true_and, and_true, and_self, Nat.reduceBEq, Nat.reduceBNe, beq_self_eq_true, decide_true, decide_false, not_false_iff, not_true, ne_eq, gt_iff_lt, ge_iff_le, Int.reduceEq, Int.reduceNe, Int.reduceLT, Int.reduceLE, Int.cast_ofNat_Int, Int.natCast_one, Int.natCast_zero, reduceCtorEq, Bool.false_eq_true, eq_self, s1, s2, lit_minus, q1, ln, k1, k2, lc, ne_nil0, ix, lit_0, q2, ei]
      | false =>
        rw [if_neg (of_decide_eq_false hD)] at fg
        subst fg
        cases A with
        | true =>
          rw [Bool.true_and] at hk
          subst hk
          simp -implicitDefEqProofs only [e_seq, k_seq1, k_seq2, k_seq3, k_seq4, k_seq5, e_ex, k_ex1, k_ex2, e_bnd, k_bn1, k_bn2, e_ret, e_nx, e_bk, e_ct, e_c, e_var, k_var1, k_var2, e_mv, k_mv1, k_mv2, e_pk, k_pk, e_get1, e_get2, k_sd1, k_sd2, e_gets1, e_gets2, k_gs, e_vals1, e_vals2, e_oOf, e_d1, e_d2, e_an, e_ac, e_op1, e_op2, e_bi, e_l1, k_l1, e_l2, k_l2, e_lA, k_lA, k_ok, e_tst, k_ts1, k_ts2, e_tand, e_tor, e_tnot, e_vand, e_vor, e_vnot, e_vif, e_iteT, e_iteF, e_tup, k_tp, e_lst, k_ls, e_is, e_call, e_callM, k_cl, k_rs, e_if, e_sret, e_sretN, e_drop, e_asg, k_nx, e_gN, e_gT, e_gLs1, e_gLs2, e_gsN, e_gsC, e_par, e_run, k_ru1, k_ru2, k_ru3, e_out1, e_out2, k_os, e_start, e_stl1, e_stl2, e_fro, e_isFr, k_fr1, k_fr2, e_ioOk1, e_ioOk2, k_ioOk, e_noBr, e_ios1, e_ios2, e_brs1, e_brs2, e_brs3, e_brs4, e_brs5, e_dec1, e_dec2, e_dec3, e_put1, k_put, e_put2, e_outOf1, e_outOf2, e_guard, e_setIx, e_stK, k_stI, e_mt, e_mtK, k_app, k_ext, k_rvs, k_pop, e_chain, e_for, e_forL1, k_turn1, k_turn2, k_turn3, k_turn4, k_turn5, e_R1, k_R1, e_R2, k_R2, e_iLs, k_it, e_iTp, k_tI, e_lsV, e_lsS, k_ls1, k_ls2, k_ls3, e_iZp, e_iEn, e_iRv, e_iSg, k_jSg, e_jZp, k_zp, e_jEn, e_jRev, e_sl, e_pNo, e_pIn, k_pn, e_slL, cut_1, isLst_lst, isLst_tup, isLst_int, e_eqI, e_neI, e_eqB, e_neB, gStr_ok, isInt_int, isInt_bl, isInt_str, isInt_non, isInt_tup, isInt_lst, isBl_int, isBl_bl, isBl_tup, isTup_int, isTup_bl, isTup_str, isTup_non, isTup_tup, isTup_lst, e_sub, e_add, e_addL, e_neg, e_cmp, e_ixL, e_ixT, e_ixS, e_abs, e_max, e_max4, e_min, e_intI, e_intB, e_lenL, e_lenT, e_lenS, e_isT1, e_isT2, e_isT3, e_isTL1, e_isTL2, e_resT1, e_resT2, shL, e_mp, e_mpN, e_mpF, k_mf, k_ck, ckL_1, ckS_1, e_revL, e_gRv, e_iR3, e_jR3, k_R3, isN_1, isN_2, e_callF, k_callF, k_cf, gIs_non, gIs_bl, gIs_int, gIs_str, gIs_tup, gIs_lst, gIs_scr, e_meth, e_mtO, k_isOb, e_mtC, k_okO, e_mk, k_mk, k_mkQ, e_mkE, k_mkE, k_mkR1, k_mkR2, k_fld, e_d3, e_d4, e_d5, k_var3, k_var4, k_var5, k_mv3, k_sd3, k_sd4, k_sd5, e_isOw, k_ow1, k_ow2, e_resOk, e_resL1, e_resL2, e_noBrL, e_isL1, e_isL2, e_isL3, e_isL4, e_isL5, e_isL6, e_isLL1, e_isLL2, k_fr3, k_fr4, k_fr5, e_dnK, e_dnT, e_dputT, e_dputK, e_isDt, e_isDk, k_isDt, k_isDk, e_dtK2, e_dpK, k_dtI, k_dkI, e_keyI, e_keyS, e_inK, e_dxK, e_inT, e_dxT, e_intL2, List.getElem?_cons_zero, List.getElem?_cons_succ, List.getElem?_nil, List.set_cons_zero, List.set_cons_succ, List.length_cons, List.length_nil, List.map_cons, List.map_nil, List.nil_append, List.cons_append, List.replicate_succ, List.replicate_zero, List.all_nil, List.all_cons, List.contains_nil, List.contains_cons, Option.map_some, Option.map_none, Option.bind_some, Option.bind_none, Bool.and_true, Bool.true_and, Bool.and_false, Bool.false_and, Bool.or_true, Bool.true_or, Bool.or_false, Bool.false_or, Bool.not_true, Bool.not_false, Bool.not_not, Nat.zero_add, Nat.reduceAdd, Nat.reduceSub, Nat.reduceLT, Nat.reduceLeDiff, Nat.reduceEqDiff, reduceIte, if_true, if_false, atI_0, atI_1, atI_2, atI_3, gMul_ok, gMod_pos, gDiv_pos, true_and, and_true, and_self, Nat.reduceBEq, Nat.reduceBNe, beq_self_eq_true, decide_true, decide_false, not_false_iff, not_true, ne_eq, gt_iff_lt, ge_iff_le, Int.reduceEq, Int.reduceNe, Int.reduceLT, Int.reduceLE, Int.cast_ofNat_Int, Int.natCast_one, Int.natCast_zero, reduceCtorEq, Bool.false_eq_true, eq_self, s1, lit_minus, q1, ln, k1, k2, lc, ne_nil0, ix, lit_0, q2, q3, ei]
        | false => simp -implicitDefEqProofs only [e_seq, k_seq1, k_seq2, k_seq3, k_seq4, k_seq5, e_ex, k_ex1, k_ex2, e_bnd, k_bn1, k_bn2, e_ret, e_nx, e_bk, e_ct, e_c, e_var, k_var1, k_var2, e_mv, k_mv1, k_mv2, e_pk, k_pk, e_get1, e_get2, k_sd1, k_sd2, e_gets1, e_gets2, k_gs, e_vals1, e_vals2, e_oOf, e_d1, e_d2, e_an, e_ac, e_op1, e_op2, e_bi, e_l1, k_l1, e_l2, k_l2, e_lA, k_lA, k_ok, e_tst, k_ts1, k_ts2, e_tand, e_tor, e_tnot, e_vand, e_vor, e_vnot, e_vif, e_iteT, e_iteF, e_tup, k_tp, e_lst, k_ls, e_is, e_call, e_callM, k_cl, k_rs, e_if, e_sret, e_sretN, e_drop, e_asg, k_nx, e_gN, e_gT, e_gLs1, e_gLs2, e_gsN, e_gsC, e_par, e_run, k_ru1, k_ru2, k_ru3, e_out1, e_out2, k_os, e_start, e_stl1, e_stl2, e_fro, e_isFr, k_fr1, k_fr2, e_ioOk1, e_ioOk2, k_ioOk, e_noBr, e_ios1, e_ios2, e_brs1, e_brs2, e_brs3, e_brs4, e_brs5, e_dec1, e_dec2, e_dec3, e_put1, k_put, e_put2, e_outOf1, e_outOf2, e_guard, e_setIx, e_stK, k_stI, e_mt, e_mtK, k_app, k_ext, k_rvs, k_pop, e_chain, e_for, e_forL1, k_turn1, k_turn2, k_turn3, k_turn4, k_turn5, e_R1, k_R1, e_R2, k_R2, e_iLs, k_it, e_iTp, k_tI, e_lsV, e_lsS, k_ls1, k_ls2, k_ls3, e_iZp, e_iEn, e_iRv, e_iSg, k_jSg, e_jZp, k_zp, e_jEn, e_jRev, e_sl, e_pNo, e_pIn, k_pn, e_slL, cut_1, isLst_lst, isLst_tup, isLst_int, e_eqI, e_neI, e_eqB, e_neB, gStr_ok, isInt_int, isInt_bl, isInt_str, isInt_non, isInt_tup, isInt_lst, isBl_int, isBl_bl, isBl_tup, isTup_int, isTup_bl, isTup_str, isTup_non, isTup_tup, isTup_lst, e_sub, e_add, e_addL, e_neg, e_cmp, e_ixL, e_ixT, e_ixS, e_abs, e_max, e_max4, e_min, e_intI, e_intB, e_lenL, e_lenT, e_lenS, e_isT1, e_isT2, e_isT3, e_isTL1, e_isTL2, e_resT1, e_resT2, shL, e_mp, e_mpN, e_mpF, k_mf, k_ck, ckL_1, ckS_1, e_revL, e_gRv, e_iR3, e_jR3, k_R3, isN_1, isN_2, e_callF, k_callF, k_cf, gIs_non, gIs_bl, gIs_int, gIs_str, gIs_tup, gIs_lst, gIs_scr, e_meth, e_mtO, k_isOb, e_mtC, k_okO, e_mk, k_mk, k_mkQ, e_mkE, k_mkE, k_mkR1, k_mkR2, k_fld, e_d3, e_d4, e_d5, k_var3, k_var4, k_var5, k_mv3, k_sd3, k_sd4, k_sd5, e_isOw, k_ow1, k_ow2, e_resOk, e_resL1, e_resL2, e_noBrL, e_isL1, e_isL2, e_isL3, e_isL4, e_isL5, e_isL6, e_isLL1, e_isLL2, k_fr3, k_fr4, k_fr5, e_dnK, e_dnT, e_dputT, e_dputK, e_isDt, e_isDk, k_isDt, k_isDk, e_dtK2, e_dpK, k_dtI, k_dkI, e_keyI, e_keyS, e_inK, e_dxK, e_inT, e_dxT, e_intL2, List.getElem?_cons_zero, List.getElem?_cons_succ, List.getElem?_nil, List.set_cons_zero, List.set_cons_succ, List.length_cons, List.length_nil, List.map_cons, List.map_nil, List.nil_append, List.cons_append, List.replicate_succ, List.replicate_zero, List.all_nil, List.all_cons, List.contains_nil, List.contains_cons, Option.map_some, Option.map_none, Option.bind_some, Option.bind_none, Bool.and_true, Bool.true_and, Bool.and_false, Bool.false_and, Bool.or_true, Bool.true_or, Bool.or_false, Bool.false_or, Bool.not_true, Bool.not_false, Bool.not_not, Nat.zero_add, Nat.reduceAdd, Nat.reduceSub, Nat.reduceLT, Nat.reduceLeDiff, Nat.reduceEqDiff, reduceIte, if_true, if_false, atI_0, atI_1, atI_2, atI_3, gMul_ok, gMod_pos, gDiv_pos, true_and, and_true, and_self, Nat.reduceBEq, Nat.reduceBNe, beq_self_eq_true, decide_true, decide_false, not_false_iff, not_true, ne_eq, gt_iff_lt, ge_iff_le, Int.reduceEq, Int.reduceNe, Int.reduceLT, Int.reduceLE, Int.cast_ofNat_Int, Int.natCast_one, Int.natCast_zero, reduceCtorEq, Bool.false_eq_true, eq_self, s1, lit_minus, q1, ln, k1, k2, lc, ne_nil0, ix, lit_0, q2, ei]
  · cases h
theorem part_sl {a b : List Nat} (h : 47 ∉ a) (hl : a.length + b.length < 1000000) : gPartn (.str (tS (a ++ 47 :: b))) [.str "/"] = some (.sh (.tup [.str (tS a), .str (tS [47]), .str (tS b)])) := by
  have e : tS (a ++ 47 :: b) = tS a ++ tS [47] ++ tS b := by rw [tS_app, tS_app, List.append_assoc]; rfl
  rw [lit_sl, e_partn ⟨by rw [tS_len]; rfl, by rw [tS_len, List.length_append, List.length_cons]; omega⟩, e, partition_app (y := tS [47]) (s := 47) (S := []) rfl h]
theorem numS_len {l : List Nat} {n : Int} (h : numS 30 l = some n) : l.length ≤ 601 := (intT h (by decide)).2
theorem isStr_str {s : Str} : isStr (.str s) = true := rfl
/-- a place as it may be written -/
def PlOk (p q : Int) : Prop := 0 ≤ q ∧ Int.gcd p q = 1 ∧ (q = 0 → p = 1)
theorem read_pl {a b : List Nat} {p q : Int} (ha : numS 30 a = some p) (hb : numS 30 b = some q) (h : 47 ∉ a) (hp : PlOk p q) : phi_read_place [.str (tS (a ++ 47 :: b))] = some (.ret (.sh (P2 p q)) []) := by
  have la := numS_len ha
  have lb := numS_len hb
  have pt := part_sl h (by omega : a.length + b.length < 1000000)
  obtain ⟨h1, h2, h3⟩ := hp
  have c1 : decide (q < 0) = false := decide_eq_false (by omega)
  have c2 : (((1 : Nat) : Int)) = 1 := rfl
  have g := @common_ok' p q
  rw [h2] at g
  unfold phi_read_place b_read_place
  by_cases hq : q = 0
  · have hp := h3 hq
    subst hq
    subst hp
    simp -implicitDefEqProofs only [e_seq, k_seq1, k_seq2, k_seq3, k_seq4, k_seq5, e_ex, k_ex1, k_ex2, e_bnd, k_bn1, k_bn2, e_ret, e_nx, e_bk, e_ct, e_c, e_var, k_var1, k_var2, e_mv, k_mv1, k_mv2, e_pk, k_pk, e_get1, e_get2, k_sd1, k_sd2, e_gets1, e_gets2, k_gs, e_vals1, e_vals2, e_oOf, e_d1, e_d2, e_an, e_ac, e_op1, e_op2, e_bi, e_l1, k_l1, e_l2, k_l2, e_lA, k_lA, k_ok, e_tst, k_ts1, k_ts2, e_tand, e_tor, e_tnot, e_vand, e_vor, e_vnot, e_vif, e_iteT, e_iteF, e_tup, k_tp, e_lst, k_ls, e_is, e_call, e_callM, k_cl, k_rs, e_if, e_sret, e_sretN, e_drop, e_asg, k_nx, e_gN, e_gT, e_gLs1, e_gLs2, e_gsN, e_gsC, e_par, e_run, k_ru1, k_ru2, k_ru3, e_out1, e_out2, k_os, e_start, e_stl1, e_stl2, e_fro, e_isFr, k_fr1, k_fr2, e_ioOk1, e_ioOk2, k_ioOk, e_noBr, e_ios1, e_ios2, e_brs1, e_brs2, e_brs3, e_brs4, e_brs5, e_dec1, e_dec2, e_dec3, e_put1, k_put, e_put2, e_outOf1, e_outOf2, e_guard, e_setIx, e_stK, k_stI, e_mt, e_mtK, k_app, k_ext, k_rvs, k_pop, e_chain, e_for, e_forL1, k_turn1, k_turn2, k_turn3, k_turn4, k_turn5, e_R1, k_R1, e_R2, k_R2, e_iLs, k_it, e_iTp, k_tI, e_lsV, e_lsS, k_ls1, k_ls2, k_ls3, e_iZp, e_iEn, e_iRv, e_iSg, k_jSg, e_jZp, k_zp, e_jEn, e_jRev, e_sl, e_pNo, e_pIn, k_pn, e_slL, cut_1, isLst_lst, isLst_tup, isLst_int, e_eqI, e_neI, e_eqB, e_neB, gStr_ok, isInt_int, isInt_bl, isInt_str, isInt_non, isInt_tup, isInt_lst, isBl_int, isBl_bl, isBl_tup, isTup_int, isTup_bl, isTup_str, isTup_non, isTup_tup, isTup_lst, e_sub, e_add, e_addL, e_neg, e_cmp, e_ixL, e_ixT, e_ixS, e_abs, e_max, e_max4, e_min, e_intI, e_intB, e_lenL, e_lenT, e_lenS, e_isT1, e_isT2, e_isT3, e_isTL1, e_isTL2, e_resT1, e_resT2, shL, e_mp, e_mpN, e_mpF, k_mf, k_ck, ckL_1, ckS_1, e_revL, e_gRv, e_iR3, e_jR3, k_R3, isN_1, isN_2, e_callF, k_callF, k_cf, gIs_non, gIs_bl, gIs_int, gIs_str, gIs_tup, gIs_lst, gIs_scr, e_meth, e_mtO, k_isOb, e_mtC, k_okO, e_mk, k_mk, k_mkQ, e_mkE, k_mkE, k_mkR1, k_mkR2, k_fld, e_d3, e_d4, e_d5, k_var3, k_var4, k_var5, k_mv3, k_sd3, k_sd4, k_sd5, e_isOw, k_ow1, k_ow2, e_resOk, e_resL1, e_resL2, e_noBrL, e_isL1, e_isL2, e_isL3, e_isL4, e_isL5, e_isL6, e_isLL1, e_isLL2, k_fr3, k_fr4, k_fr5, e_dnK, e_dnT, e_dputT, e_dputK, e_isDt, e_isDk, k_isDt, k_isDk, e_dtK2, e_dpK, k_dtI, k_dkI, e_keyI, e_keyS, e_inK, e_dxK, e_inT, e_dxT, e_intL2, List.getElem?_cons_zero, List.getElem?_cons_succ, List.getElem?_nil, List.set_cons_zero, List.set_cons_succ, List.length_cons, List.length_nil, List.map_cons, List.map_nil, List.nil_append, List.cons_append, List.replicate_succ, List.replicate_zero, List.all_nil, List.all_cons, List.contains_nil, List.contains_cons, Option.map_some, Option.map_none, Option.bind_some, Option.bind_none, Bool.and_true, Bool.true_and, Bool.and_false, Bool.false_and, Bool.or_true, Bool.true_or, Bool.or_false, Bool.false_or, Bool.not_true, Bool.not_false, Bool.not_not, Nat.zero_add, Nat.reduceAdd, Nat.reduceSub, Nat.reduceLT, Nat.reduceLeDiff, Nat.reduceEqDiff, reduceIte, if_true, if_false, atI_0, atI_1, atI_2, atI_3, gMul_ok, gMod_pos, gDiv_pos, true_and, and_true, and_self, Nat.reduceBEq, Nat.reduceBNe, beq_self_eq_true, decide_true, decide_false, not_false_iff, not_true, ne_eq, gt_iff_lt, ge_iff_le, Int.reduceEq, Int.reduceNe, Int.reduceLT, Int.reduceLE, Int.cast_ofNat_Int, Int.natCast_one, Int.natCast_zero, reduceCtorEq, Bool.false_eq_true, eq_self, isStr_str, pt, read_num ha, read_num hb, c1, g, c2]
  · have c3 : decide (q = 0) = false := decide_eq_false hq
    simp -implicitDefEqProofs only [e_seq, k_seq1, k_seq2, k_seq3, k_seq4, k_seq5, e_ex, k_ex1, k_ex2, e_bnd, k_bn1, k_bn2, e_ret, e_nx, e_bk, e_ct, e_c, e_var, k_var1, k_var2, e_mv, k_mv1, k_mv2, e_pk, k_pk, e_get1, e_get2, k_sd1, k_sd2, e_gets1, e_gets2, k_gs, e_vals1, e_vals2, e_oOf, e_d1, e_d2, e_an, e_ac, e_op1, e_op2, e_bi, e_l1, k_l1, e_l2, k_l2, e_lA, k_lA, k_ok, e_tst, k_ts1, k_ts2, e_tand, e_tor, e_tnot, e_vand, e_vor, e_vnot, e_vif, e_iteT, e_iteF, e_tup, k_tp, e_lst, k_ls, e_is, e_call, e_callM, k_cl, k_rs, e_if, e_sret, e_sretN, e_drop, e_asg, k_nx, e_gN, e_gT, e_gLs1, e_gLs2, e_gsN, e_gsC, e_par, e_run, k_ru1, k_ru2, k_ru3, e_out1, e_out2, k_os, e_start, e_stl1, e_stl2, e_fro, e_isFr, k_fr1, k_fr2, e_ioOk1, e_ioOk2, k_ioOk, e_noBr, e_ios1, e_ios2, e_brs1, e_brs2, e_brs3, e_brs4, e_brs5, e_dec1, e_dec2, e_dec3, e_put1, k_put, e_put2, e_outOf1, e_outOf2, e_guard, e_setIx, e_stK, k_stI, e_mt, e_mtK, k_app, k_ext, k_rvs, k_pop, e_chain, e_for, e_forL1, k_turn1, k_turn2, k_turn3, k_turn4, k_turn5, e_R1, k_R1, e_R2, k_R2, e_iLs, k_it, e_iTp, k_tI, e_lsV, e_lsS, k_ls1, k_ls2, k_ls3, e_iZp, e_iEn, e_iRv, e_iSg, k_jSg, e_jZp, k_zp, e_jEn, e_jRev, e_sl, e_pNo, e_pIn, k_pn, e_slL, cut_1, isLst_lst, isLst_tup, isLst_int, e_eqI, e_neI, e_eqB, e_neB, gStr_ok, isInt_int, isInt_bl, isInt_str, isInt_non, isInt_tup, isInt_lst, isBl_int, isBl_bl, isBl_tup, isTup_int, isTup_bl, isTup_str, isTup_non, isTup_tup, isTup_lst, e_sub, e_add, e_addL, e_neg, e_cmp, e_ixL, e_ixT, e_ixS, e_abs, e_max, e_max4, e_min, e_intI, e_intB, e_lenL, e_lenT, e_lenS, e_isT1, e_isT2, e_isT3, e_isTL1, e_isTL2, e_resT1, e_resT2, shL, e_mp, e_mpN, e_mpF, k_mf, k_ck, ckL_1, ckS_1, e_revL, e_gRv, e_iR3, e_jR3, k_R3, isN_1, isN_2, e_callF, k_callF, k_cf, gIs_non, gIs_bl, gIs_int, gIs_str, gIs_tup, gIs_lst, gIs_scr, e_meth, e_mtO, k_isOb, e_mtC, k_okO, e_mk, k_mk, k_mkQ, e_mkE, k_mkE, k_mkR1, k_mkR2, k_fld, e_d3, e_d4, e_d5, k_var3, k_var4, k_var5, k_mv3, k_sd3, k_sd4, k_sd5, e_isOw, k_ow1, k_ow2, e_resOk, e_resL1, e_resL2, e_noBrL, e_isL1, e_isL2, e_isL3, e_isL4, e_isL5, e_isL6, e_isLL1, e_isLL2, k_fr3, k_fr4, k_fr5, e_dnK, e_dnT, e_dputT, e_dputK, e_isDt, e_isDk, k_isDt, k_isDk, e_dtK2, e_dpK, k_dtI, k_dkI, e_keyI, e_keyS, e_inK, e_dxK, e_inT, e_dxT, e_intL2, List.getElem?_cons_zero, List.getElem?_cons_succ, List.getElem?_nil, List.set_cons_zero, List.set_cons_succ, List.length_cons, List.length_nil, List.map_cons, List.map_nil, List.nil_append, List.cons_append, List.replicate_succ, List.replicate_zero, List.all_nil, List.all_cons, List.contains_nil, List.contains_cons, Option.map_some, Option.map_none, Option.bind_some, Option.bind_none, Bool.and_true, Bool.true_and, Bool.and_false, Bool.false_and, Bool.or_true, Bool.true_or, Bool.or_false, Bool.false_or, Bool.not_true, Bool.not_false, Bool.not_not, Nat.zero_add, Nat.reduceAdd, Nat.reduceSub, Nat.reduceLT, Nat.reduceLeDiff, Nat.reduceEqDiff, reduceIte, if_true, if_false, atI_0, atI_1, atI_2, atI_3, gMul_ok, gMod_pos, gDiv_pos, true_and, and_true, and_self, Nat.reduceBEq, Nat.reduceBNe, beq_self_eq_true, decide_true, decide_false, not_false_iff, not_true, ne_eq, gt_iff_lt, ge_iff_le, Int.reduceEq, Int.reduceNe, Int.reduceLT, Int.reduceLE, Int.cast_ofNat_Int, Int.natCast_one, Int.natCast_zero, reduceCtorEq, Bool.false_eq_true, eq_self, isStr_str, pt, read_num ha, read_num hb, c1, g, c2, c3]
theorem str_z {p : Int} (h : p.natAbs < 10 ^ 30) : gStr [.int p] = some (.sh (.str (tS (zL p)))) := by
  rw [gStr_ok (by
    by_cases z : p.natAbs = 0
    · rw [z]
      decide
    · have : p.natAbs.log2 < 100 := (Nat.log2_lt z).mpr (Nat.lt_of_lt_of_le h (by decide))
      omega)]
  unfold zL
  rw [tS_tl]
theorem add_str {l m : List Nat} (h : l.length + m.length ≤ 1000000) : gAdd (.str (tS l)) (.str (tS m)) = some (.sh (.str (tS (l ++ m)))) := by
  show (if (tS l).length + (tS m).length ≤ 1000000 then some (SV.sh (.str (tS l ++ tS m))) else none) = _
  rw [if_pos (by rw [tS_len, tS_len]; exact h), tS_app]
theorem zL_len {p : Int} (h : p.natAbs < 10 ^ 30) : (zL p).length ≤ 601 := numS_len (numS_zL h)
/-- a place's text -/
def plL (p q : Int) : List Nat := zL p ++ 47 :: zL q
theorem show_ok {p q : Int} (hp : p.natAbs < 10 ^ 30) (hq : q.natAbs < 10 ^ 30) : phi_show_place [P2 p q] = some (.ret (.sh (.str (tS (plL p q)))) []) := by
  have a1 := add_str (l := zL p) (m := [47]) (by have := zL_len hp; show (zL p).length + 1 ≤ 1000000; omega)
  have a2 := add_str (l := zL p ++ [47]) (m := zL q) (by have := zL_len hp; have := zL_len hq; rw [List.length_append]; show (zL p).length + 1 + (zL q).length ≤ 1000000; omega)
  rw [List.append_assoc] at a2
  unfold phi_show_place b_show_place plL
  simp -implicitDefEqProofs only [e_seq, k_seq1, k_seq2, k_seq3, k_seq4, k_seq5, e_ex, k_ex1, k_ex2, e_bnd, k_bn1, k_bn2, e_ret, e_nx, e_bk, e_ct, e_c, e_var, k_var1, k_var2, e_mv, k_mv1, k_mv2, e_pk, k_pk, e_get1, e_get2, k_sd1, k_sd2, e_gets1, e_gets2, k_gs, e_vals1, e_vals2, e_oOf, e_d1, e_d2, e_an, e_ac, e_op1, e_op2, e_bi, e_l1, k_l1, e_l2, k_l2, e_lA, k_lA, k_ok, e_tst, k_ts1, k_ts2, e_tand, e_tor, e_tnot, e_vand, e_vor, e_vnot, e_vif, e_iteT, e_iteF, e_tup, k_tp, e_lst, k_ls, e_is, e_call, e_callM, k_cl, k_rs, e_if, e_sret, e_sretN, e_drop, e_asg, k_nx, e_gN, e_gT, e_gLs1, e_gLs2, e_gsN, e_gsC, e_par, e_run, k_ru1, k_ru2, k_ru3, e_out1, e_out2, k_os, e_start, e_stl1, e_stl2, e_fro, e_isFr, k_fr1, k_fr2, e_ioOk1, e_ioOk2, k_ioOk, e_noBr, e_ios1, e_ios2, e_brs1, e_brs2, e_brs3, e_brs4, e_brs5, e_dec1, e_dec2, e_dec3, e_put1, k_put, e_put2, e_outOf1, e_outOf2, e_guard, e_setIx, e_stK, k_stI, e_mt, e_mtK, k_app, k_ext, k_rvs, k_pop, e_chain, e_for, e_forL1, k_turn1, k_turn2, k_turn3, k_turn4, k_turn5, e_R1, k_R1, e_R2, k_R2, e_iLs, k_it, e_iTp, k_tI, e_lsV, e_lsS, k_ls1, k_ls2, k_ls3, e_iZp, e_iEn, e_iRv, e_iSg, k_jSg, e_jZp, k_zp, e_jEn, e_jRev, e_sl, e_pNo, e_pIn, k_pn, e_slL, cut_1, isLst_lst, isLst_tup, isLst_int, e_eqI, e_neI, e_eqB, e_neB, gStr_ok, isInt_int, isInt_bl, isInt_str, isInt_non, isInt_tup, isInt_lst, isBl_int, isBl_bl, isBl_tup, isTup_int, isTup_bl, isTup_str, isTup_non, isTup_tup, isTup_lst, e_sub, e_add, e_addL, e_neg, e_cmp, e_ixL, e_ixT, e_ixS, e_abs, e_max, e_max4, e_min, e_intI, e_intB, e_lenL, e_lenT, e_lenS, e_isT1, e_isT2, e_isT3, e_isTL1, e_isTL2, e_resT1, e_resT2, shL, e_mp, e_mpN, e_mpF, k_mf, k_ck, ckL_1, ckS_1, e_revL, e_gRv, e_iR3, e_jR3, k_R3, isN_1, isN_2, e_callF, k_callF, k_cf, gIs_non, gIs_bl, gIs_int, gIs_str, gIs_tup, gIs_lst, gIs_scr, e_meth, e_mtO, k_isOb, e_mtC, k_okO, e_mk, k_mk, k_mkQ, e_mkE, k_mkE, k_mkR1, k_mkR2, k_fld, e_d3, e_d4, e_d5, k_var3, k_var4, k_var5, k_mv3, k_sd3, k_sd4, k_sd5, e_isOw, k_ow1, k_ow2, e_resOk, e_resL1, e_resL2, e_noBrL, e_isL1, e_isL2, e_isL3, e_isL4, e_isL5, e_isL6, e_isLL1, e_isLL2, k_fr3, k_fr4, k_fr5, e_dnK, e_dnT, e_dputT, e_dputK, e_isDt, e_isDk, k_isDt, k_isDk, e_dtK2, e_dpK, k_dtI, k_dkI, e_keyI, e_keyS, e_inK, e_dxK, e_inT, e_dxT, e_intL2, List.getElem?_cons_zero, List.getElem?_cons_succ, List.getElem?_nil, List.set_cons_zero, List.set_cons_succ, List.length_cons, List.length_nil, List.map_cons, List.map_nil, List.nil_append, List.cons_append, List.replicate_succ, List.replicate_zero, List.all_nil, List.all_cons, List.contains_nil, List.contains_cons, Option.map_some, Option.map_none, Option.bind_some, Option.bind_none, Bool.and_true, Bool.true_and, Bool.and_false, Bool.false_and, Bool.or_true, Bool.true_or, Bool.or_false, Bool.false_or, Bool.not_true, Bool.not_false, Bool.not_not, Nat.zero_add, Nat.reduceAdd, Nat.reduceSub, Nat.reduceLT, Nat.reduceLeDiff, Nat.reduceEqDiff, reduceIte, if_true, if_false, atI_0, atI_1, atI_2, atI_3, gMul_ok, gMod_pos, gDiv_pos, true_and, and_true, and_self, Nat.reduceBEq, Nat.reduceBNe, beq_self_eq_true, decide_true, decide_false, not_false_iff, not_true, ne_eq, gt_iff_lt, ge_iff_le, Int.reduceEq, Int.reduceNe, Int.reduceLT, Int.reduceLE, Int.cast_ofNat_Int, Int.natCast_one, Int.natCast_zero, reduceCtorEq, Bool.false_eq_true, eq_self, str_z hp, str_z hq, lit_sl, a1, a2]
theorem eq_P2 {p q : Int} : gEq (P2 p q) (P2 p q) = some (.sh (.bl true)) := by
  unfold gEq eqD
  rw [if_pos ⟨rfl, rfl⟩]
  simp [toPy, toPyL, PyData.eqv, PyData.eqvAll]
theorem pow9 : gPow (.int 10) (.int 9) = some (.sh (.int 1000000000)) := pw (n := 9) (by decide) (by decide)
theorem pow30 : gPow (.int 10) (.int 30) = some (.sh (.int 1000000000000000000000000000000)) := pw (n := 30) (by decide) (by decide)
theorem whole_ok {n : Int} : phi_law_whole [.int n] = some (.ret (.sh (.bl true)) []) := by
  unfold phi_law_whole b_law_whole
  simp -implicitDefEqProofs only [e_seq, k_seq1, k_seq2, k_seq3, k_seq4, k_seq5, e_ex, k_ex1, k_ex2, e_bnd, k_bn1, k_bn2, e_ret, e_nx, e_bk, e_ct, e_c, e_var, k_var1, k_var2, e_mv, k_mv1, k_mv2, e_pk, k_pk, e_get1, e_get2, k_sd1, k_sd2, e_gets1, e_gets2, k_gs, e_vals1, e_vals2, e_oOf, e_d1, e_d2, e_an, e_ac, e_op1, e_op2, e_bi, e_l1, k_l1, e_l2, k_l2, e_lA, k_lA, k_ok, e_tst, k_ts1, k_ts2, e_tand, e_tor, e_tnot, e_vand, e_vor, e_vnot, e_vif, e_iteT, e_iteF, e_tup, k_tp, e_lst, k_ls, e_is, e_call, e_callM, k_cl, k_rs, e_if, e_sret, e_sretN, e_drop, e_asg, k_nx, e_gN, e_gT, e_gLs1, e_gLs2, e_gsN, e_gsC, e_par, e_run, k_ru1, k_ru2, k_ru3, e_out1, e_out2, k_os, e_start, e_stl1, e_stl2, e_fro, e_isFr, k_fr1, k_fr2, e_ioOk1, e_ioOk2, k_ioOk, e_noBr, e_ios1, e_ios2, e_brs1, e_brs2, e_brs3, e_brs4, e_brs5, e_dec1, e_dec2, e_dec3, e_put1, k_put, e_put2, e_outOf1, e_outOf2, e_guard, e_setIx, e_stK, k_stI, e_mt, e_mtK, k_app, k_ext, k_rvs, k_pop, e_chain, e_for, e_forL1, k_turn1, k_turn2, k_turn3, k_turn4, k_turn5, e_R1, k_R1, e_R2, k_R2, e_iLs, k_it, e_iTp, k_tI, e_lsV, e_lsS, k_ls1, k_ls2, k_ls3, e_iZp, e_iEn, e_iRv, e_iSg, k_jSg, e_jZp, k_zp, e_jEn, e_jRev, e_sl, e_pNo, e_pIn, k_pn, e_slL, cut_1, isLst_lst, isLst_tup, isLst_int, e_eqI, e_neI, e_eqB, e_neB, gStr_ok, isInt_int, isInt_bl, isInt_str, isInt_non, isInt_tup, isInt_lst, isBl_int, isBl_bl, isBl_tup, isTup_int, isTup_bl, isTup_str, isTup_non, isTup_tup, isTup_lst, e_sub, e_add, e_addL, e_neg, e_cmp, e_ixL, e_ixT, e_ixS, e_abs, e_max, e_max4, e_min, e_intI, e_intB, e_lenL, e_lenT, e_lenS, e_isT1, e_isT2, e_isT3, e_isTL1, e_isTL2, e_resT1, e_resT2, shL, e_mp, e_mpN, e_mpF, k_mf, k_ck, ckL_1, ckS_1, e_revL, e_gRv, e_iR3, e_jR3, k_R3, isN_1, isN_2, e_callF, k_callF, k_cf, gIs_non, gIs_bl, gIs_int, gIs_str, gIs_tup, gIs_lst, gIs_scr, e_meth, e_mtO, k_isOb, e_mtC, k_okO, e_mk, k_mk, k_mkQ, e_mkE, k_mkE, k_mkR1, k_mkR2, k_fld, e_d3, e_d4, e_d5, k_var3, k_var4, k_var5, k_mv3, k_sd3, k_sd4, k_sd5, e_isOw, k_ow1, k_ow2, e_resOk, e_resL1, e_resL2, e_noBrL, e_isL1, e_isL2, e_isL3, e_isL4, e_isL5, e_isL6, e_isLL1, e_isLL2, k_fr3, k_fr4, k_fr5, e_dnK, e_dnT, e_dputT, e_dputK, e_isDt, e_isDk, k_isDt, k_isDk, e_dtK2, e_dpK, k_dtI, k_dkI, e_keyI, e_keyS, e_inK, e_dxK, e_inT, e_dxT, e_intL2, List.getElem?_cons_zero, List.getElem?_cons_succ, List.getElem?_nil, List.set_cons_zero, List.set_cons_succ, List.length_cons, List.length_nil, List.map_cons, List.map_nil, List.nil_append, List.cons_append, List.replicate_succ, List.replicate_zero, List.all_nil, List.all_cons, List.contains_nil, List.contains_cons, Option.map_some, Option.map_none, Option.bind_some, Option.bind_none, Bool.and_true, Bool.true_and, Bool.and_false, Bool.false_and, Bool.or_true, Bool.true_or, Bool.or_false, Bool.false_or, Bool.not_true, Bool.not_false, Bool.not_not, Nat.zero_add, Nat.reduceAdd, Nat.reduceSub, Nat.reduceLT, Nat.reduceLeDiff, Nat.reduceEqDiff, reduceIte, if_true, if_false, atI_0, atI_1, atI_2, atI_3, gMul_ok, gMod_pos, gDiv_pos, true_and, and_true, and_self, Nat.reduceBEq, Nat.reduceBNe, beq_self_eq_true, decide_true, decide_false, not_false_iff, not_true, ne_eq, gt_iff_lt, ge_iff_le, Int.reduceEq, Int.reduceNe, Int.reduceLT, Int.reduceLE, Int.cast_ofNat_Int, Int.natCast_one, Int.natCast_zero, reduceCtorEq, Bool.false_eq_true, eq_self]
theorem base_ok {x : Int} (h0 : 0 ≤ x) (h1 : x < 4) : ∃ B : Int, 4 ≤ B ∧ B ≤ 1000000000000000000000000000000 ∧ gIx (.lst [.int 4, .int 30, .int 1000000000, .int 1000000000000000000000000000000]) (.int x) = some (.sh (.int B)) := by
  rcases (show x = 0 ∨ x = 1 ∨ x = 2 ∨ x = 3 by omega) with rfl | rfl | rfl | rfl
  · exact ⟨_, by decide, by decide, rfl⟩
  · exact ⟨_, by decide, by decide, rfl⟩
  · exact ⟨_, by decide, by decide, rfl⟩
  · exact ⟨_, by decide, by decide, rfl⟩
theorem bd100 {t : Int} (h : t.natAbs < 10 ^ 30) : Bd 100 t := Nat.lt_of_lt_of_le h (by decide)
theorem abs_fac {g p t : Int} (h : t.natAbs < 10 ^ 30) (e : t = g * p) (hg : g ≠ 0) : p.natAbs < 10 ^ 30 := by
  have : p.natAbs ≤ t.natAbs := by
    rw [e, Int.natAbs_mul]
    exact Nat.le_mul_of_pos_left _ (Int.natAbs_pos.mpr hg)
  omega
/-- a place whose text is read -/
def PlB (p q : Int) : Prop := PlOk p q ∧ p.natAbs < 10 ^ 30 ∧ q.natAbs < 10 ^ 30
theorem plok_of {p q : Int} (s : Spt p q) : PlOk p q := by
  obtain ⟨g, h⟩ := s
  refine ⟨by omega, g, fun e => ?_⟩
  subst e
  exact spt_one g (by omega)
theorem drawn_ok {x : Int} (h : 0 ≤ x) : ∃ p q, phi_law_drawn_place [.int x] = some (.ret (.sh (P2 p q)) []) ∧ PlB p q := by
  obtain ⟨B, hB1, hB2, eB⟩ := base_ok (x := x % 4) (Int.emod_nonneg _ (by decide)) (Int.emod_lt_of_pos _ (by decide))
  have p4 : (0 : Int) < 4 := by decide
  have p2 : (0 : Int) < 2 := by decide
  have pB : (0 : Int) < B := by omega
  have d4 : gDiv (.int x) (.int 4) = some (.sh (.int (x / 4))) := gDiv_pos (by decide) (log_9000 (k := 200) (by decide) (by decide) (by decide))
  obtain ⟨y, hy⟩ : ∃ y, x / 4 = y := ⟨_, rfl⟩
  rw [hy] at d4
  have dB : gDiv (.int y) (.int B) = some (.sh (.int (y / B))) := gDiv_pos pB (log_9000 (k := 200) (by omega) (by omega) (by decide))
  have m2 : Sim.MulOk 2 B := mulOk_l (by decide) (by decide)
  have d2 : gDiv (.int y) (.int (2 * B)) = some (.sh (.int (y / (2 * B)))) := gDiv_pos (by omega) (log_9000 (k := 200) (by omega) (by omega) (by decide))
  have r0 : 0 ≤ y / B % 2 := Int.emod_nonneg _ (by decide)
  have r1 : y / B % 2 < 2 := Int.emod_lt_of_pos _ (by decide)
  obtain ⟨s, hs⟩ : ∃ s, y / B % 2 = s := ⟨_, rfl⟩
  rw [hs] at r0 r1
  have t0 : 0 ≤ y % B := Int.emod_nonneg _ (by omega)
  have t1 : y % B < B := Int.emod_lt_of_pos _ pB
  obtain ⟨t, ht⟩ : ∃ t, y % B = t := ⟨_, rfl⟩
  rw [ht] at t0 t1
  have m3 : Sim.MulOk 2 s := mulOk_l (by decide) (by decide)
  have m4 : Sim.MulOk t (1 - 2 * s) := mulOk_r (by omega) (by omega)
  have b0 : 0 ≤ y / (2 * B) % B := Int.emod_nonneg _ (by omega)
  have b1 : y / (2 * B) % B < B := Int.emod_lt_of_pos _ pB
  obtain ⟨b, hb⟩ : ∃ b, y / (2 * B) % B = b := ⟨_, rfl⟩
  rw [hb] at b0 b1
  have hu : (t * (1 - 2 * s)).natAbs < 10 ^ 30 := by
    rcases (show s = 0 ∨ s = 1 by omega) with rfl | rfl
    · omega
    · omega
  obtain ⟨u, eu⟩ : ∃ u, t * (1 - 2 * s) = u := ⟨_, rfl⟩
  rw [eu] at hu
  by_cases h0 : u = 0 ∧ b = 0
  · refine ⟨1, 0, ?_, ⟨by decide, rfl, fun _ => rfl⟩, by decide, by decide⟩
    obtain ⟨z1, z2⟩ := h0
    subst z1
    subst z2
    unfold phi_law_drawn_place b_law_drawn_place
    simp -implicitDefEqProofs only [e_seq, k_seq1, k_seq2, k_seq3, k_seq4, k_seq5, e_ex, k_ex1, k_ex2, e_bnd, k_bn1, k_bn2, e_ret, e_nx, e_bk, e_ct, e_c, e_var, k_var1, k_var2, e_mv, k_mv1, k_mv2, e_pk, k_pk, e_get1, e_get2, k_sd1, k_sd2, e_gets1, e_gets2, k_gs, e_vals1, e_vals2, e_oOf, e_d1, e_d2, e_an, e_ac, e_op1, e_op2, e_bi, e_l1, k_l1, e_l2, k_l2, e_lA, k_lA, k_ok, e_tst, k_ts1, k_ts2, e_tand, e_tor, e_tnot, e_vand, e_vor, e_vnot, e_vif, e_iteT, e_iteF, e_tup, k_tp, e_lst, k_ls, e_is, e_call, e_callM, k_cl, k_rs, e_if, e_sret, e_sretN, e_drop, e_asg, k_nx, e_gN, e_gT, e_gLs1, e_gLs2, e_gsN, e_gsC, e_par, e_run, k_ru1, k_ru2, k_ru3, e_out1, e_out2, k_os, e_start, e_stl1, e_stl2, e_fro, e_isFr, k_fr1, k_fr2, e_ioOk1, e_ioOk2, k_ioOk, e_noBr, e_ios1, e_ios2, e_brs1, e_brs2, e_brs3, e_brs4, e_brs5, e_dec1, e_dec2, e_dec3, e_put1, k_put, e_put2, e_outOf1, e_outOf2, e_guard, e_setIx, e_stK, k_stI, e_mt, e_mtK, k_app, k_ext, k_rvs, k_pop, e_chain, e_for, e_forL1, k_turn1, k_turn2, k_turn3, k_turn4, k_turn5, e_R1, k_R1, e_R2, k_R2, e_iLs, k_it, e_iTp, k_tI, e_lsV, e_lsS, k_ls1, k_ls2, k_ls3, e_iZp, e_iEn, e_iRv, e_iSg, k_jSg, e_jZp, k_zp, e_jEn, e_jRev, e_sl, e_pNo, e_pIn, k_pn, e_slL, cut_1, isLst_lst, isLst_tup, isLst_int, e_eqI, e_neI, e_eqB, e_neB, gStr_ok, isInt_int, isInt_bl, isInt_str, isInt_non, isInt_tup, isInt_lst, isBl_int, isBl_bl, isBl_tup, isTup_int, isTup_bl, isTup_str, isTup_non, isTup_tup, isTup_lst, e_sub, e_add, e_addL, e_neg, e_cmp, e_ixL, e_ixT, e_ixS, e_abs, e_max, e_max4, e_min, e_intI, e_intB, e_lenL, e_lenT, e_lenS, e_isT1, e_isT2, e_isT3, e_isTL1, e_isTL2, e_resT1, e_resT2, shL, e_mp, e_mpN, e_mpF, k_mf, k_ck, ckL_1, ckS_1, e_revL, e_gRv, e_iR3, e_jR3, k_R3, isN_1, isN_2, e_callF, k_callF, k_cf, gIs_non, gIs_bl, gIs_int, gIs_str, gIs_tup, gIs_lst, gIs_scr, e_meth, e_mtO, k_isOb, e_mtC, k_okO, e_mk, k_mk, k_mkQ, e_mkE, k_mkE, k_mkR1, k_mkR2, k_fld, e_d3, e_d4, e_d5, k_var3, k_var4, k_var5, k_mv3, k_sd3, k_sd4, k_sd5, e_isOw, k_ow1, k_ow2, e_resOk, e_resL1, e_resL2, e_noBrL, e_isL1, e_isL2, e_isL3, e_isL4, e_isL5, e_isL6, e_isLL1, e_isLL2, k_fr3, k_fr4, k_fr5, e_dnK, e_dnT, e_dputT, e_dputK, e_isDt, e_isDk, k_isDt, k_isDk, e_dtK2, e_dpK, k_dtI, k_dkI, e_keyI, e_keyS, e_inK, e_dxK, e_inT, e_dxT, e_intL2, List.getElem?_cons_zero, List.getElem?_cons_succ, List.getElem?_nil, List.set_cons_zero, List.set_cons_succ, List.length_cons, List.length_nil, List.map_cons, List.map_nil, List.nil_append, List.cons_append, List.replicate_succ, List.replicate_zero, List.all_nil, List.all_cons, List.contains_nil, List.contains_cons, Option.map_some, Option.map_none, Option.bind_some, Option.bind_none, Bool.and_true, Bool.true_and, Bool.and_false, Bool.false_and, Bool.or_true, Bool.true_or, Bool.or_false, Bool.false_or, Bool.not_true, Bool.not_false, Bool.not_not, Nat.zero_add, Nat.reduceAdd, Nat.reduceSub, Nat.reduceLT, Nat.reduceLeDiff, Nat.reduceEqDiff, reduceIte, if_true, if_false, atI_0, atI_1, atI_2, atI_3, gMul_ok, gMod_pos, gDiv_pos, true_and, and_true, and_self, Nat.reduceBEq, Nat.reduceBNe, beq_self_eq_true, decide_true, decide_false, not_false_iff, not_true, ne_eq, gt_iff_lt, ge_iff_le, Int.reduceEq, Int.reduceNe, Int.reduceLT, Int.reduceLE, Int.cast_ofNat_Int, Int.natCast_one, Int.natCast_zero, reduceCtorEq, Bool.false_eq_true, eq_self, pow9, pow30, p4, eB, hy, d4, dB, m2, d2, p2, pB, hs, ht, hb, m3, m4, eu]
  · obtain ⟨p, q, g, e, s', z1, z2, hg⟩ := short_ok h0 (bd100 hu) (bd100 (t := b) (by omega)) (by decide)
    refine ⟨p, q, ?_, plok_of s', abs_fac hu z1 hg, abs_fac (by omega) z2 hg⟩
    have c : (decide (u = 0) && decide (b = 0)) = false := by
      by_cases z : u = 0
      · rw [decide_eq_false (fun w => h0 ⟨z, w⟩)]
        exact Bool.and_false _
      · rw [decide_eq_false z]
        rfl
    unfold phi_law_drawn_place b_law_drawn_place
    by_cases z : decide (u = 0) = true
    · rw [z, Bool.true_and] at c
      simp -implicitDefEqProofs only [e_seq, k_seq1, k_seq2, k_seq3, k_seq4, k_seq5, e_ex, k_ex1, k_ex2, e_bnd, k_bn1, k_bn2, e_ret, e_nx, e_bk, e_ct, e_c, e_var, k_var1, k_var2, e_mv, k_mv1, k_mv2, e_pk, k_pk, e_get1, e_get2, k_sd1, k_sd2, e_gets1, e_gets2, k_gs, e_vals1, e_vals2, e_oOf, e_d1, e_d2, e_an, e_ac, e_op1, e_op2, e_bi, e_l1, k_l1, e_l2, k_l2, e_lA, k_lA, k_ok, e_tst, k_ts1, k_ts2, e_tand, e_tor, e_tnot, e_vand, e_vor, e_vnot, e_vif, e_iteT, e_iteF, e_tup, k_tp, e_lst, k_ls, e_is, e_call, e_callM, k_cl, k_rs, e_if, e_sret, e_sretN, e_drop, e_asg, k_nx, e_gN, e_gT, e_gLs1, e_gLs2, e_gsN, e_gsC, e_par, e_run, k_ru1, k_ru2, k_ru3, e_out1, e_out2, k_os, e_start, e_stl1, e_stl2, e_fro, e_isFr, k_fr1, k_fr2, e_ioOk1, e_ioOk2, k_ioOk, e_noBr, e_ios1, e_ios2, e_brs1, e_brs2, e_brs3, e_brs4, e_brs5, e_dec1, e_dec2, e_dec3, e_put1, k_put, e_put2, e_outOf1, e_outOf2, e_guard, e_setIx, e_stK, k_stI, e_mt, e_mtK, k_app, k_ext, k_rvs, k_pop, e_chain, e_for, e_forL1, k_turn1, k_turn2, k_turn3, k_turn4, k_turn5, e_R1, k_R1, e_R2, k_R2, e_iLs, k_it, e_iTp, k_tI, e_lsV, e_lsS, k_ls1, k_ls2, k_ls3, e_iZp, e_iEn, e_iRv, e_iSg, k_jSg, e_jZp, k_zp, e_jEn, e_jRev, e_sl, e_pNo, e_pIn, k_pn, e_slL, cut_1, isLst_lst, isLst_tup, isLst_int, e_eqI, e_neI, e_eqB, e_neB, gStr_ok, isInt_int, isInt_bl, isInt_str, isInt_non, isInt_tup, isInt_lst, isBl_int, isBl_bl, isBl_tup, isTup_int, isTup_bl, isTup_str, isTup_non, isTup_tup, isTup_lst, e_sub, e_add, e_addL, e_neg, e_cmp, e_ixL, e_ixT, e_ixS, e_abs, e_max, e_max4, e_min, e_intI, e_intB, e_lenL, e_lenT, e_lenS, e_isT1, e_isT2, e_isT3, e_isTL1, e_isTL2, e_resT1, e_resT2, shL, e_mp, e_mpN, e_mpF, k_mf, k_ck, ckL_1, ckS_1, e_revL, e_gRv, e_iR3, e_jR3, k_R3, isN_1, isN_2, e_callF, k_callF, k_cf, gIs_non, gIs_bl, gIs_int, gIs_str, gIs_tup, gIs_lst, gIs_scr, e_meth, e_mtO, k_isOb, e_mtC, k_okO, e_mk, k_mk, k_mkQ, e_mkE, k_mkE, k_mkR1, k_mkR2, k_fld, e_d3, e_d4, e_d5, k_var3, k_var4, k_var5, k_mv3, k_sd3, k_sd4, k_sd5, e_isOw, k_ow1, k_ow2, e_resOk, e_resL1, e_resL2, e_noBrL, e_isL1, e_isL2, e_isL3, e_isL4, e_isL5, e_isL6, e_isLL1, e_isLL2, k_fr3, k_fr4, k_fr5, e_dnK, e_dnT, e_dputT, e_dputK, e_isDt, e_isDk, k_isDt, k_isDk, e_dtK2, e_dpK, k_dtI, k_dkI, e_keyI, e_keyS, e_inK, e_dxK, e_inT, e_dxT, e_intL2, List.getElem?_cons_zero, List.getElem?_cons_succ, List.getElem?_nil, List.set_cons_zero, List.set_cons_succ, List.length_cons, List.length_nil, List.map_cons, List.map_nil, List.nil_append, List.cons_append, List.replicate_succ, List.replicate_zero, List.all_nil, List.all_cons, List.contains_nil, List.contains_cons, Option.map_some, Option.map_none, Option.bind_some, Option.bind_none, Bool.and_true, Bool.true_and, Bool.and_false, Bool.false_and, Bool.or_true, Bool.true_or, Bool.or_false, Bool.false_or, Bool.not_true, Bool.not_false, Bool.not_not, Nat.zero_add, Nat.reduceAdd, Nat.reduceSub, Nat.reduceLT, Nat.reduceLeDiff, Nat.reduceEqDiff, reduceIte, if_true, if_false, atI_0, atI_1, atI_2, atI_3, gMul_ok, gMod_pos, gDiv_pos, true_and, and_true, and_self, Nat.reduceBEq, Nat.reduceBNe, beq_self_eq_true, decide_true, decide_false, not_false_iff, not_true, ne_eq, gt_iff_lt, ge_iff_le, Int.reduceEq, Int.reduceNe, Int.reduceLT, Int.reduceLE, Int.cast_ofNat_Int, Int.natCast_one, Int.natCast_zero, reduceCtorEq, Bool.false_eq_true, eq_self, pow9, pow30, p4, eB, hy, d4, dB, m2, d2, p2, pB, hs, ht, hb, m3, m4, eu, z, c, e]
    · rw [Bool.not_eq_true] at z
      simp -implicitDefEqProofs only [e_seq, k_seq1, k_seq2, k_seq3, k_seq4, k_seq5, e_ex, k_ex1, k_ex2, e_bnd, k_bn1, k_bn2, e_ret, e_nx, e_bk, e_ct, e_c, e_var, k_var1, k_var2, e_mv, k_mv1, k_mv2, e_pk, k_pk, e_get1, e_get2, k_sd1, k_sd2, e_gets1, e_gets2, k_gs, e_vals1, e_vals2, e_oOf, e_d1, e_d2, e_an, e_ac, e_op1, e_op2, e_bi, e_l1, k_l1, e_l2, k_l2, e_lA, k_lA, k_ok, e_tst, k_ts1, k_ts2, e_tand, e_tor, e_tnot, e_vand, e_vor, e_vnot, e_vif, e_iteT, e_iteF, e_tup, k_tp, e_lst, k_ls, e_is, e_call, e_callM, k_cl, k_rs, e_if, e_sret, e_sretN, e_drop, e_asg, k_nx, e_gN, e_gT, e_gLs1, e_gLs2, e_gsN, e_gsC, e_par, e_run, k_ru1, k_ru2, k_ru3, e_out1, e_out2, k_os, e_start, e_stl1, e_stl2, e_fro, e_isFr, k_fr1, k_fr2, e_ioOk1, e_ioOk2, k_ioOk, e_noBr, e_ios1, e_ios2, e_brs1, e_brs2, e_brs3, e_brs4, e_brs5, e_dec1, e_dec2, e_dec3, e_put1, k_put, e_put2, e_outOf1, e_outOf2, e_guard, e_setIx, e_stK, k_stI, e_mt, e_mtK, k_app, k_ext, k_rvs, k_pop, e_chain, e_for, e_forL1, k_turn1, k_turn2, k_turn3, k_turn4, k_turn5, e_R1, k_R1, e_R2, k_R2, e_iLs, k_it, e_iTp, k_tI, e_lsV, e_lsS, k_ls1, k_ls2, k_ls3, e_iZp, e_iEn, e_iRv, e_iSg, k_jSg, e_jZp, k_zp, e_jEn, e_jRev, e_sl, e_pNo, e_pIn, k_pn, e_slL, cut_1, isLst_lst, isLst_tup, isLst_int, e_eqI, e_neI, e_eqB, e_neB, gStr_ok, isInt_int, isInt_bl, isInt_str, isInt_non, isInt_tup, isInt_lst, isBl_int, isBl_bl, isBl_tup, isTup_int, isTup_bl, isTup_str, isTup_non, isTup_tup, isTup_lst, e_sub, e_add, e_addL, e_neg, e_cmp, e_ixL, e_ixT, e_ixS, e_abs, e_max, e_max4, e_min, e_intI, e_intB, e_lenL, e_lenT, e_lenS, e_isT1, e_isT2, e_isT3, e_isTL1, e_isTL2, e_resT1, e_resT2, shL, e_mp, e_mpN, e_mpF, k_mf, k_ck, ckL_1, ckS_1, e_revL, e_gRv, e_iR3, e_jR3, k_R3, isN_1, isN_2, e_callF, k_callF, k_cf, gIs_non, gIs_bl, gIs_int, gIs_str, gIs_tup, gIs_lst, gIs_scr, e_meth, e_mtO, k_isOb, e_mtC, k_okO, e_mk, k_mk, k_mkQ, e_mkE, k_mkE, k_mkR1, k_mkR2, k_fld, e_d3, e_d4, e_d5, k_var3, k_var4, k_var5, k_mv3, k_sd3, k_sd4, k_sd5, e_isOw, k_ow1, k_ow2, e_resOk, e_resL1, e_resL2, e_noBrL, e_isL1, e_isL2, e_isL3, e_isL4, e_isL5, e_isL6, e_isLL1, e_isLL2, k_fr3, k_fr4, k_fr5, e_dnK, e_dnT, e_dputT, e_dputK, e_isDt, e_isDk, k_isDt, k_isDk, e_dtK2, e_dpK, k_dtI, k_dkI, e_keyI, e_keyS, e_inK, e_dxK, e_inT, e_dxT, e_intL2, List.getElem?_cons_zero, List.getElem?_cons_succ, List.getElem?_nil, List.set_cons_zero, List.set_cons_succ, List.length_cons, List.length_nil, List.map_cons, List.map_nil, List.nil_append, List.cons_append, List.replicate_succ, List.replicate_zero, List.all_nil, List.all_cons, List.contains_nil, List.contains_cons, Option.map_some, Option.map_none, Option.bind_some, Option.bind_none, Bool.and_true, Bool.true_and, Bool.and_false, Bool.false_and, Bool.or_true, Bool.true_or, Bool.or_false, Bool.false_or, Bool.not_true, Bool.not_false, Bool.not_not, Nat.zero_add, Nat.reduceAdd, Nat.reduceSub, Nat.reduceLT, Nat.reduceLeDiff, Nat.reduceEqDiff, reduceIte, if_true, if_false, atI_0, atI_1, atI_2, atI_3, gMul_ok, gMod_pos, gDiv_pos, true_and, and_true, and_self, Nat.reduceBEq, Nat.reduceBNe, beq_self_eq_true, decide_true, decide_false, not_false_iff, not_true, ne_eq, gt_iff_lt, ge_iff_le, Int.reduceEq, Int.reduceNe, Int.reduceLT, Int.reduceLE, Int.cast_ofNat_Int, Int.natCast_one, Int.natCast_zero, reduceCtorEq, Bool.false_eq_true, eq_self, pow9, pow30, p4, eB, hy, d4, dB, m2, d2, p2, pB, hs, ht, hb, m3, m4, eu, z, e]
/-! walks as texts -/
open TL
abbrev PP (q : Int × Int) : D := P2 q.1 q.2
theorem okPPm {W : List (Int × Int)} : okPy (.lst (W.map PP)) = true := by
  have h := okPy_all (k := 1) (by decide) (l := W.map PP) (by
    intro d hd
    obtain ⟨x, _, rfl⟩ := List.mem_map.mp hd
    exact ⟨rfl, Nat.le_refl 1⟩)
  refine okPy_of h.1 ?_
  show PyData.depthAll _ + 1 ≤ 64
  omega
/-- a walk's text -/
def wkL (W : List (Int × Int)) : List Nat := joinL [32] (W.map fun q => plL q.1 q.2)
def GoodW (W : List (Int × Int)) : Prop := (1 ≤ W.length ∧ W.length ≤ 12) ∧ ∀ q ∈ W, PlB q.1 q.2
theorem e_listOf {l : List D} : gListOf [.lst l] = some (.fr l) := rfl
theorem isT_str {s : Str} : isT (.str s) = true := rfl
theorem lit_bl : (" " : Str) = tS [32] := ext_tl (by rw [tl_ofString]; rfl)
theorem strL_strs : ∀ ys : List Str, strL (ys.map D.str) = some ys
  | [] => rfl
  | y :: ys => by
    show (strL (ys.map D.str)).map (y :: ·) = _
    rw [strL_strs ys]
    rfl
theorem joinL_len {y : List Nat} {m : Nat} (hy : y.length = 1) : ∀ l : List (List Nat), (∀ p ∈ l, p.length ≤ m) → (joinL y l).length ≤ l.length * (m + 1)
  | [], _ => Nat.zero_le _
  | [p], h => by
    show p.length ≤ _
    have := h p List.mem_cons_self
    rw [List.length_singleton]
    omega
  | p :: q :: r, h => by
    show (p ++ (y ++ joinL y (q :: r))).length ≤ _
    have h1 := h p List.mem_cons_self
    have h2 := joinL_len hy (q :: r) fun z hz => h z (List.mem_cons_of_mem _ hz)
    rw [List.length_append, List.length_append, hy]
    have e : (p :: q :: r).length * (m + 1) = (q :: r).length * (m + 1) + (m + 1) := by rw [List.length_cons, Nat.add_mul, Nat.one_mul]
    omega
theorem joinL_ok {y : List Nat} (hy : sOk y) : ∀ l : List (List Nat), (∀ p ∈ l, sOk p) → sOk (joinL y l)
  | [], _ => fun c h => nomatch h
  | [p], h => h p List.mem_cons_self
  | p :: q :: r, h => sOk_app (h p List.mem_cons_self) (sOk_app hy (joinL_ok hy (q :: r) fun z hz => h z (List.mem_cons_of_mem _ hz)))
theorem plL_len {p q : Int} (h : PlB p q) : (plL p q).length ≤ 1203 := by
  have h1 := zL_len h.2.1
  have h2 := zL_len h.2.2
  unfold plL
  rw [List.length_append, List.length_cons]
  omega
theorem plL_ok {p q : Int} : sOk (plL p q) := sOk_app zL_ok (sOk_app (l := [47]) (sOk_lit rfl) zL_ok)
theorem plL_free {p q : Int} : 32 ∉ plL p q := by
  unfold plL
  rw [List.mem_append, List.mem_cons]
  rintro (h | h | h)
  · exact zL_free (by decide) h
  · exact absurd h (by decide)
  · exact zL_free (by decide) h
theorem wkL_len {W : List (Int × Int)} (g : GoodW W) : (wkL W).length ≤ 20000 := by
  have h := joinL_len (y := [32]) (m := 1203) rfl (W.map fun q => plL q.1 q.2) (by
    intro p hp
    obtain ⟨q, hq, rfl⟩ := List.mem_map.mp hp
    exact plL_len (g.2 q hq))
  rw [List.length_map] at h
  have := g.1
  unfold wkL
  omega
theorem wkL_ok {W : List (Int × Int)} : sOk (wkL W) := joinL_ok (sOk_lit rfl) _ (by
  intro p hp
  obtain ⟨q, hq, rfl⟩ := List.mem_map.mp hp
  exact plL_ok)
def wkS (W : List (Int × Int)) : List Str := W.map fun q => tS (plL q.1 q.2)
theorem wk_join {W : List (Int × Int)} : Txt.join (tS [32]) (wkS W) = tS (wkL W) := by
  refine ext_tl ?_
  rw [join_eq, tl_join]
  unfold wkS wkL
  rw [List.map_map]
  rfl
theorem sum_le {m : Nat} : ∀ l : List Nat, (∀ x ∈ l, x ≤ m) → l.sum ≤ l.length * m
  | [], _ => Nat.zero_le _
  | x :: l, h => by
    have h1 := h x List.mem_cons_self
    have h2 := sum_le l fun z hz => h z (List.mem_cons_of_mem _ hz)
    rw [List.sum_cons, List.length_cons, Nat.add_mul]
    omega
theorem e_joinW {W : List (Int × Int)} (g : GoodW W) : gJoin (.str " ") [.lst ((wkS W).map D.str)] = some (.sh (.str (tS (wkL W)))) := by
  show (strL ((wkS W).map D.str)).bind _ = _
  rw [strL_strs, Option.bind_some, lit_bl, wk_join, if_pos]
  have h := sum_le (m := 1203) ((wkS W).map (·.length)) (by
    intro x hx
    obtain ⟨s, hs, rfl⟩ := List.mem_map.mp hx
    obtain ⟨q, hq, rfl⟩ := List.mem_map.mp hs
    show (tS (plL q.1 q.2)).length ≤ _
    rw [tS_len]
    exact plL_len (g.2 q hq))
  have hl : (wkS W).length = W.length := List.length_map _
  rw [List.length_map, hl] at h
  have := g.1
  rw [hl, tS_len]
  show _ + W.length * 1 ≤ _
  omega
theorem e_splitW {W : List (Int × Int)} (g : GoodW W) : gSplit (.str (tS (wkL W))) [.str " "] = some (.fr ((wkS W).map D.str)) := by
  rw [lit_bl, e_split ⟨by rw [tS_len]; rfl, by rw [tS_len]; have := wkL_len g; omega⟩, ← wk_join, split_join (s := 32) (S := []) rfl (by show (#[32] : Array Nat).all (fun x => decide (x < 256)) = true; simp) ?_ ?_]
  · intro e
    have hl : (wkS W).length = W.length := List.length_map _
    rw [e] at hl
    have := g.1.1
    rw [List.length_nil] at hl
    omega
  · intro p hp
    obtain ⟨q, hq, rfl⟩ := List.mem_map.mp hp
    exact plL_free
/-- the text of a place that a value is -/
def sTx : D → D
  | .tup [.int p, .int q] => .str (tS (plL p q))
  | _ => .non
theorem map_sTx {W : List (Int × Int)} : (W.map PP).map sTx = (wkS W).map D.str := by
  unfold wkS
  rw [List.map_map, List.map_map]
  rfl
theorem str_pl {p q : Int} (h : PlB p q) {sl : Sl} : gStr [.int p] = some (.sh (.str (tS (zL p)))) ∧ gStr [.int q] = some (.sh (.str (tS (zL q)))) ∧ gAdd (.str (tS (zL p))) (.str "/") = some (.sh (.str (tS (zL p ++ [47])))) ∧ gAdd (.str (tS (zL p ++ [47]))) (.str (tS (zL q))) = some (.sh (.str (tS (plL p q)))) := by
  have a1 := add_str (l := zL p) (m := [47]) (by have := zL_len h.2.1; show (zL p).length + 1 ≤ 1000000; omega)
  have a2 := add_str (l := zL p ++ [47]) (m := zL q) (by have := zL_len h.2.1; have := zL_len h.2.2; rw [List.length_append]; show (zL p).length + 1 + (zL q).length ≤ 1000000; omega)
  refine ⟨str_z h.2.1, str_z h.2.2, by rw [lit_sl]; exact a1, ?_⟩
  rw [a2, List.append_assoc]
  rfl
theorem show_walk_ok {W : List (Int × Int)} (g : GoodW W) : phi_show_walk [.lst (W.map PP)] = some (.ret (.sh (.str (tS (wkL W)))) []) := by
  have lc := vLc_sh (vs := [1]) (it := iLs (oOf (vVar 0))) (ds := W.map PP) (g := gN 1) (c := lc_show_walk_1) (elt := le_show_walk_1) (p := fun _ => true) (f := sTx) (ρ := [some (.sh (.lst (W.map PP))), none]) (ρ0 := [some (.sh (.lst (W.map PP))), none]) (by
      generalize W.map PP = X
      simp -implicitDefEqProofs only [e_seq, k_seq1, k_seq2, k_seq3, k_seq4, k_seq5, e_ex, k_ex1, k_ex2, e_bnd, k_bn1, k_bn2, e_ret, e_nx, e_bk, e_ct, e_c, e_var, k_var1, k_var2, e_mv, k_mv1, k_mv2, e_pk, k_pk, e_get1, e_get2, k_sd1, k_sd2, e_gets1, e_gets2, k_gs, e_vals1, e_vals2, e_oOf, e_d1, e_d2, e_an, e_ac, e_op1, e_op2, e_bi, e_l1, k_l1, e_l2, k_l2, e_lA, k_lA, k_ok, e_tst, k_ts1, k_ts2, e_tand, e_tor, e_tnot, e_vand, e_vor, e_vnot, e_vif, e_iteT, e_iteF, e_tup, k_tp, e_lst, k_ls, e_is, e_call, e_callM, k_cl, k_rs, e_if, e_sret, e_sretN, e_drop, e_asg, k_nx, e_gN, e_gT, e_gLs1, e_gLs2, e_gsN, e_gsC, e_par, e_run, k_ru1, k_ru2, k_ru3, e_out1, e_out2, k_os, e_start, e_stl1, e_stl2, e_fro, e_isFr, k_fr1, k_fr2, e_ioOk1, e_ioOk2, k_ioOk, e_noBr, e_ios1, e_ios2, e_brs1, e_brs2, e_brs3, e_brs4, e_brs5, e_dec1, e_dec2, e_dec3, e_put1, k_put, e_put2, e_outOf1, e_outOf2, e_guard, e_setIx, e_stK, k_stI, e_mt, e_mtK, k_app, k_ext, k_rvs, k_pop, e_chain, e_for, e_forL1, k_turn1, k_turn2, k_turn3, k_turn4, k_turn5, e_R1, k_R1, e_R2, k_R2, e_iLs, k_it, e_iTp, k_tI, e_lsV, e_lsS, k_ls1, k_ls2, k_ls3, e_iZp, e_iEn, e_iRv, e_iSg, k_jSg, e_jZp, k_zp, e_jEn, e_jRev, e_sl, e_pNo, e_pIn, k_pn, e_slL, cut_1, isLst_lst, isLst_tup, isLst_int, e_eqI, e_neI, e_eqB, e_neB, gStr_ok, isInt_int, isInt_bl, isInt_str, isInt_non, isInt_tup, isInt_lst, isBl_int, isBl_bl, isBl_tup, isTup_int, isTup_bl, isTup_str, isTup_non, isTup_tup, isTup_lst, e_sub, e_add, e_addL, e_neg, e_cmp, e_ixL, e_ixT, e_ixS, e_abs, e_max, e_max4, e_min, e_intI, e_intB, e_lenL, e_lenT, e_lenS, e_isT1, e_isT2, e_isT3, e_isTL1, e_isTL2, e_resT1, e_resT2, shL, e_mp, e_mpN, e_mpF, k_mf, k_ck, ckL_1, ckS_1, e_revL, e_gRv, e_iR3, e_jR3, k_R3, isN_1, isN_2, e_callF, k_callF, k_cf, gIs_non, gIs_bl, gIs_int, gIs_str, gIs_tup, gIs_lst, gIs_scr, e_meth, e_mtO, k_isOb, e_mtC, k_okO, e_mk, k_mk, k_mkQ, e_mkE, k_mkE, k_mkR1, k_mkR2, k_fld, e_d3, e_d4, e_d5, k_var3, k_var4, k_var5, k_mv3, k_sd3, k_sd4, k_sd5, e_isOw, k_ow1, k_ow2, e_resOk, e_resL1, e_resL2, e_noBrL, e_isL1, e_isL2, e_isL3, e_isL4, e_isL5, e_isL6, e_isLL1, e_isLL2, k_fr3, k_fr4, k_fr5, e_dnK, e_dnT, e_dputT, e_dputK, e_isDt, e_isDk, k_isDt, k_isDk, e_dtK2, e_dpK, k_dtI, k_dkI, e_keyI, e_keyS, e_inK, e_dxK, e_inT, e_dxT, e_intL2, List.getElem?_cons_zero, List.getElem?_cons_succ, List.getElem?_nil, List.set_cons_zero, List.set_cons_succ, List.length_cons, List.length_nil, List.map_cons, List.map_nil, List.nil_append, List.cons_append, List.replicate_succ, List.replicate_zero, List.all_nil, List.all_cons, List.contains_nil, List.contains_cons, Option.map_some, Option.map_none, Option.bind_some, Option.bind_none, Bool.and_true, Bool.true_and, Bool.and_false, Bool.false_and, Bool.or_true, Bool.true_or, Bool.or_false, Bool.false_or, Bool.not_true, Bool.not_false, Bool.not_not, Nat.zero_add, Nat.reduceAdd, Nat.reduceSub, Nat.reduceLT, Nat.reduceLeDiff, Nat.reduceEqDiff, reduceIte, if_true, if_false, atI_0, atI_1, atI_2, atI_3, gMul_ok, gMod_pos, gDiv_pos, true_and, and_true, and_self, Nat.reduceBEq, Nat.reduceBNe, beq_self_eq_true, decide_true, decide_false, not_false_iff, not_true, ne_eq, gt_iff_lt, ge_iff_le, Int.reduceEq, Int.reduceNe, Int.reduceLT, Int.reduceLE, Int.cast_ofNat_Int, Int.natCast_one, Int.natCast_zero, reduceCtorEq, Bool.false_eq_true, eq_self]) (noFr_1 rfl (fun c h => nomatch h)) (fun d hd => by
      obtain ⟨q, hq, rfl⟩ := List.mem_map.mp hd
      refine ⟨[some (.sh (.lst (W.map PP))), some (.sh (PP q))], rfl, rfl, rfl, rfl, fun _ => ?_⟩
      have e := show_ok (g.2 q hq).2.1 (g.2 q hq).2.2
      generalize W.map PP = X
      unfold le_show_walk_1
      show _ = some (Out.ok (SV.sh (.str (tS (plL q.1 q.2)))) _)
      simp -implicitDefEqProofs only [e_seq, k_seq1, k_seq2, k_seq3, k_seq4, k_seq5, e_ex, k_ex1, k_ex2, e_bnd, k_bn1, k_bn2, e_ret, e_nx, e_bk, e_ct, e_c, e_var, k_var1, k_var2, e_mv, k_mv1, k_mv2, e_pk, k_pk, e_get1, e_get2, k_sd1, k_sd2, e_gets1, e_gets2, k_gs, e_vals1, e_vals2, e_oOf, e_d1, e_d2, e_an, e_ac, e_op1, e_op2, e_bi, e_l1, k_l1, e_l2, k_l2, e_lA, k_lA, k_ok, e_tst, k_ts1, k_ts2, e_tand, e_tor, e_tnot, e_vand, e_vor, e_vnot, e_vif, e_iteT, e_iteF, e_tup, k_tp, e_lst, k_ls, e_is, e_call, e_callM, k_cl, k_rs, e_if, e_sret, e_sretN, e_drop, e_asg, k_nx, e_gN, e_gT, e_gLs1, e_gLs2, e_gsN, e_gsC, e_par, e_run, k_ru1, k_ru2, k_ru3, e_out1, e_out2, k_os, e_start, e_stl1, e_stl2, e_fro, e_isFr, k_fr1, k_fr2, e_ioOk1, e_ioOk2, k_ioOk, e_noBr, e_ios1, e_ios2, e_brs1, e_brs2, e_brs3, e_brs4, e_brs5, e_dec1, e_dec2, e_dec3, e_put1, k_put, e_put2, e_outOf1, e_outOf2, e_guard, e_setIx, e_stK, k_stI, e_mt, e_mtK, k_app, k_ext, k_rvs, k_pop, e_chain, e_for, e_forL1, k_turn1, k_turn2, k_turn3, k_turn4, k_turn5, e_R1, k_R1, e_R2, k_R2, e_iLs, k_it, e_iTp, k_tI, e_lsV, e_lsS, k_ls1, k_ls2, k_ls3, e_iZp, e_iEn, e_iRv, e_iSg, k_jSg, e_jZp, k_zp, e_jEn, e_jRev, e_sl, e_pNo, e_pIn, k_pn, e_slL, cut_1, isLst_lst, isLst_tup, isLst_int, e_eqI, e_neI, e_eqB, e_neB, gStr_ok, isInt_int, isInt_bl, isInt_str, isInt_non, isInt_tup, isInt_lst, isBl_int, isBl_bl, isBl_tup, isTup_int, isTup_bl, isTup_str, isTup_non, isTup_tup, isTup_lst, e_sub, e_add, e_addL, e_neg, e_cmp, e_ixL, e_ixT, e_ixS, e_abs, e_max, e_max4, e_min, e_intI, e_intB, e_lenL, e_lenT, e_lenS, e_isT1, e_isT2, e_isT3, e_isTL1, e_isTL2, e_resT1, e_resT2, shL, e_mp, e_mpN, e_mpF, k_mf, k_ck, ckL_1, ckS_1, e_revL, e_gRv, e_iR3, e_jR3, k_R3, isN_1, isN_2, e_callF, k_callF, k_cf, gIs_non, gIs_bl, gIs_int, gIs_str, gIs_tup, gIs_lst, gIs_scr, e_meth, e_mtO, k_isOb, e_mtC, k_okO, e_mk, k_mk, k_mkQ, e_mkE, k_mkE, k_mkR1, k_mkR2, k_fld, e_d3, e_d4, e_d5, k_var3, k_var4, k_var5, k_mv3, k_sd3, k_sd4, k_sd5, e_isOw, k_ow1, k_ow2, e_resOk, e_resL1, e_resL2, e_noBrL, e_isL1, e_isL2, e_isL3, e_isL4, e_isL5, e_isL6, e_isLL1, e_isLL2, k_fr3, k_fr4, k_fr5, e_dnK, e_dnT, e_dputT, e_dputK, e_isDt, e_isDk, k_isDt, k_isDk, e_dtK2, e_dpK, k_dtI, k_dkI, e_keyI, e_keyS, e_inK, e_dxK, e_inT, e_dxT, e_intL2, List.getElem?_cons_zero, List.getElem?_cons_succ, List.getElem?_nil, List.set_cons_zero, List.set_cons_succ, List.length_cons, List.length_nil, List.map_cons, List.map_nil, List.nil_append, List.cons_append, List.replicate_succ, List.replicate_zero, List.all_nil, List.all_cons, List.contains_nil, List.contains_cons, Option.map_some, Option.map_none, Option.bind_some, Option.bind_none, Bool.and_true, Bool.true_and, Bool.and_false, Bool.false_and, Bool.or_true, Bool.true_or, Bool.or_false, Bool.false_or, Bool.not_true, Bool.not_false, Bool.not_not, Nat.zero_add, Nat.reduceAdd, Nat.reduceSub, Nat.reduceLT, Nat.reduceLeDiff, Nat.reduceEqDiff, reduceIte, if_true, if_false, atI_0, atI_1, atI_2, atI_3, gMul_ok, gMod_pos, gDiv_pos, true_and, and_true, and_self, Nat.reduceBEq, Nat.reduceBNe, beq_self_eq_true, decide_true, decide_false, not_false_iff, not_true, ne_eq, gt_iff_lt, ge_iff_le, Int.reduceEq, Int.reduceNe, Int.reduceLT, Int.reduceLE, Int.cast_ofNat_Int, Int.natCast_one, Int.natCast_zero, reduceCtorEq, Bool.false_eq_true, eq_self, e]) (by rw [List.length_map]; have := g.1; omega)
  rw [filter_true', map_sTx] at lc
  have ej := e_joinW g
  generalize (wkS W).map D.str = Y at *
  generalize W.map PP = X at *
  unfold phi_show_walk b_show_walk
  simp -implicitDefEqProofs only [e_seq, k_seq1, k_seq2, k_seq3, k_seq4, k_seq5, e_ex, k_ex1, k_ex2, e_bnd, k_bn1, k_bn2, e_ret, e_nx, e_bk, e_ct, e_c, e_var, k_var1, k_var2, e_mv, k_mv1, k_mv2, e_pk, k_pk, e_get1, e_get2, k_sd1, k_sd2, e_gets1, e_gets2, k_gs, e_vals1, e_vals2, e_oOf, e_d1, e_d2, e_an, e_ac, e_op1, e_op2, e_bi, e_l1, k_l1, e_l2, k_l2, e_lA, k_lA, k_ok, e_tst, k_ts1, k_ts2, e_tand, e_tor, e_tnot, e_vand, e_vor, e_vnot, e_vif, e_iteT, e_iteF, e_tup, k_tp, e_lst, k_ls, e_is, e_call, e_callM, k_cl, k_rs, e_if, e_sret, e_sretN, e_drop, e_asg, k_nx, e_gN, e_gT, e_gLs1, e_gLs2, e_gsN, e_gsC, e_par, e_run, k_ru1, k_ru2, k_ru3, e_out1, e_out2, k_os, e_start, e_stl1, e_stl2, e_fro, e_isFr, k_fr1, k_fr2, e_ioOk1, e_ioOk2, k_ioOk, e_noBr, e_ios1, e_ios2, e_brs1, e_brs2, e_brs3, e_brs4, e_brs5, e_dec1, e_dec2, e_dec3, e_put1, k_put, e_put2, e_outOf1, e_outOf2, e_guard, e_setIx, e_stK, k_stI, e_mt, e_mtK, k_app, k_ext, k_rvs, k_pop, e_chain, e_for, e_forL1, k_turn1, k_turn2, k_turn3, k_turn4, k_turn5, e_R1, k_R1, e_R2, k_R2, e_iLs, k_it, e_iTp, k_tI, e_lsV, e_lsS, k_ls1, k_ls2, k_ls3, e_iZp, e_iEn, e_iRv, e_iSg, k_jSg, e_jZp, k_zp, e_jEn, e_jRev, e_sl, e_pNo, e_pIn, k_pn, e_slL, cut_1, isLst_lst, isLst_tup, isLst_int, e_eqI, e_neI, e_eqB, e_neB, gStr_ok, isInt_int, isInt_bl, isInt_str, isInt_non, isInt_tup, isInt_lst, isBl_int, isBl_bl, isBl_tup, isTup_int, isTup_bl, isTup_str, isTup_non, isTup_tup, isTup_lst, e_sub, e_add, e_addL, e_neg, e_cmp, e_ixL, e_ixT, e_ixS, e_abs, e_max, e_max4, e_min, e_intI, e_intB, e_lenL, e_lenT, e_lenS, e_isT1, e_isT2, e_isT3, e_isTL1, e_isTL2, e_resT1, e_resT2, shL, e_mp, e_mpN, e_mpF, k_mf, k_ck, ckL_1, ckS_1, e_revL, e_gRv, e_iR3, e_jR3, k_R3, isN_1, isN_2, e_callF, k_callF, k_cf, gIs_non, gIs_bl, gIs_int, gIs_str, gIs_tup, gIs_lst, gIs_scr, e_meth, e_mtO, k_isOb, e_mtC, k_okO, e_mk, k_mk, k_mkQ, e_mkE, k_mkE, k_mkR1, k_mkR2, k_fld, e_d3, e_d4, e_d5, k_var3, k_var4, k_var5, k_mv3, k_sd3, k_sd4, k_sd5, e_isOw, k_ow1, k_ow2, e_resOk, e_resL1, e_resL2, e_noBrL, e_isL1, e_isL2, e_isL3, e_isL4, e_isL5, e_isL6, e_isLL1, e_isLL2, k_fr3, k_fr4, k_fr5, e_dnK, e_dnT, e_dputT, e_dputK, e_isDt, e_isDk, k_isDt, k_isDk, e_dtK2, e_dpK, k_dtI, k_dkI, e_keyI, e_keyS, e_inK, e_dxK, e_inT, e_dxT, e_intL2, List.getElem?_cons_zero, List.getElem?_cons_succ, List.getElem?_nil, List.set_cons_zero, List.set_cons_succ, List.length_cons, List.length_nil, List.map_cons, List.map_nil, List.nil_append, List.cons_append, List.replicate_succ, List.replicate_zero, List.all_nil, List.all_cons, List.contains_nil, List.contains_cons, Option.map_some, Option.map_none, Option.bind_some, Option.bind_none, Bool.and_true, Bool.true_and, Bool.and_false, Bool.false_and, Bool.or_true, Bool.true_or, Bool.or_false, Bool.false_or, Bool.not_true, Bool.not_false, Bool.not_not, Nat.zero_add, Nat.reduceAdd, Nat.reduceSub, Nat.reduceLT, Nat.reduceLeDiff, Nat.reduceEqDiff, reduceIte, if_true, if_false, atI_0, atI_1, atI_2, atI_3, gMul_ok, gMod_pos, gDiv_pos, true_and, and_true, and_self, Nat.reduceBEq, Nat.reduceBNe, beq_self_eq_true, decide_true, decide_false, not_false_iff, not_true, ne_eq, gt_iff_lt, ge_iff_le, Int.reduceEq, Int.reduceNe, Int.reduceLT, Int.reduceLE, Int.cast_ofNat_Int, Int.natCast_one, Int.natCast_zero, reduceCtorEq, Bool.false_eq_true, eq_self, lc, ej]
theorem read_walk_ok {W : List (Int × Int)} (g : GoodW W) (h2 : 2 ≤ W.length) : phi_read_walk [.str (tS (wkL W))] = some (.ret (.fr (W.map PP)) []) := by
  have es := e_splitW g
  have hl : ((wkS W).map D.str).length = W.length := by unfold wkS; rw [List.length_map, List.length_map]
  obtain ⟨l, lc, e1, e2⟩ := vLc_rel (vs := [2]) (it := iLs (oOf (vVar 1))) (ds := (wkS W).map D.str) (g := gN 2) (c := lc_read_walk_1) (elt := le_read_walk_1) (Rl := fun i d => (W.map PP)[i]? = some d) (ρ := [some (.sh (.str (tS (wkL W)))), some (.sh (.lst ((wkS W).map D.str))), none]) (ρ0 := [some (.sh (.str (tS (wkL W)))), some (.fr ((wkS W).map D.str)), none]) (by
      generalize (wkS W).map D.str = Y
      simp -implicitDefEqProofs only [e_seq, k_seq1, k_seq2, k_seq3, k_seq4, k_seq5, e_ex, k_ex1, k_ex2, e_bnd, k_bn1, k_bn2, e_ret, e_nx, e_bk, e_ct, e_c, e_var, k_var1, k_var2, e_mv, k_mv1, k_mv2, e_pk, k_pk, e_get1, e_get2, k_sd1, k_sd2, e_gets1, e_gets2, k_gs, e_vals1, e_vals2, e_oOf, e_d1, e_d2, e_an, e_ac, e_op1, e_op2, e_bi, e_l1, k_l1, e_l2, k_l2, e_lA, k_lA, k_ok, e_tst, k_ts1, k_ts2, e_tand, e_tor, e_tnot, e_vand, e_vor, e_vnot, e_vif, e_iteT, e_iteF, e_tup, k_tp, e_lst, k_ls, e_is, e_call, e_callM, k_cl, k_rs, e_if, e_sret, e_sretN, e_drop, e_asg, k_nx, e_gN, e_gT, e_gLs1, e_gLs2, e_gsN, e_gsC, e_par, e_run, k_ru1, k_ru2, k_ru3, e_out1, e_out2, k_os, e_start, e_stl1, e_stl2, e_fro, e_isFr, k_fr1, k_fr2, e_ioOk1, e_ioOk2, k_ioOk, e_noBr, e_ios1, e_ios2, e_brs1, e_brs2, e_brs3, e_brs4, e_brs5, e_dec1, e_dec2, e_dec3, e_put1, k_put, e_put2, e_outOf1, e_outOf2, e_guard, e_setIx, e_stK, k_stI, e_mt, e_mtK, k_app, k_ext, k_rvs, k_pop, e_chain, e_for, e_forL1, k_turn1, k_turn2, k_turn3, k_turn4, k_turn5, e_R1, k_R1, e_R2, k_R2, e_iLs, k_it, e_iTp, k_tI, e_lsV, e_lsS, k_ls1, k_ls2, k_ls3, e_iZp, e_iEn, e_iRv, e_iSg, k_jSg, e_jZp, k_zp, e_jEn, e_jRev, e_sl, e_pNo, e_pIn, k_pn, e_slL, cut_1, isLst_lst, isLst_tup, isLst_int, e_eqI, e_neI, e_eqB, e_neB, gStr_ok, isInt_int, isInt_bl, isInt_str, isInt_non, isInt_tup, isInt_lst, isBl_int, isBl_bl, isBl_tup, isTup_int, isTup_bl, isTup_str, isTup_non, isTup_tup, isTup_lst, e_sub, e_add, e_addL, e_neg, e_cmp, e_ixL, e_ixT, e_ixS, e_abs, e_max, e_max4, e_min, e_intI, e_intB, e_lenL, e_lenT, e_lenS, e_isT1, e_isT2, e_isT3, e_isTL1, e_isTL2, e_resT1, e_resT2, shL, e_mp, e_mpN, e_mpF, k_mf, k_ck, ckL_1, ckS_1, e_revL, e_gRv, e_iR3, e_jR3, k_R3, isN_1, isN_2, e_callF, k_callF, k_cf, gIs_non, gIs_bl, gIs_int, gIs_str, gIs_tup, gIs_lst, gIs_scr, e_meth, e_mtO, k_isOb, e_mtC, k_okO, e_mk, k_mk, k_mkQ, e_mkE, k_mkE, k_mkR1, k_mkR2, k_fld, e_d3, e_d4, e_d5, k_var3, k_var4, k_var5, k_mv3, k_sd3, k_sd4, k_sd5, e_isOw, k_ow1, k_ow2, e_resOk, e_resL1, e_resL2, e_noBrL, e_isL1, e_isL2, e_isL3, e_isL4, e_isL5, e_isL6, e_isLL1, e_isLL2, k_fr3, k_fr4, k_fr5, e_dnK, e_dnT, e_dputT, e_dputK, e_isDt, e_isDk, k_isDt, k_isDk, e_dtK2, e_dpK, k_dtI, k_dkI, e_keyI, e_keyS, e_inK, e_dxK, e_inT, e_dxT, e_intL2, List.getElem?_cons_zero, List.getElem?_cons_succ, List.getElem?_nil, List.set_cons_zero, List.set_cons_succ, List.length_cons, List.length_nil, List.map_cons, List.map_nil, List.nil_append, List.cons_append, List.replicate_succ, List.replicate_zero, List.all_nil, List.all_cons, List.contains_nil, List.contains_cons, Option.map_some, Option.map_none, Option.bind_some, Option.bind_none, Bool.and_true, Bool.true_and, Bool.and_false, Bool.false_and, Bool.or_true, Bool.true_or, Bool.or_false, Bool.false_or, Bool.not_true, Bool.not_false, Bool.not_not, Nat.zero_add, Nat.reduceAdd, Nat.reduceSub, Nat.reduceLT, Nat.reduceLeDiff, Nat.reduceEqDiff, reduceIte, if_true, if_false, atI_0, atI_1, atI_2, atI_3, gMul_ok, gMod_pos, gDiv_pos, true_and, and_true, and_self, Nat.reduceBEq, Nat.reduceBNe, beq_self_eq_true, decide_true, decide_false, not_false_iff, not_true, ne_eq, gt_iff_lt, ge_iff_le, Int.reduceEq, Int.reduceNe, Int.reduceLT, Int.reduceLE, Int.cast_ofNat_Int, Int.natCast_one, Int.natCast_zero, reduceCtorEq, Bool.false_eq_true, eq_self]) (noFr_1 rfl (fun c h => nomatch h)) rfl (fun i d hd => by
      unfold wkS at hd
      rw [List.map_map, List.getElem?_map] at hd
      obtain ⟨q, hq, rfl⟩ := Option.map_eq_some_iff.mp hd
      have hm := List.mem_of_getElem? hq
      have gq := g.2 q hm
      have e : phi_read_place [.str (tS (plL q.1 q.2))] = some (.ret (.sh (PP q)) []) := read_pl (numS_zL gq.2.1) (numS_zL gq.2.2) (zL_free (by decide)) gq.1
      refine ⟨[some (.sh (.str (tS (wkL W)))), some (.sh (.lst ((wkS W).map D.str))), some (.sh (.str (tS (plL q.1 q.2))))], .sh (PP q), rfl, rfl, rfl, ?_, ?_⟩
      · generalize (wkS W).map D.str = Y
        unfold le_read_walk_1
        simp -implicitDefEqProofs only [e_seq, k_seq1, k_seq2, k_seq3, k_seq4, k_seq5, e_ex, k_ex1, k_ex2, e_bnd, k_bn1, k_bn2, e_ret, e_nx, e_bk, e_ct, e_c, e_var, k_var1, k_var2, e_mv, k_mv1, k_mv2, e_pk, k_pk, e_get1, e_get2, k_sd1, k_sd2, e_gets1, e_gets2, k_gs, e_vals1, e_vals2, e_oOf, e_d1, e_d2, e_an, e_ac, e_op1, e_op2, e_bi, e_l1, k_l1, e_l2, k_l2, e_lA, k_lA, k_ok, e_tst, k_ts1, k_ts2, e_tand, e_tor, e_tnot, e_vand, e_vor, e_vnot, e_vif, e_iteT, e_iteF, e_tup, k_tp, e_lst, k_ls, e_is, e_call, e_callM, k_cl, k_rs, e_if, e_sret, e_sretN, e_drop, e_asg, k_nx, e_gN, e_gT, e_gLs1, e_gLs2, e_gsN, e_gsC, e_par, e_run, k_ru1, k_ru2, k_ru3, e_out1, e_out2, k_os, e_start, e_stl1, e_stl2, e_fro, e_isFr, k_fr1, k_fr2, e_ioOk1, e_ioOk2, k_ioOk, e_noBr, e_ios1, e_ios2, e_brs1, e_brs2, e_brs3, e_brs4, e_brs5, e_dec1, e_dec2, e_dec3, e_put1, k_put, e_put2, e_outOf1, e_outOf2, e_guard, e_setIx, e_stK, k_stI, e_mt, e_mtK, k_app, k_ext, k_rvs, k_pop, e_chain, e_for, e_forL1, k_turn1, k_turn2, k_turn3, k_turn4, k_turn5, e_R1, k_R1, e_R2, k_R2, e_iLs, k_it, e_iTp, k_tI, e_lsV, e_lsS, k_ls1, k_ls2, k_ls3, e_iZp, e_iEn, e_iRv, e_iSg, k_jSg, e_jZp, k_zp, e_jEn, e_jRev, e_sl, e_pNo, e_pIn, k_pn, e_slL, cut_1, isLst_lst, isLst_tup, isLst_int, e_eqI, e_neI, e_eqB, e_neB, gStr_ok, isInt_int, isInt_bl, isInt_str, isInt_non, isInt_tup, isInt_lst, isBl_int, isBl_bl, isBl_tup, isTup_int, isTup_bl, isTup_str, isTup_non, isTup_tup, isTup_lst, e_sub, e_add, e_addL, e_neg, e_cmp, e_ixL, e_ixT, e_ixS, e_abs, e_max, e_max4, e_min, e_intI, e_intB, e_lenL, e_lenT, e_lenS, e_isT1, e_isT2, e_isT3, e_isTL1, e_isTL2, e_resT1, e_resT2, shL, e_mp, e_mpN, e_mpF, k_mf, k_ck, ckL_1, ckS_1, e_revL, e_gRv, e_iR3, e_jR3, k_R3, isN_1, isN_2, e_callF, k_callF, k_cf, gIs_non, gIs_bl, gIs_int, gIs_str, gIs_tup, gIs_lst, gIs_scr, e_meth, e_mtO, k_isOb, e_mtC, k_okO, e_mk, k_mk, k_mkQ, e_mkE, k_mkE, k_mkR1, k_mkR2, k_fld, e_d3, e_d4, e_d5, k_var3, k_var4, k_var5, k_mv3, k_sd3, k_sd4, k_sd5, e_isOw, k_ow1, k_ow2, e_resOk, e_resL1, e_resL2, e_noBrL, e_isL1, e_isL2, e_isL3, e_isL4, e_isL5, e_isL6, e_isLL1, e_isLL2, k_fr3, k_fr4, k_fr5, e_dnK, e_dnT, e_dputT, e_dputK, e_isDt, e_isDk, k_isDt, k_isDk, e_dtK2, e_dpK, k_dtI, k_dkI, e_keyI, e_keyS, e_inK, e_dxK, e_inT, e_dxT, e_intL2, List.getElem?_cons_zero, List.getElem?_cons_succ, List.getElem?_nil, List.set_cons_zero, List.set_cons_succ, List.length_cons, List.length_nil, List.map_cons, List.map_nil, List.nil_append, List.cons_append, List.replicate_succ, List.replicate_zero, List.all_nil, List.all_cons, List.contains_nil, List.contains_cons, Option.map_some, Option.map_none, Option.bind_some, Option.bind_none, Bool.and_true, Bool.true_and, Bool.and_false, Bool.false_and, Bool.or_true, Bool.true_or, Bool.or_false, Bool.false_or, Bool.not_true, Bool.not_false, Bool.not_not, Nat.zero_add, Nat.reduceAdd, Nat.reduceSub, Nat.reduceLT, Nat.reduceLeDiff, Nat.reduceEqDiff, reduceIte, if_true, if_false, atI_0, atI_1, atI_2, atI_3, gMul_ok, gMod_pos, gDiv_pos, true_and, and_true, and_self, Nat.reduceBEq, Nat.reduceBNe, beq_self_eq_true, decide_true, decide_false, not_false_iff, not_true, ne_eq, gt_iff_lt, ge_iff_le, Int.reduceEq, Int.reduceNe, Int.reduceLT, Int.reduceLE, Int.cast_ofNat_Int, Int.natCast_one, Int.natCast_zero, reduceCtorEq, Bool.false_eq_true, eq_self, e]
      · rw [List.getElem?_map, hq]
        rfl) (by rw [hl]; have := g.1; omega)
  have el : l = W.map PP := by
    refine List.ext_getElem? fun i => ?_
    by_cases hi : i < W.length
    · obtain ⟨d, h1, h3⟩ := e2 i (by rw [hl]; exact hi)
      rw [h1, h3]
    · rw [List.getElem?_eq_none (by rw [e1, hl]; omega), List.getElem?_eq_none (by rw [List.length_map]; omega)]
  subst el
  have c1 : decide ((2 : Int) ≤ (((wkS W).map D.str).length : Nat)) = true := decide_eq_true (by rw [hl]; omega)
  have c2 : decide ((((wkS W).map D.str).length : Int) ≤ 12) = true := decide_eq_true (by rw [hl]; have := g.1; omega)
  have hl2 : ((wkS W).map D.str).length ≤ 1000000 := by rw [hl]; have := g.1; omega
  generalize (wkS W).map D.str = Y at *
  generalize W.map PP = X at *
  unfold phi_read_walk b_read_walk
  simp -implicitDefEqProofs only [e_seq, k_seq1, k_seq2, k_seq3, k_seq4, k_seq5, e_ex, k_ex1, k_ex2, e_bnd, k_bn1, k_bn2, e_ret, e_nx, e_bk, e_ct, e_c, e_var, k_var1, k_var2, e_mv, k_mv1, k_mv2, e_pk, k_pk, e_get1, e_get2, k_sd1, k_sd2, e_gets1, e_gets2, k_gs, e_vals1, e_vals2, e_oOf, e_d1, e_d2, e_an, e_ac, e_op1, e_op2, e_bi, e_l1, k_l1, e_l2, k_l2, e_lA, k_lA, k_ok, e_tst, k_ts1, k_ts2, e_tand, e_tor, e_tnot, e_vand, e_vor, e_vnot, e_vif, e_iteT, e_iteF, e_tup, k_tp, e_lst, k_ls, e_is, e_call, e_callM, k_cl, k_rs, e_if, e_sret, e_sretN, e_drop, e_asg, k_nx, e_gN, e_gT, e_gLs1, e_gLs2, e_gsN, e_gsC, e_par, e_run, k_ru1, k_ru2, k_ru3, e_out1, e_out2, k_os, e_start, e_stl1, e_stl2, e_fro, e_isFr, k_fr1, k_fr2, e_ioOk1, e_ioOk2, k_ioOk, e_noBr, e_ios1, e_ios2, e_brs1, e_brs2, e_brs3, e_brs4, e_brs5, e_dec1, e_dec2, e_dec3, e_put1, k_put, e_put2, e_outOf1, e_outOf2, e_guard, e_setIx, e_stK, k_stI, e_mt, e_mtK, k_app, k_ext, k_rvs, k_pop, e_chain, e_for, e_forL1, k_turn1, k_turn2, k_turn3, k_turn4, k_turn5, e_R1, k_R1, e_R2, k_R2, e_iLs, k_it, e_iTp, k_tI, e_lsV, e_lsS, k_ls1, k_ls2, k_ls3, e_iZp, e_iEn, e_iRv, e_iSg, k_jSg, e_jZp, k_zp, e_jEn, e_jRev, e_sl, e_pNo, e_pIn, k_pn, e_slL, cut_1, isLst_lst, isLst_tup, isLst_int, e_eqI, e_neI, e_eqB, e_neB, gStr_ok, isInt_int, isInt_bl, isInt_str, isInt_non, isInt_tup, isInt_lst, isBl_int, isBl_bl, isBl_tup, isTup_int, isTup_bl, isTup_str, isTup_non, isTup_tup, isTup_lst, e_sub, e_add, e_addL, e_neg, e_cmp, e_ixL, e_ixT, e_ixS, e_abs, e_max, e_max4, e_min, e_intI, e_intB, e_lenL, e_lenT, e_lenS, e_isT1, e_isT2, e_isT3, e_isTL1, e_isTL2, e_resT1, e_resT2, shL, e_mp, e_mpN, e_mpF, k_mf, k_ck, ckL_1, ckS_1, e_revL, e_gRv, e_iR3, e_jR3, k_R3, isN_1, isN_2, e_callF, k_callF, k_cf, gIs_non, gIs_bl, gIs_int, gIs_str, gIs_tup, gIs_lst, gIs_scr, e_meth, e_mtO, k_isOb, e_mtC, k_okO, e_mk, k_mk, k_mkQ, e_mkE, k_mkE, k_mkR1, k_mkR2, k_fld, e_d3, e_d4, e_d5, k_var3, k_var4, k_var5, k_mv3, k_sd3, k_sd4, k_sd5, e_isOw, k_ow1, k_ow2, e_resOk, e_resL1, e_resL2, e_noBrL, e_isL1, e_isL2, e_isL3, e_isL4, e_isL5, e_isL6, e_isLL1, e_isLL2, k_fr3, k_fr4, k_fr5, e_dnK, e_dnT, e_dputT, e_dputK, e_isDt, e_isDk, k_isDt, k_isDk, e_dtK2, e_dpK, k_dtI, k_dkI, e_keyI, e_keyS, e_inK, e_dxK, e_inT, e_dxT, e_intL2, List.getElem?_cons_zero, List.getElem?_cons_succ, List.getElem?_nil, List.set_cons_zero, List.set_cons_succ, List.length_cons, List.length_nil, List.map_cons, List.map_nil, List.nil_append, List.cons_append, List.replicate_succ, List.replicate_zero, List.all_nil, List.all_cons, List.contains_nil, List.contains_cons, Option.map_some, Option.map_none, Option.bind_some, Option.bind_none, Bool.and_true, Bool.true_and, Bool.and_false, Bool.false_and, Bool.or_true, Bool.true_or, Bool.or_false, Bool.false_or, Bool.not_true, Bool.not_false, Bool.not_not, Nat.zero_add, Nat.reduceAdd, Nat.reduceSub, Nat.reduceLT, Nat.reduceLeDiff, Nat.reduceEqDiff, reduceIte, if_true, if_false, atI_0, atI_1, atI_2, atI_3, gMul_ok, gMod_pos, gDiv_pos, true_and, and_true, and_self, Nat.reduceBEq, Nat.reduceBNe, beq_self_eq_true, decide_true, decide_false, not_false_iff, not_true, ne_eq, gt_iff_lt, ge_iff_le, Int.reduceEq, Int.reduceNe, Int.reduceLT, Int.reduceLE, Int.cast_ofNat_Int, Int.natCast_one, Int.natCast_zero, reduceCtorEq, Bool.false_eq_true, eq_self, isStr_str, es, c1, c2, lc, hl2]
theorem all_lc {W : List (Int × Int)} (g : GoodW W) {s0 s1 s2 s3 s4 s6 s7 : Option SV} : vLc [8] (iLs (oPk 5)) (gN 8) lc_law_right_2 le_law_right_2 [s0, s1, s2, s3, s4, some (.fr (W.map PP)), s6, s7, none] = some (.ok (.fr (List.replicate W.length (.bl true))) [s0, s1, s2, s3, s4, some (.fr (W.map PP)), s6, s7, none]) := by
  have lc := vLc_bw (vs := [8]) (it := iLs (oPk 5)) (i := 5) (ds := W.map PP) (g := gN 8) (c := lc_law_right_2) (elt := le_law_right_2) (p := fun _ => true) (f := fun _ => .bl true) (ρ := [s0, s1, s2, s3, s4, some (.fr (W.map PP)), s6, s7, none]) (ρ0 := [s0, s1, s2, s3, s4, some (.fr (W.map PP)), s6, s7, none]) (by
      generalize W.map PP = X
      simp -implicitDefEqProofs only [e_seq, k_seq1, k_seq2, k_seq3, k_seq4, k_seq5, e_ex, k_ex1, k_ex2, e_bnd, k_bn1, k_bn2, e_ret, e_nx, e_bk, e_ct, e_c, e_var, k_var1, k_var2, e_mv, k_mv1, k_mv2, e_pk, k_pk, e_get1, e_get2, k_sd1, k_sd2, e_gets1, e_gets2, k_gs, e_vals1, e_vals2, e_oOf, e_d1, e_d2, e_an, e_ac, e_op1, e_op2, e_bi, e_l1, k_l1, e_l2, k_l2, e_lA, k_lA, k_ok, e_tst, k_ts1, k_ts2, e_tand, e_tor, e_tnot, e_vand, e_vor, e_vnot, e_vif, e_iteT, e_iteF, e_tup, k_tp, e_lst, k_ls, e_is, e_call, e_callM, k_cl, k_rs, e_if, e_sret, e_sretN, e_drop, e_asg, k_nx, e_gN, e_gT, e_gLs1, e_gLs2, e_gsN, e_gsC, e_par, e_run, k_ru1, k_ru2, k_ru3, e_out1, e_out2, k_os, e_start, e_stl1, e_stl2, e_fro, e_isFr, k_fr1, k_fr2, e_ioOk1, e_ioOk2, k_ioOk, e_noBr, e_ios1, e_ios2, e_brs1, e_brs2, e_brs3, e_brs4, e_brs5, e_dec1, e_dec2, e_dec3, e_put1, k_put, e_put2, e_outOf1, e_outOf2, e_guard, e_setIx, e_stK, k_stI, e_mt, e_mtK, k_app, k_ext, k_rvs, k_pop, e_chain, e_for, e_forL1, k_turn1, k_turn2, k_turn3, k_turn4, k_turn5, e_R1, k_R1, e_R2, k_R2, e_iLs, k_it, e_iTp, k_tI, e_lsV, e_lsS, k_ls1, k_ls2, k_ls3, e_iZp, e_iEn, e_iRv, e_iSg, k_jSg, e_jZp, k_zp, e_jEn, e_jRev, e_sl, e_pNo, e_pIn, k_pn, e_slL, cut_1, isLst_lst, isLst_tup, isLst_int, e_eqI, e_neI, e_eqB, e_neB, gStr_ok, isInt_int, isInt_bl, isInt_str, isInt_non, isInt_tup, isInt_lst, isBl_int, isBl_bl, isBl_tup, isTup_int, isTup_bl, isTup_str, isTup_non, isTup_tup, isTup_lst, e_sub, e_add, e_addL, e_neg, e_cmp, e_ixL, e_ixT, e_ixS, e_abs, e_max, e_max4, e_min, e_intI, e_intB, e_lenL, e_lenT, e_lenS, e_isT1, e_isT2, e_isT3, e_isTL1, e_isTL2, e_resT1, e_resT2, shL, e_mp, e_mpN, e_mpF, k_mf, k_ck, ckL_1, ckS_1, e_revL, e_gRv, e_iR3, e_jR3, k_R3, isN_1, isN_2, e_callF, k_callF, k_cf, gIs_non, gIs_bl, gIs_int, gIs_str, gIs_tup, gIs_lst, gIs_scr, e_meth, e_mtO, k_isOb, e_mtC, k_okO, e_mk, k_mk, k_mkQ, e_mkE, k_mkE, k_mkR1, k_mkR2, k_fld, e_d3, e_d4, e_d5, k_var3, k_var4, k_var5, k_mv3, k_sd3, k_sd4, k_sd5, e_isOw, k_ow1, k_ow2, e_resOk, e_resL1, e_resL2, e_noBrL, e_isL1, e_isL2, e_isL3, e_isL4, e_isL5, e_isL6, e_isLL1, e_isLL2, k_fr3, k_fr4, k_fr5, e_dnK, e_dnT, e_dputT, e_dputK, e_isDt, e_isDk, k_isDt, k_isDk, e_dtK2, e_dpK, k_dtI, k_dkI, e_keyI, e_keyS, e_inK, e_dxK, e_inT, e_dxT, e_intL2, List.getElem?_cons_zero, List.getElem?_cons_succ, List.getElem?_nil, List.set_cons_zero, List.set_cons_succ, List.length_cons, List.length_nil, List.map_cons, List.map_nil, List.nil_append, List.cons_append, List.replicate_succ, List.replicate_zero, List.all_nil, List.all_cons, List.contains_nil, List.contains_cons, Option.map_some, Option.map_none, Option.bind_some, Option.bind_none, Bool.and_true, Bool.true_and, Bool.and_false, Bool.false_and, Bool.or_true, Bool.true_or, Bool.or_false, Bool.false_or, Bool.not_true, Bool.not_false, Bool.not_not, Nat.zero_add, Nat.reduceAdd, Nat.reduceSub, Nat.reduceLT, Nat.reduceLeDiff, Nat.reduceEqDiff, reduceIte, if_true, if_false, atI_0, atI_1, atI_2, atI_3, gMul_ok, gMod_pos, gDiv_pos, true_and, and_true, and_self, Nat.reduceBEq, Nat.reduceBNe, beq_self_eq_true, decide_true, decide_false, not_false_iff, not_true, ne_eq, gt_iff_lt, ge_iff_le, Int.reduceEq, Int.reduceNe, Int.reduceLT, Int.reduceLE, Int.cast_ofNat_Int, Int.natCast_one, Int.natCast_zero, reduceCtorEq, Bool.false_eq_true, eq_self]) (noFr_1 rfl (fun c h => nomatch h)) (by decide) rfl (fun d hd => by
      obtain ⟨q, hq, rfl⟩ := List.mem_map.mp hd
      refine ⟨[s0, s1, s2, s3, s4, some (.fr (W.map PP)), s6, s7, some (.sh (PP q))], rfl, rfl, rfl, rfl, fun _ => ?_⟩
      generalize W.map PP = X
      unfold le_law_right_2
      simp -implicitDefEqProofs only [e_seq, k_seq1, k_seq2, k_seq3, k_seq4, k_seq5, e_ex, k_ex1, k_ex2, e_bnd, k_bn1, k_bn2, e_ret, e_nx, e_bk, e_ct, e_c, e_var, k_var1, k_var2, e_mv, k_mv1, k_mv2, e_pk, k_pk, e_get1, e_get2, k_sd1, k_sd2, e_gets1, e_gets2, k_gs, e_vals1, e_vals2, e_oOf, e_d1, e_d2, e_an, e_ac, e_op1, e_op2, e_bi, e_l1, k_l1, e_l2, k_l2, e_lA, k_lA, k_ok, e_tst, k_ts1, k_ts2, e_tand, e_tor, e_tnot, e_vand, e_vor, e_vnot, e_vif, e_iteT, e_iteF, e_tup, k_tp, e_lst, k_ls, e_is, e_call, e_callM, k_cl, k_rs, e_if, e_sret, e_sretN, e_drop, e_asg, k_nx, e_gN, e_gT, e_gLs1, e_gLs2, e_gsN, e_gsC, e_par, e_run, k_ru1, k_ru2, k_ru3, e_out1, e_out2, k_os, e_start, e_stl1, e_stl2, e_fro, e_isFr, k_fr1, k_fr2, e_ioOk1, e_ioOk2, k_ioOk, e_noBr, e_ios1, e_ios2, e_brs1, e_brs2, e_brs3, e_brs4, e_brs5, e_dec1, e_dec2, e_dec3, e_put1, k_put, e_put2, e_outOf1, e_outOf2, e_guard, e_setIx, e_stK, k_stI, e_mt, e_mtK, k_app, k_ext, k_rvs, k_pop, e_chain, e_for, e_forL1, k_turn1, k_turn2, k_turn3, k_turn4, k_turn5, e_R1, k_R1, e_R2, k_R2, e_iLs, k_it, e_iTp, k_tI, e_lsV, e_lsS, k_ls1, k_ls2, k_ls3, e_iZp, e_iEn, e_iRv, e_iSg, k_jSg, e_jZp, k_zp, e_jEn, e_jRev, e_sl, e_pNo, e_pIn, k_pn, e_slL, cut_1, isLst_lst, isLst_tup, isLst_int, e_eqI, e_neI, e_eqB, e_neB, gStr_ok, isInt_int, isInt_bl, isInt_str, isInt_non, isInt_tup, isInt_lst, isBl_int, isBl_bl, isBl_tup, isTup_int, isTup_bl, isTup_str, isTup_non, isTup_tup, isTup_lst, e_sub, e_add, e_addL, e_neg, e_cmp, e_ixL, e_ixT, e_ixS, e_abs, e_max, e_max4, e_min, e_intI, e_intB, e_lenL, e_lenT, e_lenS, e_isT1, e_isT2, e_isT3, e_isTL1, e_isTL2, e_resT1, e_resT2, shL, e_mp, e_mpN, e_mpF, k_mf, k_ck, ckL_1, ckS_1, e_revL, e_gRv, e_iR3, e_jR3, k_R3, isN_1, isN_2, e_callF, k_callF, k_cf, gIs_non, gIs_bl, gIs_int, gIs_str, gIs_tup, gIs_lst, gIs_scr, e_meth, e_mtO, k_isOb, e_mtC, k_okO, e_mk, k_mk, k_mkQ, e_mkE, k_mkE, k_mkR1, k_mkR2, k_fld, e_d3, e_d4, e_d5, k_var3, k_var4, k_var5, k_mv3, k_sd3, k_sd4, k_sd5, e_isOw, k_ow1, k_ow2, e_resOk, e_resL1, e_resL2, e_noBrL, e_isL1, e_isL2, e_isL3, e_isL4, e_isL5, e_isL6, e_isLL1, e_isLL2, k_fr3, k_fr4, k_fr5, e_dnK, e_dnT, e_dputT, e_dputK, e_isDt, e_isDk, k_isDt, k_isDk, e_dtK2, e_dpK, k_dtI, k_dkI, e_keyI, e_keyS, e_inK, e_dxK, e_inT, e_dxT, e_intL2, List.getElem?_cons_zero, List.getElem?_cons_succ, List.getElem?_nil, List.set_cons_zero, List.set_cons_succ, List.length_cons, List.length_nil, List.map_cons, List.map_nil, List.nil_append, List.cons_append, List.replicate_succ, List.replicate_zero, List.all_nil, List.all_cons, List.contains_nil, List.contains_cons, Option.map_some, Option.map_none, Option.bind_some, Option.bind_none, Bool.and_true, Bool.true_and, Bool.and_false, Bool.false_and, Bool.or_true, Bool.true_or, Bool.or_false, Bool.false_or, Bool.not_true, Bool.not_false, Bool.not_not, Nat.zero_add, Nat.reduceAdd, Nat.reduceSub, Nat.reduceLT, Nat.reduceLeDiff, Nat.reduceEqDiff, reduceIte, if_true, if_false, atI_0, atI_1, atI_2, atI_3, gMul_ok, gMod_pos, gDiv_pos, true_and, and_true, and_self, Nat.reduceBEq, Nat.reduceBNe, beq_self_eq_true, decide_true, decide_false, not_false_iff, not_true, ne_eq, gt_iff_lt, ge_iff_le, Int.reduceEq, Int.reduceNe, Int.reduceLT, Int.reduceLE, Int.cast_ofNat_Int, Int.natCast_one, Int.natCast_zero, reduceCtorEq, Bool.false_eq_true, eq_self, whole_ok]) (by rw [List.length_map]; have := g.1; omega)
  rw [filter_true', map_const, List.length_map] at lc
  exact lc
theorem right_turn {W : List (Int × Int)} (g : GoodW W) (h2 : 2 ≤ W.length) {s1 s3 s4 t5 : Option SV} : ∃ u5, fb_law_right_1 [some (.sh (.lst (W.map PP))), s1, some (.sh (.str (tS (wkL W)))), s3, s4, t5, none, none, none] = some (.nx [some (.sh (.lst (W.map PP))), s1, some (.sh (.str (tS (wkL W)))), s3, s4, u5, none, none, none]) := by
  have e := read_walk_ok g h2
  have n := ne_self' (okPPm (W := W))
  have lc := @all_lc W g (some (.sh (.lst (W.map PP)))) s1 (some (.sh (.str (tS (wkL W))))) s3 s4 none none
  have hl : (W.map PP).length < 1000000 := by rw [List.length_map]; have := g.1; omega
  refine ⟨some (.fr (W.map PP ++ [P2 0 1])), ?_⟩
  generalize W.map PP = X at *
  unfold fb_law_right_1
  simp -implicitDefEqProofs only [e_seq, k_seq1, k_seq2, k_seq3, k_seq4, k_seq5, e_ex, k_ex1, k_ex2, e_bnd, k_bn1, k_bn2, e_ret, e_nx, e_bk, e_ct, e_c, e_var, k_var1, k_var2, e_mv, k_mv1, k_mv2, e_pk, k_pk, e_get1, e_get2, k_sd1, k_sd2, e_gets1, e_gets2, k_gs, e_vals1, e_vals2, e_oOf, e_d1, e_d2, e_an, e_ac, e_op1, e_op2, e_bi, e_l1, k_l1, e_l2, k_l2, e_lA, k_lA, k_ok, e_tst, k_ts1, k_ts2, e_tand, e_tor, e_tnot, e_vand, e_vor, e_vnot, e_vif, e_iteT, e_iteF, e_tup, k_tp, e_lst, k_ls, e_is, e_call, e_callM, k_cl, k_rs, e_if, e_sret, e_sretN, e_drop, e_asg, k_nx, e_gN, e_gT, e_gLs1, e_gLs2, e_gsN, e_gsC, e_par, e_run, k_ru1, k_ru2, k_ru3, e_out1, e_out2, k_os, e_start, e_stl1, e_stl2, e_fro, e_isFr, k_fr1, k_fr2, e_ioOk1, e_ioOk2, k_ioOk, e_noBr, e_ios1, e_ios2, e_brs1, e_brs2, e_brs3, e_brs4, e_brs5, e_dec1, e_dec2, e_dec3, e_put1, k_put, e_put2, e_outOf1, e_outOf2, e_guard, e_setIx, e_stK, k_stI, e_mt, e_mtK, k_app, k_ext, k_rvs, k_pop, e_chain, e_for, e_forL1, k_turn1, k_turn2, k_turn3, k_turn4, k_turn5, e_R1, k_R1, e_R2, k_R2, e_iLs, k_it, e_iTp, k_tI, e_lsV, e_lsS, k_ls1, k_ls2, k_ls3, e_iZp, e_iEn, e_iRv, e_iSg, k_jSg, e_jZp, k_zp, e_jEn, e_jRev, e_sl, e_pNo, e_pIn, k_pn, e_slL, cut_1, isLst_lst, isLst_tup, isLst_int, e_eqI, e_neI, e_eqB, e_neB, gStr_ok, isInt_int, isInt_bl, isInt_str, isInt_non, isInt_tup, isInt_lst, isBl_int, isBl_bl, isBl_tup, isTup_int, isTup_bl, isTup_str, isTup_non, isTup_tup, isTup_lst, e_sub, e_add, e_addL, e_neg, e_cmp, e_ixL, e_ixT, e_ixS, e_abs, e_max, e_max4, e_min, e_intI, e_intB, e_lenL, e_lenT, e_lenS, e_isT1, e_isT2, e_isT3, e_isTL1, e_isTL2, e_resT1, e_resT2, shL, e_mp, e_mpN, e_mpF, k_mf, k_ck, ckL_1, ckS_1, e_revL, e_gRv, e_iR3, e_jR3, k_R3, isN_1, isN_2, e_callF, k_callF, k_cf, gIs_non, gIs_bl, gIs_int, gIs_str, gIs_tup, gIs_lst, gIs_scr, e_meth, e_mtO, k_isOb, e_mtC, k_okO, e_mk, k_mk, k_mkQ, e_mkE, k_mkE, k_mkR1, k_mkR2, k_fld, e_d3, e_d4, e_d5, k_var3, k_var4, k_var5, k_mv3, k_sd3, k_sd4, k_sd5, e_isOw, k_ow1, k_ow2, e_resOk, e_resL1, e_resL2, e_noBrL, e_isL1, e_isL2, e_isL3, e_isL4, e_isL5, e_isL6, e_isLL1, e_isLL2, k_fr3, k_fr4, k_fr5, e_dnK, e_dnT, e_dputT, e_dputK, e_isDt, e_isDk, k_isDt, k_isDk, e_dtK2, e_dpK, k_dtI, k_dkI, e_keyI, e_keyS, e_inK, e_dxK, e_inT, e_dxT, e_intL2, List.getElem?_cons_zero, List.getElem?_cons_succ, List.getElem?_nil, List.set_cons_zero, List.set_cons_succ, List.length_cons, List.length_nil, List.map_cons, List.map_nil, List.nil_append, List.cons_append, List.replicate_succ, List.replicate_zero, List.all_nil, List.all_cons, List.contains_nil, List.contains_cons, Option.map_some, Option.map_none, Option.bind_some, Option.bind_none, Bool.and_true, Bool.true_and, Bool.and_false, Bool.false_and, Bool.or_true, Bool.true_or, Bool.or_false, Bool.false_or, Bool.not_true, Bool.not_false, Bool.not_not, Nat.zero_add, Nat.reduceAdd, Nat.reduceSub, Nat.reduceLT, Nat.reduceLeDiff, Nat.reduceEqDiff, reduceIte, if_true, if_false, atI_0, atI_1, atI_2, atI_3, gMul_ok, gMod_pos, gDiv_pos, true_and, and_true, and_self, Nat.reduceBEq, Nat.reduceBNe, beq_self_eq_true, decide_true, decide_false, not_false_iff, not_true, ne_eq, gt_iff_lt, ge_iff_le, Int.reduceEq, Int.reduceNe, Int.reduceLT, Int.reduceLE, Int.cast_ofNat_Int, Int.natCast_one, Int.natCast_zero, reduceCtorEq, Bool.false_eq_true, eq_self, e, n, lc, gAll_true, hl]
theorem right_ok {W : List (Int × Int)} (g : GoodW W) (h2 : 2 ≤ W.length) : phi_law_right [.lst (W.map PP)] = some (.ret (.sh (.bl true)) []) := by
  have es := show_walk_ok g
  have n := ne_self' (okPPm (W := W))
  have ej := e_joinW g
  have hl : (W.map PP).length ≤ 1000000 := by rw [List.length_map]; have := g.1; omega
  have lc := vLc_sh (vs := [6, 7]) (it := iLs (oOf (vVar 0))) (ds := W.map PP) (g := gT 2 (gsC (gN 6) (gsC (gN 7) gsN))) (c := lc_law_right_1) (elt := le_law_right_1) (p := fun _ => true) (f := sTx) (ρ := [some (.sh (.lst (W.map PP))), some (.fr (W.map PP)), some (.sh (.str (tS (wkL W)))), none, none, none, none, none, none]) (ρ0 := [some (.sh (.lst (W.map PP))), some (.fr (W.map PP)), some (.sh (.str (tS (wkL W)))), none, none, none, none, none, none]) (by
      generalize W.map PP = X
      simp -implicitDefEqProofs only [e_seq, k_seq1, k_seq2, k_seq3, k_seq4, k_seq5, e_ex, k_ex1, k_ex2, e_bnd, k_bn1, k_bn2, e_ret, e_nx, e_bk, e_ct, e_c, e_var, k_var1, k_var2, e_mv, k_mv1, k_mv2, e_pk, k_pk, e_get1, e_get2, k_sd1, k_sd2, e_gets1, e_gets2, k_gs, e_vals1, e_vals2, e_oOf, e_d1, e_d2, e_an, e_ac, e_op1, e_op2, e_bi, e_l1, k_l1, e_l2, k_l2, e_lA, k_lA, k_ok, e_tst, k_ts1, k_ts2, e_tand, e_tor, e_tnot, e_vand, e_vor, e_vnot, e_vif, e_iteT, e_iteF, e_tup, k_tp, e_lst, k_ls, e_is, e_call, e_callM, k_cl, k_rs, e_if, e_sret, e_sretN, e_drop, e_asg, k_nx, e_gN, e_gT, e_gLs1, e_gLs2, e_gsN, e_gsC, e_par, e_run, k_ru1, k_ru2, k_ru3, e_out1, e_out2, k_os, e_start, e_stl1, e_stl2, e_fro, e_isFr, k_fr1, k_fr2, e_ioOk1, e_ioOk2, k_ioOk, e_noBr, e_ios1, e_ios2, e_brs1, e_brs2, e_brs3, e_brs4, e_brs5, e_dec1, e_dec2, e_dec3, e_put1, k_put, e_put2, e_outOf1, e_outOf2, e_guard, e_setIx, e_stK, k_stI, e_mt, e_mtK, k_app, k_ext, k_rvs, k_pop, e_chain, e_for, e_forL1, k_turn1, k_turn2, k_turn3, k_turn4, k_turn5, e_R1, k_R1, e_R2, k_R2, e_iLs, k_it, e_iTp, k_tI, e_lsV, e_lsS, k_ls1, k_ls2, k_ls3, e_iZp, e_iEn, e_iRv, e_iSg, k_jSg, e_jZp, k_zp, e_jEn, e_jRev, e_sl, e_pNo, e_pIn, k_pn, e_slL, cut_1, isLst_lst, isLst_tup, isLst_int, e_eqI, e_neI, e_eqB, e_neB, gStr_ok, isInt_int, isInt_bl, isInt_str, isInt_non, isInt_tup, isInt_lst, isBl_int, isBl_bl, isBl_tup, isTup_int, isTup_bl, isTup_str, isTup_non, isTup_tup, isTup_lst, e_sub, e_add, e_addL, e_neg, e_cmp, e_ixL, e_ixT, e_ixS, e_abs, e_max, e_max4, e_min, e_intI, e_intB, e_lenL, e_lenT, e_lenS, e_isT1, e_isT2, e_isT3, e_isTL1, e_isTL2, e_resT1, e_resT2, shL, e_mp, e_mpN, e_mpF, k_mf, k_ck, ckL_1, ckS_1, e_revL, e_gRv, e_iR3, e_jR3, k_R3, isN_1, isN_2, e_callF, k_callF, k_cf, gIs_non, gIs_bl, gIs_int, gIs_str, gIs_tup, gIs_lst, gIs_scr, e_meth, e_mtO, k_isOb, e_mtC, k_okO, e_mk, k_mk, k_mkQ, e_mkE, k_mkE, k_mkR1, k_mkR2, k_fld, e_d3, e_d4, e_d5, k_var3, k_var4, k_var5, k_mv3, k_sd3, k_sd4, k_sd5, e_isOw, k_ow1, k_ow2, e_resOk, e_resL1, e_resL2, e_noBrL, e_isL1, e_isL2, e_isL3, e_isL4, e_isL5, e_isL6, e_isLL1, e_isLL2, k_fr3, k_fr4, k_fr5, e_dnK, e_dnT, e_dputT, e_dputK, e_isDt, e_isDk, k_isDt, k_isDk, e_dtK2, e_dpK, k_dtI, k_dkI, e_keyI, e_keyS, e_inK, e_dxK, e_inT, e_dxT, e_intL2, List.getElem?_cons_zero, List.getElem?_cons_succ, List.getElem?_nil, List.set_cons_zero, List.set_cons_succ, List.length_cons, List.length_nil, List.map_cons, List.map_nil, List.nil_append, List.cons_append, List.replicate_succ, List.replicate_zero, List.all_nil, List.all_cons, List.contains_nil, List.contains_cons, Option.map_some, Option.map_none, Option.bind_some, Option.bind_none, Bool.and_true, Bool.true_and, Bool.and_false, Bool.false_and, Bool.or_true, Bool.true_or, Bool.or_false, Bool.false_or, Bool.not_true, Bool.not_false, Bool.not_not, Nat.zero_add, Nat.reduceAdd, Nat.reduceSub, Nat.reduceLT, Nat.reduceLeDiff, Nat.reduceEqDiff, reduceIte, if_true, if_false, atI_0, atI_1, atI_2, atI_3, gMul_ok, gMod_pos, gDiv_pos, true_and, and_true, and_self, Nat.reduceBEq, Nat.reduceBNe, beq_self_eq_true, decide_true, decide_false, not_false_iff, not_true, ne_eq, gt_iff_lt, ge_iff_le, Int.reduceEq, Int.reduceNe, Int.reduceLT, Int.reduceLE, Int.cast_ofNat_Int, Int.natCast_one, Int.natCast_zero, reduceCtorEq, Bool.false_eq_true, eq_self]) (noFr2 rfl rfl) (fun d hd => by
      obtain ⟨q, hq, rfl⟩ := List.mem_map.mp hd
      refine ⟨[some (.sh (.lst (W.map PP))), some (.fr (W.map PP)), some (.sh (.str (tS (wkL W)))), none, none, none, some (.sh (.int q.1)), some (.sh (.int q.2)), none], rfl, rfl, rfl, rfl, fun _ => ?_⟩
      obtain ⟨a1, a2, a3, a4⟩ := str_pl (g.2 q hq) (sl := [])
      generalize W.map PP = X
      unfold le_law_right_1
      show _ = some (Out.ok (SV.sh (.str (tS (plL q.1 q.2)))) _)
      simp -implicitDefEqProofs only [e_seq, k_seq1, k_seq2, k_seq3, k_seq4, k_seq5, e_ex, k_ex1, k_ex2, e_bnd, k_bn1, k_bn2, e_ret, e_nx, e_bk, e_ct, e_c, e_var, k_var1, k_var2, e_mv, k_mv1, k_mv2, e_pk, k_pk, e_get1, e_get2, k_sd1, k_sd2, e_gets1, e_gets2, k_gs, e_vals1, e_vals2, e_oOf, e_d1, e_d2, e_an, e_ac, e_op1, e_op2, e_bi, e_l1, k_l1, e_l2, k_l2, e_lA, k_lA, k_ok, e_tst, k_ts1, k_ts2, e_tand, e_tor, e_tnot, e_vand, e_vor, e_vnot, e_vif, e_iteT, e_iteF, e_tup, k_tp, e_lst, k_ls, e_is, e_call, e_callM, k_cl, k_rs, e_if, e_sret, e_sretN, e_drop, e_asg, k_nx, e_gN, e_gT, e_gLs1, e_gLs2, e_gsN, e_gsC, e_par, e_run, k_ru1, k_ru2, k_ru3, e_out1, e_out2, k_os, e_start, e_stl1, e_stl2, e_fro, e_isFr, k_fr1, k_fr2, e_ioOk1, e_ioOk2, k_ioOk, e_noBr, e_ios1, e_ios2, e_brs1, e_brs2, e_brs3, e_brs4, e_brs5, e_dec1, e_dec2, e_dec3, e_put1, k_put, e_put2, e_outOf1, e_outOf2, e_guard, e_setIx, e_stK, k_stI, e_mt, e_mtK, k_app, k_ext, k_rvs, k_pop, e_chain, e_for, e_forL1, k_turn1, k_turn2, k_turn3, k_turn4, k_turn5, e_R1, k_R1, e_R2, k_R2, e_iLs, k_it, e_iTp, k_tI, e_lsV, e_lsS, k_ls1, k_ls2, k_ls3, e_iZp, e_iEn, e_iRv, e_iSg, k_jSg, e_jZp, k_zp, e_jEn, e_jRev, e_sl, e_pNo, e_pIn, k_pn, e_slL, cut_1, isLst_lst, isLst_tup, isLst_int, e_eqI, e_neI, e_eqB, e_neB, gStr_ok, isInt_int, isInt_bl, isInt_str, isInt_non, isInt_tup, isInt_lst, isBl_int, isBl_bl, isBl_tup, isTup_int, isTup_bl, isTup_str, isTup_non, isTup_tup, isTup_lst, e_sub, e_add, e_addL, e_neg, e_cmp, e_ixL, e_ixT, e_ixS, e_abs, e_max, e_max4, e_min, e_intI, e_intB, e_lenL, e_lenT, e_lenS, e_isT1, e_isT2, e_isT3, e_isTL1, e_isTL2, e_resT1, e_resT2, shL, e_mp, e_mpN, e_mpF, k_mf, k_ck, ckL_1, ckS_1, e_revL, e_gRv, e_iR3, e_jR3, k_R3, isN_1, isN_2, e_callF, k_callF, k_cf, gIs_non, gIs_bl, gIs_int, gIs_str, gIs_tup, gIs_lst, gIs_scr, e_meth, e_mtO, k_isOb, e_mtC, k_okO, e_mk, k_mk, k_mkQ, e_mkE, k_mkE, k_mkR1, k_mkR2, k_fld, e_d3, e_d4, e_d5, k_var3, k_var4, k_var5, k_mv3, k_sd3, k_sd4, k_sd5, e_isOw, k_ow1, k_ow2, e_resOk, e_resL1, e_resL2, e_noBrL, e_isL1, e_isL2, e_isL3, e_isL4, e_isL5, e_isL6, e_isLL1, e_isLL2, k_fr3, k_fr4, k_fr5, e_dnK, e_dnT, e_dputT, e_dputK, e_isDt, e_isDk, k_isDt, k_isDk, e_dtK2, e_dpK, k_dtI, k_dkI, e_keyI, e_keyS, e_inK, e_dxK, e_inT, e_dxT, e_intL2, List.getElem?_cons_zero, List.getElem?_cons_succ, List.getElem?_nil, List.set_cons_zero, List.set_cons_succ, List.length_cons, List.length_nil, List.map_cons, List.map_nil, List.nil_append, List.cons_append, List.replicate_succ, List.replicate_zero, List.all_nil, List.all_cons, List.contains_nil, List.contains_cons, Option.map_some, Option.map_none, Option.bind_some, Option.bind_none, Bool.and_true, Bool.true_and, Bool.and_false, Bool.false_and, Bool.or_true, Bool.true_or, Bool.or_false, Bool.false_or, Bool.not_true, Bool.not_false, Bool.not_not, Nat.zero_add, Nat.reduceAdd, Nat.reduceSub, Nat.reduceLT, Nat.reduceLeDiff, Nat.reduceEqDiff, reduceIte, if_true, if_false, atI_0, atI_1, atI_2, atI_3, gMul_ok, gMod_pos, gDiv_pos, true_and, and_true, and_self, Nat.reduceBEq, Nat.reduceBNe, beq_self_eq_true, decide_true, decide_false, not_false_iff, not_true, ne_eq, gt_iff_lt, ge_iff_le, Int.reduceEq, Int.reduceNe, Int.reduceLT, Int.reduceLE, Int.cast_ofNat_Int, Int.natCast_one, Int.natCast_zero, reduceCtorEq, Bool.false_eq_true, eq_self, a1, a2, a3, a4]) hl
  rw [filter_true', map_sTx] at lc
  have nn := ne_tS (wkL_ok (W := W)) (wkL_ok (W := W))
  rw [decide_eq_true rfl] at nn
  obtain ⟨ρ', e, u4, u5, rfl⟩ := forL_inv (g := gN 4) (body := fb_law_right_1) (fun ρ => ∃ u4 u5, ρ = [some (.sh (.lst (W.map PP))), some (.fr (W.map PP)), some (.sh (.str (tS (wkL W)))), some (.sh (.str (tS (wkL W)))), u4, u5, none, none, none]) (ds := rngD 0 2) (ρ := [some (.sh (.lst (W.map PP))), some (.fr (W.map PP)), some (.sh (.str (tS (wkL W)))), some (.sh (.str (tS (wkL W)))), none, none, none, none, none])
    (by
      rintro d hd ρ ⟨u4, u5, rfl⟩
      obtain ⟨v5, e⟩ := right_turn (W := W) g h2 (s1 := some (.fr (W.map PP))) (s3 := some (.sh (.str (tS (wkL W))))) (s4 := some (.sh d)) (t5 := u5)
      exact ⟨_, _, rfl, e, some (.sh d), v5, rfl⟩)
    ⟨none, none, rfl⟩
  have i2 : (2 : Int).toNat = 2 := rfl
  generalize (wkS W).map D.str = Y at *
  generalize W.map PP = X at *
  unfold phi_law_right b_law_right
  simp -implicitDefEqProofs only [e_seq, k_seq1, k_seq2, k_seq3, k_seq4, k_seq5, e_ex, k_ex1, k_ex2, e_bnd, k_bn1, k_bn2, e_ret, e_nx, e_bk, e_ct, e_c, e_var, k_var1, k_var2, e_mv, k_mv1, k_mv2, e_pk, k_pk, e_get1, e_get2, k_sd1, k_sd2, e_gets1, e_gets2, k_gs, e_vals1, e_vals2, e_oOf, e_d1, e_d2, e_an, e_ac, e_op1, e_op2, e_bi, e_l1, k_l1, e_l2, k_l2, e_lA, k_lA, k_ok, e_tst, k_ts1, k_ts2, e_tand, e_tor, e_tnot, e_vand, e_vor, e_vnot, e_vif, e_iteT, e_iteF, e_tup, k_tp, e_lst, k_ls, e_is, e_call, e_callM, k_cl, k_rs, e_if, e_sret, e_sretN, e_drop, e_asg, k_nx, e_gN, e_gT, e_gLs1, e_gLs2, e_gsN, e_gsC, e_par, e_run, k_ru1, k_ru2, k_ru3, e_out1, e_out2, k_os, e_start, e_stl1, e_stl2, e_fro, e_isFr, k_fr1, k_fr2, e_ioOk1, e_ioOk2, k_ioOk, e_noBr, e_ios1, e_ios2, e_brs1, e_brs2, e_brs3, e_brs4, e_brs5, e_dec1, e_dec2, e_dec3, e_put1, k_put, e_put2, e_outOf1, e_outOf2, e_guard, e_setIx, e_stK, k_stI, e_mt, e_mtK, k_app, k_ext, k_rvs, k_pop, e_chain, e_for, e_forL1, k_turn1, k_turn2, k_turn3, k_turn4, k_turn5, e_R1, k_R1, e_R2, k_R2, e_iLs, k_it, e_iTp, k_tI, e_lsV, e_lsS, k_ls1, k_ls2, k_ls3, e_iZp, e_iEn, e_iRv, e_iSg, k_jSg, e_jZp, k_zp, e_jEn, e_jRev, e_sl, e_pNo, e_pIn, k_pn, e_slL, cut_1, isLst_lst, isLst_tup, isLst_int, e_eqI, e_neI, e_eqB, e_neB, gStr_ok, isInt_int, isInt_bl, isInt_str, isInt_non, isInt_tup, isInt_lst, isBl_int, isBl_bl, isBl_tup, isTup_int, isTup_bl, isTup_str, isTup_non, isTup_tup, isTup_lst, e_sub, e_add, e_addL, e_neg, e_cmp, e_ixL, e_ixT, e_ixS, e_abs, e_max, e_max4, e_min, e_intI, e_intB, e_lenL, e_lenT, e_lenS, e_isT1, e_isT2, e_isT3, e_isTL1, e_isTL2, e_resT1, e_resT2, shL, e_mp, e_mpN, e_mpF, k_mf, k_ck, ckL_1, ckS_1, e_revL, e_gRv, e_iR3, e_jR3, k_R3, isN_1, isN_2, e_callF, k_callF, k_cf, gIs_non, gIs_bl, gIs_int, gIs_str, gIs_tup, gIs_lst, gIs_scr, e_meth, e_mtO, k_isOb, e_mtC, k_okO, e_mk, k_mk, k_mkQ, e_mkE, k_mkE, k_mkR1, k_mkR2, k_fld, e_d3, e_d4, e_d5, k_var3, k_var4, k_var5, k_mv3, k_sd3, k_sd4, k_sd5, e_isOw, k_ow1, k_ow2, e_resOk, e_resL1, e_resL2, e_noBrL, e_isL1, e_isL2, e_isL3, e_isL4, e_isL5, e_isL6, e_isLL1, e_isLL2, k_fr3, k_fr4, k_fr5, e_dnK, e_dnT, e_dputT, e_dputK, e_isDt, e_isDk, k_isDt, k_isDk, e_dtK2, e_dpK, k_dtI, k_dkI, e_keyI, e_keyS, e_inK, e_dxK, e_inT, e_dxT, e_intL2, List.getElem?_cons_zero, List.getElem?_cons_succ, List.getElem?_nil, List.set_cons_zero, List.set_cons_succ, List.length_cons, List.length_nil, List.map_cons, List.map_nil, List.nil_append, List.cons_append, List.replicate_succ, List.replicate_zero, List.all_nil, List.all_cons, List.contains_nil, List.contains_cons, Option.map_some, Option.map_none, Option.bind_some, Option.bind_none, Bool.and_true, Bool.true_and, Bool.and_false, Bool.false_and, Bool.or_true, Bool.true_or, Bool.or_false, Bool.false_or, Bool.not_true, Bool.not_false, Bool.not_not, Nat.zero_add, Nat.reduceAdd, Nat.reduceSub, Nat.reduceLT, Nat.reduceLeDiff, Nat.reduceEqDiff, reduceIte, if_true, if_false, atI_0, atI_1, atI_2, atI_3, gMul_ok, gMod_pos, gDiv_pos, true_and, and_true, and_self, Nat.reduceBEq, Nat.reduceBNe, beq_self_eq_true, decide_true, decide_false, not_false_iff, not_true, ne_eq, gt_iff_lt, ge_iff_le, Int.reduceEq, Int.reduceNe, Int.reduceLT, Int.reduceLE, Int.cast_ofNat_Int, Int.natCast_one, Int.natCast_zero, reduceCtorEq, Bool.false_eq_true, eq_self, e_listOf, isT_str, hl, es, lc, ej, n, isStr_str, nn, rngOk_2, i2, e]
theorem idx4 {x : Int} (h0 : 0 ≤ x) (h1 : x < 4) : ∃ B : Int, 1 ≤ B ∧ B ≤ 226981 ∧ gIx (.lst [.int 1, .int 61, .int 3721, .int 226981]) (.int x) = some (.sh (.int B)) := by
  rcases (show x = 0 ∨ x = 1 ∨ x = 2 ∨ x = 3 by omega) with rfl | rfl | rfl | rfl
  · exact ⟨_, by decide, by decide, rfl⟩
  · exact ⟨_, by decide, by decide, rfl⟩
  · exact ⟨_, by decide, by decide, rfl⟩
  · exact ⟨_, by decide, by decide, rfl⟩
theorem walk_turn {x : Int} {k : Nat} {W : List (Int × Int)} {s0 s1 s3 : Option SV} (h : 0 ≤ x) (hk : k < 1000) (hW : W.length < 1000) : ∃ q : Int × Int, PlB q.1 q.2 ∧ fb_law_walk_1 [s0, s1, some (.sh (.int x)), s3, some (.fr (W.map PP)), some (.sh (.int (k : Int)))] = some (.nx [s0, s1, some (.sh (.int x)), s3, some (.fr ((W ++ [q]).map PP)), some (.sh (.int (k : Int)))]) := by
  obtain ⟨B, hB1, hB2, eB⟩ := idx4 (x := (k : Int) % 4) (by omega) (by omega)
  have p4 : (0 : Int) < 4 := by decide
  have d11 : gDiv (.int x) (.int 11) = some (.sh (.int (x / 11))) := gDiv_pos (by decide) (log_9000 (k := 200) (by decide) (by decide) (by decide))
  have x0 : 0 ≤ x / 11 := Int.ediv_nonneg h (by decide)
  generalize x / 11 = y at *
  have dB : gDiv (.int y) (.int B) = some (.sh (.int (y / B))) := gDiv_pos (by omega) (log_9000 (k := 200) (by omega) (by omega) (by decide))
  have y0 : 0 ≤ y / B := Int.ediv_nonneg x0 (by omega)
  have m1 : Sim.MulOk (k : Int) (k : Int) := mulOk_l (by omega) (by omega)
  have m2 : Sim.MulOk ((k : Int) * (k : Int)) 104729 := mulOk_r (by decide) (by decide)
  have k0 : 0 ≤ (k : Int) * (k : Int) * 104729 := Int.mul_nonneg (Int.mul_nonneg (by omega) (by omega)) (by decide)
  obtain ⟨p, q, e, g⟩ := drawn_ok (x := y / B + (k : Int) * (k : Int) * 104729) (by omega)
  refine ⟨(p, q), g, ?_⟩
  have hl : (W.map PP).length < 1000000 := by rw [List.length_map]; omega
  rw [List.map_append]
  show _ = some (SO.nx [s0, s1, some (.sh (.int x)), s3, some (.fr (W.map PP ++ [P2 p q])), some (.sh (.int (k : Int)))])
  generalize W.map PP = X at *
  unfold fb_law_walk_1
  simp -implicitDefEqProofs only [e_seq, k_seq1, k_seq2, k_seq3, k_seq4, k_seq5, e_ex, k_ex1, k_ex2, e_bnd, k_bn1, k_bn2, e_ret, e_nx, e_bk, e_ct, e_c, e_var, k_var1, k_var2, e_mv, k_mv1, k_mv2, e_pk, k_pk, e_get1, e_get2, k_sd1, k_sd2, e_gets1, e_gets2, k_gs, e_vals1, e_vals2, e_oOf, e_d1, e_d2, e_an, e_ac, e_op1, e_op2, e_bi, e_l1, k_l1, e_l2, k_l2, e_lA, k_lA, k_ok, e_tst, k_ts1, k_ts2, e_tand, e_tor, e_tnot, e_vand, e_vor, e_vnot, e_vif, e_iteT, e_iteF, e_tup, k_tp, e_lst, k_ls, e_is, e_call, e_callM, k_cl, k_rs, e_if, e_sret, e_sretN, e_drop, e_asg, k_nx, e_gN, e_gT, e_gLs1, e_gLs2, e_gsN, e_gsC, e_par, e_run, k_ru1, k_ru2, k_ru3, e_out1, e_out2, k_os, e_start, e_stl1, e_stl2, e_fro, e_isFr, k_fr1, k_fr2, e_ioOk1, e_ioOk2, k_ioOk, e_noBr, e_ios1, e_ios2, e_brs1, e_brs2, e_brs3, e_brs4, e_brs5, e_dec1, e_dec2, e_dec3, e_put1, k_put, e_put2, e_outOf1, e_outOf2, e_guard, e_setIx, e_stK, k_stI, e_mt, e_mtK, k_app, k_ext, k_rvs, k_pop, e_chain, e_for, e_forL1, k_turn1, k_turn2, k_turn3, k_turn4, k_turn5, e_R1, k_R1, e_R2, k_R2, e_iLs, k_it, e_iTp, k_tI, e_lsV, e_lsS, k_ls1, k_ls2, k_ls3, e_iZp, e_iEn, e_iRv, e_iSg, k_jSg, e_jZp, k_zp, e_jEn, e_jRev, e_sl, e_pNo, e_pIn, k_pn, e_slL, cut_1, isLst_lst, isLst_tup, isLst_int, e_eqI, e_neI, e_eqB, e_neB, gStr_ok, isInt_int, isInt_bl, isInt_str, isInt_non, isInt_tup, isInt_lst, isBl_int, isBl_bl, isBl_tup, isTup_int, isTup_bl, isTup_str, isTup_non, isTup_tup, isTup_lst, e_sub, e_add, e_addL, e_neg, e_cmp, e_ixL, e_ixT, e_ixS, e_abs, e_max, e_max4, e_min, e_intI, e_intB, e_lenL, e_lenT, e_lenS, e_isT1, e_isT2, e_isT3, e_isTL1, e_isTL2, e_resT1, e_resT2, shL, e_mp, e_mpN, e_mpF, k_mf, k_ck, ckL_1, ckS_1, e_revL, e_gRv, e_iR3, e_jR3, k_R3, isN_1, isN_2, e_callF, k_callF, k_cf, gIs_non, gIs_bl, gIs_int, gIs_str, gIs_tup, gIs_lst, gIs_scr, e_meth, e_mtO, k_isOb, e_mtC, k_okO, e_mk, k_mk, k_mkQ, e_mkE, k_mkE, k_mkR1, k_mkR2, k_fld, e_d3, e_d4, e_d5, k_var3, k_var4, k_var5, k_mv3, k_sd3, k_sd4, k_sd5, e_isOw, k_ow1, k_ow2, e_resOk, e_resL1, e_resL2, e_noBrL, e_isL1, e_isL2, e_isL3, e_isL4, e_isL5, e_isL6, e_isLL1, e_isLL2, k_fr3, k_fr4, k_fr5, e_dnK, e_dnT, e_dputT, e_dputK, e_isDt, e_isDk, k_isDt, k_isDk, e_dtK2, e_dpK, k_dtI, k_dkI, e_keyI, e_keyS, e_inK, e_dxK, e_inT, e_dxT, e_intL2, List.getElem?_cons_zero, List.getElem?_cons_succ, List.getElem?_nil, List.set_cons_zero, List.set_cons_succ, List.length_cons, List.length_nil, List.map_cons, List.map_nil, List.nil_append, List.cons_append, List.replicate_succ, List.replicate_zero, List.all_nil, List.all_cons, List.contains_nil, List.contains_cons, Option.map_some, Option.map_none, Option.bind_some, Option.bind_none, Bool.and_true, Bool.true_and, Bool.and_false, Bool.false_and, Bool.or_true, Bool.true_or, Bool.or_false, Bool.false_or, Bool.not_true, Bool.not_false, Bool.not_not, Nat.zero_add, Nat.reduceAdd, Nat.reduceSub, Nat.reduceLT, Nat.reduceLeDiff, Nat.reduceEqDiff, reduceIte, if_true, if_false, atI_0, atI_1, atI_2, atI_3, gMul_ok, gMod_pos, gDiv_pos, true_and, and_true, and_self, Nat.reduceBEq, Nat.reduceBNe, beq_self_eq_true, decide_true, decide_false, not_false_iff, not_true, ne_eq, gt_iff_lt, ge_iff_le, Int.reduceEq, Int.reduceNe, Int.reduceLT, Int.reduceLE, Int.cast_ofNat_Int, Int.natCast_one, Int.natCast_zero, reduceCtorEq, Bool.false_eq_true, eq_self, d11, p4, eB, dB, m1, m2, e, hl]
theorem walk_ok {ns : List Int} {k : Nat} (hk : k < 1000) : ∃ W, GoodW W ∧ 2 ≤ W.length ∧ phi_law_walk [.scr ns, .int (k : Int)] = some (.ret (.fr (W.map PP)) []) := by
  obtain ⟨x, h0, e⟩ := @number_nn ns k hk
  obtain ⟨m, hm, hm2⟩ : ∃ m : Nat, (2 ≤ m ∧ m ≤ 12) ∧ 2 + x % 11 = (m : Int) := ⟨(2 + x % 11).toNat, by omega, by omega⟩
  obtain ⟨ρ', e2, W, ⟨hW, gW⟩, u5, rfl⟩ := forR (g := gN 5) (body := fb_law_walk_1) (lo := 0) (m := m) (ρ := [some (.sh (.scr ns)), some (.sh (.int (k : Int))), some (.sh (.int x)), some (.sh (.int (m : Int))), some (.fr []), none])
    (fun i ρ => ∃ W : List (Int × Int), (W.length = i ∧ ∀ q ∈ W, PlB q.1 q.2) ∧ ∃ u5, ρ = [some (.sh (.scr ns)), some (.sh (.int (k : Int))), some (.sh (.int x)), some (.sh (.int (m : Int))), some (.fr (W.map PP)), u5])
    ⟨[], ⟨rfl, fun _ h => nomatch h⟩, none, rfl⟩
    (by
      rintro i hi ρ ⟨W, ⟨h1, h2⟩, u5, rfl⟩
      obtain ⟨q, hq, e⟩ := walk_turn (x := x) (k := i) (W := W) (s0 := some (.sh (.scr ns))) (s1 := some (.sh (.int (k : Int)))) (s3 := some (.sh (.int (m : Int)))) h0 (by omega) (by omega)
      rw [Int.zero_add]
      refine ⟨_, _, rfl, e, W ++ [q], ⟨by rw [List.length_append, h1]; rfl, ?_⟩, _, rfl⟩
      intro d hd
      rcases List.mem_append.mp hd with hd | hd
      · exact h2 d hd
      · rw [List.mem_singleton.mp hd]
        exact hq)
  refine ⟨W, ⟨by omega, gW⟩, by omega, ?_⟩
  have rg : RngOk (m : Int) := rng_small (by omega) (by omega)
  have p11 : (0 : Int) < 11 := by decide
  generalize W.map PP = X at *
  unfold phi_law_walk b_law_walk
  simp -implicitDefEqProofs only [e_seq, k_seq1, k_seq2, k_seq3, k_seq4, k_seq5, e_ex, k_ex1, k_ex2, e_bnd, k_bn1, k_bn2, e_ret, e_nx, e_bk, e_ct, e_c, e_var, k_var1, k_var2, e_mv, k_mv1, k_mv2, e_pk, k_pk, e_get1, e_get2, k_sd1, k_sd2, e_gets1, e_gets2, k_gs, e_vals1, e_vals2, e_oOf, e_d1, e_d2, e_an, e_ac, e_op1, e_op2, e_bi, e_l1, k_l1, e_l2, k_l2, e_lA, k_lA, k_ok, e_tst, k_ts1, k_ts2, e_tand, e_tor, e_tnot, e_vand, e_vor, e_vnot, e_vif, e_iteT, e_iteF, e_tup, k_tp, e_lst, k_ls, e_is, e_call, e_callM, k_cl, k_rs, e_if, e_sret, e_sretN, e_drop, e_asg, k_nx, e_gN, e_gT, e_gLs1, e_gLs2, e_gsN, e_gsC, e_par, e_run, k_ru1, k_ru2, k_ru3, e_out1, e_out2, k_os, e_start, e_stl1, e_stl2, e_fro, e_isFr, k_fr1, k_fr2, e_ioOk1, e_ioOk2, k_ioOk, e_noBr, e_ios1, e_ios2, e_brs1, e_brs2, e_brs3, e_brs4, e_brs5, e_dec1, e_dec2, e_dec3, e_put1, k_put, e_put2, e_outOf1, e_outOf2, e_guard, e_setIx, e_stK, k_stI, e_mt, e_mtK, k_app, k_ext, k_rvs, k_pop, e_chain, e_for, e_forL1, k_turn1, k_turn2, k_turn3, k_turn4, k_turn5, e_R1, k_R1, e_R2, k_R2, e_iLs, k_it, e_iTp, k_tI, e_lsV, e_lsS, k_ls1, k_ls2, k_ls3, e_iZp, e_iEn, e_iRv, e_iSg, k_jSg, e_jZp, k_zp, e_jEn, e_jRev, e_sl, e_pNo, e_pIn, k_pn, e_slL, cut_1, isLst_lst, isLst_tup, isLst_int, e_eqI, e_neI, e_eqB, e_neB, gStr_ok, isInt_int, isInt_bl, isInt_str, isInt_non, isInt_tup, isInt_lst, isBl_int, isBl_bl, isBl_tup, isTup_int, isTup_bl, isTup_str, isTup_non, isTup_tup, isTup_lst, e_sub, e_add, e_addL, e_neg, e_cmp, e_ixL, e_ixT, e_ixS, e_abs, e_max, e_max4, e_min, e_intI, e_intB, e_lenL, e_lenT, e_lenS, e_isT1, e_isT2, e_isT3, e_isTL1, e_isTL2, e_resT1, e_resT2, shL, e_mp, e_mpN, e_mpF, k_mf, k_ck, ckL_1, ckS_1, e_revL, e_gRv, e_iR3, e_jR3, k_R3, isN_1, isN_2, e_callF, k_callF, k_cf, gIs_non, gIs_bl, gIs_int, gIs_str, gIs_tup, gIs_lst, gIs_scr, e_meth, e_mtO, k_isOb, e_mtC, k_okO, e_mk, k_mk, k_mkQ, e_mkE, k_mkE, k_mkR1, k_mkR2, k_fld, e_d3, e_d4, e_d5, k_var3, k_var4, k_var5, k_mv3, k_sd3, k_sd4, k_sd5, e_isOw, k_ow1, k_ow2, e_resOk, e_resL1, e_resL2, e_noBrL, e_isL1, e_isL2, e_isL3, e_isL4, e_isL5, e_isL6, e_isLL1, e_isLL2, k_fr3, k_fr4, k_fr5, e_dnK, e_dnT, e_dputT, e_dputK, e_isDt, e_isDk, k_isDt, k_isDk, e_dtK2, e_dpK, k_dtI, k_dkI, e_keyI, e_keyS, e_inK, e_dxK, e_inT, e_dxT, e_intL2, List.getElem?_cons_zero, List.getElem?_cons_succ, List.getElem?_nil, List.set_cons_zero, List.set_cons_succ, List.length_cons, List.length_nil, List.map_cons, List.map_nil, List.nil_append, List.cons_append, List.replicate_succ, List.replicate_zero, List.all_nil, List.all_cons, List.contains_nil, List.contains_cons, Option.map_some, Option.map_none, Option.bind_some, Option.bind_none, Bool.and_true, Bool.true_and, Bool.and_false, Bool.false_and, Bool.or_true, Bool.true_or, Bool.or_false, Bool.false_or, Bool.not_true, Bool.not_false, Bool.not_not, Nat.zero_add, Nat.reduceAdd, Nat.reduceSub, Nat.reduceLT, Nat.reduceLeDiff, Nat.reduceEqDiff, reduceIte, if_true, if_false, atI_0, atI_1, atI_2, atI_3, gMul_ok, gMod_pos, gDiv_pos, true_and, and_true, and_self, Nat.reduceBEq, Nat.reduceBNe, beq_self_eq_true, decide_true, decide_false, not_false_iff, not_true, ne_eq, gt_iff_lt, ge_iff_le, Int.reduceEq, Int.reduceNe, Int.reduceLT, Int.reduceLE, Int.cast_ofNat_Int, Int.natCast_one, Int.natCast_zero, reduceCtorEq, Bool.false_eq_true, eq_self, e, p11, hm2, rg, Int.toNat_natCast, e2]
theorem plain_law (ns : List Int) (h : ns.length ≤ 63) : phi_law [.scr ns] = some (.ret (.sh (.bl true)) []) := by
  obtain ⟨m, hm, em⟩ : ∃ m : Nat, m ≤ 6 ∧ (if (if ((ns.length : Nat) : Int) < 6 then ((ns.length : Nat) : Int) else 6) > 2 then (if ((ns.length : Nat) : Int) < 6 then ((ns.length : Nat) : Int) else 6) else 2) = (m : Int) := by
    refine ⟨(if (if ((ns.length : Nat) : Int) < 6 then ((ns.length : Nat) : Int) else 6) > 2 then (if ((ns.length : Nat) : Int) < 6 then ((ns.length : Nat) : Int) else 6) else 2).toNat, ?_, ?_⟩
    · split <;> (try split) <;> omega
    · split <;> (try split) <;> omega
  obtain ⟨ρ', e, u1, rfl⟩ := forR (g := gN 1) (body := fb_law_1) (lo := 0) (m := m) (ρ := [some (.sh (.scr ns)), none])
    (fun i ρ => ∃ u1, ρ = [some (.sh (.scr ns)), u1])
    ⟨none, rfl⟩
    (by
      rintro i hi ρ ⟨u1, rfl⟩
      obtain ⟨W, g, h2, e⟩ := @walk_ok ns i (by omega)
      have r := right_ok g h2
      rw [Int.zero_add]
      refine ⟨_, [some (.sh (.scr ns)), some (.sh (.int (i : Int)))], rfl, ?_, _, rfl⟩
      show fb_law_1 [some (.sh (.scr ns)), some (.sh (.int (i : Int)))] = _
      generalize W.map PP = X at *
      unfold fb_law_1
      simp -implicitDefEqProofs only [e_seq, k_seq1, k_seq2, k_seq3, k_seq4, k_seq5, e_ex, k_ex1, k_ex2, e_bnd, k_bn1, k_bn2, e_ret, e_nx, e_bk, e_ct, e_c, e_var, k_var1, k_var2, e_mv, k_mv1, k_mv2, e_pk, k_pk, e_get1, e_get2, k_sd1, k_sd2, e_gets1, e_gets2, k_gs, e_vals1, e_vals2, e_oOf, e_d1, e_d2, e_an, e_ac, e_op1, e_op2, e_bi, e_l1, k_l1, e_l2, k_l2, e_lA, k_lA, k_ok, e_tst, k_ts1, k_ts2, e_tand, e_tor, e_tnot, e_vand, e_vor, e_vnot, e_vif, e_iteT, e_iteF, e_tup, k_tp, e_lst, k_ls, e_is, e_call, e_callM, k_cl, k_rs, e_if, e_sret, e_sretN, e_drop, e_asg, k_nx, e_gN, e_gT, e_gLs1, e_gLs2, e_gsN, e_gsC, e_par, e_run, k_ru1, k_ru2, k_ru3, e_out1, e_out2, k_os, e_start, e_stl1, e_stl2, e_fro, e_isFr, k_fr1, k_fr2, e_ioOk1, e_ioOk2, k_ioOk, e_noBr, e_ios1, e_ios2, e_brs1, e_brs2, e_brs3, e_brs4, e_brs5, e_dec1, e_dec2, e_dec3, e_put1, k_put, e_put2, e_outOf1, e_outOf2, e_guard, e_setIx, e_stK, k_stI, e_mt, e_mtK, k_app, k_ext, k_rvs, k_pop, e_chain, e_for, e_forL1, k_turn1, k_turn2, k_turn3, k_turn4, k_turn5, e_R1, k_R1, e_R2, k_R2, e_iLs, k_it, e_iTp, k_tI, e_lsV, e_lsS, k_ls1, k_ls2, k_ls3, e_iZp, e_iEn, e_iRv, e_iSg, k_jSg, e_jZp, k_zp, e_jEn, e_jRev, e_sl, e_pNo, e_pIn, k_pn, e_slL, cut_1, isLst_lst, isLst_tup, isLst_int, e_eqI, e_neI, e_eqB, e_neB, gStr_ok, isInt_int, isInt_bl, isInt_str, isInt_non, isInt_tup, isInt_lst, isBl_int, isBl_bl, isBl_tup, isTup_int, isTup_bl, isTup_str, isTup_non, isTup_tup, isTup_lst, e_sub, e_add, e_addL, e_neg, e_cmp, e_ixL, e_ixT, e_ixS, e_abs, e_max, e_max4, e_min, e_intI, e_intB, e_lenL, e_lenT, e_lenS, e_isT1, e_isT2, e_isT3, e_isTL1, e_isTL2, e_resT1, e_resT2, shL, e_mp, e_mpN, e_mpF, k_mf, k_ck, ckL_1, ckS_1, e_revL, e_gRv, e_iR3, e_jR3, k_R3, isN_1, isN_2, e_callF, k_callF, k_cf, gIs_non, gIs_bl, gIs_int, gIs_str, gIs_tup, gIs_lst, gIs_scr, e_meth, e_mtO, k_isOb, e_mtC, k_okO, e_mk, k_mk, k_mkQ, e_mkE, k_mkE, k_mkR1, k_mkR2, k_fld, e_d3, e_d4, e_d5, k_var3, k_var4, k_var5, k_mv3, k_sd3, k_sd4, k_sd5, e_isOw, k_ow1, k_ow2, e_resOk, e_resL1, e_resL2, e_noBrL, e_isL1, e_isL2, e_isL3, e_isL4, e_isL5, e_isL6, e_isLL1, e_isLL2, k_fr3, k_fr4, k_fr5, e_dnK, e_dnT, e_dputT, e_dputK, e_isDt, e_isDk, k_isDt, k_isDk, e_dtK2, e_dpK, k_dtI, k_dkI, e_keyI, e_keyS, e_inK, e_dxK, e_inT, e_dxT, e_intL2, List.getElem?_cons_zero, List.getElem?_cons_succ, List.getElem?_nil, List.set_cons_zero, List.set_cons_succ, List.length_cons, List.length_nil, List.map_cons, List.map_nil, List.nil_append, List.cons_append, List.replicate_succ, List.replicate_zero, List.all_nil, List.all_cons, List.contains_nil, List.contains_cons, Option.map_some, Option.map_none, Option.bind_some, Option.bind_none, Bool.and_true, Bool.true_and, Bool.and_false, Bool.false_and, Bool.or_true, Bool.true_or, Bool.or_false, Bool.false_or, Bool.not_true, Bool.not_false, Bool.not_not, Nat.zero_add, Nat.reduceAdd, Nat.reduceSub, Nat.reduceLT, Nat.reduceLeDiff, Nat.reduceEqDiff, reduceIte, if_true, if_false, atI_0, atI_1, atI_2, atI_3, gMul_ok, gMod_pos, gDiv_pos, true_and, and_true, and_self, Nat.reduceBEq, Nat.reduceBNe, beq_self_eq_true, decide_true, decide_false, not_false_iff, not_true, ne_eq, gt_iff_lt, ge_iff_le, Int.reduceEq, Int.reduceNe, Int.reduceLT, Int.reduceLE, Int.cast_ofNat_Int, Int.natCast_one, Int.natCast_zero, reduceCtorEq, Bool.false_eq_true, eq_self, e, r])
  have rg : RngOk (m : Int) := rng_small (by omega) (by omega)
  have r : phi_law_right [.lst [P2 1 0, P2 1 0]] = some (.ret (.sh (.bl true)) []) := right_ok (W := [(1, 0), (1, 0)]) ⟨by decide, by
    intro q hq
    have e : q = (1, 0) := by
      rcases List.mem_cons.mp hq with h | h
      · exact h
      · exact List.mem_singleton.mp h
    subst e
    exact ⟨⟨by decide, rfl, fun _ => rfl⟩, by decide, by decide⟩⟩ (by decide)
  unfold phi_law b_law
  simp -implicitDefEqProofs only [e_seq, k_seq1, k_seq2, k_seq3, k_seq4, k_seq5, e_ex, k_ex1, k_ex2, e_bnd, k_bn1, k_bn2, e_ret, e_nx, e_bk, e_ct, e_c, e_var, k_var1, k_var2, e_mv, k_mv1, k_mv2, e_pk, k_pk, e_get1, e_get2, k_sd1, k_sd2, e_gets1, e_gets2, k_gs, e_vals1, e_vals2, e_oOf, e_d1, e_d2, e_an, e_ac, e_op1, e_op2, e_bi, e_l1, k_l1, e_l2, k_l2, e_lA, k_lA, k_ok, e_tst, k_ts1, k_ts2, e_tand, e_tor, e_tnot, e_vand, e_vor, e_vnot, e_vif, e_iteT, e_iteF, e_tup, k_tp, e_lst, k_ls, e_is, e_call, e_callM, k_cl, k_rs, e_if, e_sret, e_sretN, e_drop, e_asg, k_nx, e_gN, e_gT, e_gLs1, e_gLs2, e_gsN, e_gsC, e_par, e_run, k_ru1, k_ru2, k_ru3, e_out1, e_out2, k_os, e_start, e_stl1, e_stl2, e_fro, e_isFr, k_fr1, k_fr2, e_ioOk1, e_ioOk2, k_ioOk, e_noBr, e_ios1, e_ios2, e_brs1, e_brs2, e_brs3, e_brs4, e_brs5, e_dec1, e_dec2, e_dec3, e_put1, k_put, e_put2, e_outOf1, e_outOf2, e_guard, e_setIx, e_stK, k_stI, e_mt, e_mtK, k_app, k_ext, k_rvs, k_pop, e_chain, e_for, e_forL1, k_turn1, k_turn2, k_turn3, k_turn4, k_turn5, e_R1, k_R1, e_R2, k_R2, e_iLs, k_it, e_iTp, k_tI, e_lsV, e_lsS, k_ls1, k_ls2, k_ls3, e_iZp, e_iEn, e_iRv, e_iSg, k_jSg, e_jZp, k_zp, e_jEn, e_jRev, e_sl, e_pNo, e_pIn, k_pn, e_slL, cut_1, isLst_lst, isLst_tup, isLst_int, e_eqI, e_neI, e_eqB, e_neB, gStr_ok, isInt_int, isInt_bl, isInt_str, isInt_non, isInt_tup, isInt_lst, isBl_int, isBl_bl, isBl_tup, isTup_int, isTup_bl, isTup_str, isTup_non, isTup_tup, isTup_lst, e_sub, e_add, e_addL, e_neg, e_cmp, e_ixL, e_ixT, e_ixS, e_abs, e_max, e_max4, e_min, e_intI, e_intB, e_lenL, e_lenT, e_lenS, e_isT1, e_isT2, e_isT3, e_isTL1, e_isTL2, e_resT1, e_resT2, shL, e_mp, e_mpN, e_mpF, k_mf, k_ck, ckL_1, ckS_1, e_revL, e_gRv, e_iR3, e_jR3, k_R3, isN_1, isN_2, e_callF, k_callF, k_cf, gIs_non, gIs_bl, gIs_int, gIs_str, gIs_tup, gIs_lst, gIs_scr, e_meth, e_mtO, k_isOb, e_mtC, k_okO, e_mk, k_mk, k_mkQ, e_mkE, k_mkE, k_mkR1, k_mkR2, k_fld, e_d3, e_d4, e_d5, k_var3, k_var4, k_var5, k_mv3, k_sd3, k_sd4, k_sd5, e_isOw, k_ow1, k_ow2, e_resOk, e_resL1, e_resL2, e_noBrL, e_isL1, e_isL2, e_isL3, e_isL4, e_isL5, e_isL6, e_isLL1, e_isLL2, k_fr3, k_fr4, k_fr5, e_dnK, e_dnT, e_dputT, e_dputK, e_isDt, e_isDk, k_isDt, k_isDk, e_dtK2, e_dpK, k_dtI, k_dkI, e_keyI, e_keyS, e_inK, e_dxK, e_inT, e_dxT, e_intL2, List.getElem?_cons_zero, List.getElem?_cons_succ, List.getElem?_nil, List.set_cons_zero, List.set_cons_succ, List.length_cons, List.length_nil, List.map_cons, List.map_nil, List.nil_append, List.cons_append, List.replicate_succ, List.replicate_zero, List.all_nil, List.all_cons, List.contains_nil, List.contains_cons, Option.map_some, Option.map_none, Option.bind_some, Option.bind_none, Bool.and_true, Bool.true_and, Bool.and_false, Bool.false_and, Bool.or_true, Bool.true_or, Bool.or_false, Bool.false_or, Bool.not_true, Bool.not_false, Bool.not_not, Nat.zero_add, Nat.reduceAdd, Nat.reduceSub, Nat.reduceLT, Nat.reduceLeDiff, Nat.reduceEqDiff, reduceIte, if_true, if_false, atI_0, atI_1, atI_2, atI_3, gMul_ok, gMod_pos, gDiv_pos, true_and, and_true, and_self, Nat.reduceBEq, Nat.reduceBNe, beq_self_eq_true, decide_true, decide_false, not_false_iff, not_true, ne_eq, gt_iff_lt, ge_iff_le, Int.reduceEq, Int.reduceNe, Int.reduceLT, Int.reduceLE, Int.cast_ofNat_Int, Int.natCast_one, Int.natCast_zero, reduceCtorEq, Bool.false_eq_true, eq_self, em, rg, Int.toNat_natCast, e, r]
end LawW

namespace LawW
open PySem PySem.Spec PyProof.Rows L2 Sim
/-! ### the text -/
def topS (i : Nat) : Stmt := PySem.Challenge.pw_fractionroads_k84_walks_written.main.body.getD i (.Pass ⟨0, 0, 0, 0⟩)
abbrev st_common : Stmt := topS 4
abbrev N_common : List Str := ["one", "other"]
theorem sc_common : FnScope N_common ["one", "other"] (defScope st_common) := ⟨rfl, rfl, rfl, by decide +kernel, rfl, by decide +kernel, by decide +kernel⟩
abbrev st_read_number : Stmt := topS 9
abbrev N_read_number : List Str := ["word", "most", "figures", "sign"]
theorem sc_read_number : FnScope N_read_number ["word", "most"] (defScope st_read_number) := ⟨rfl, rfl, rfl, by decide +kernel, rfl, by decide +kernel, by decide +kernel⟩
abbrev st_show_place : Stmt := topS 10
abbrev N_show_place : List Str := ["place"]
theorem sc_show_place : FnScope N_show_place ["place"] (defScope st_show_place) := ⟨rfl, rfl, rfl, by decide +kernel, rfl, by decide +kernel, by decide +kernel⟩
abbrev st_show_walk : Stmt := topS 11
abbrev N_show_walk : List Str := ["walk", "place"]
theorem sc_show_walk : FnScope N_show_walk ["walk"] (defScope st_show_walk) := ⟨rfl, rfl, rfl, by decide +kernel, rfl, by decide +kernel, by decide +kernel⟩
abbrev st_read_place : Stmt := topS 12
abbrev N_read_place : List Str := ["text", "top", "stroke", "bottom", "found"]
theorem sc_read_place : FnScope N_read_place ["text"] (defScope st_read_place) := ⟨rfl, rfl, rfl, by decide +kernel, rfl, by decide +kernel, by decide +kernel⟩
abbrev st_read_walk : Stmt := topS 13
abbrev N_read_walk : List Str := ["text", "words", "word"]
theorem sc_read_walk : FnScope N_read_walk ["text"] (defScope st_read_walk) := ⟨rfl, rfl, rfl, by decide +kernel, rfl, by decide +kernel, by decide +kernel⟩
abbrev st_law_cell_at : Stmt := topS 15
abbrev N_law_cell_at : List Str := ["_law_script", "_law_k"]
theorem sc_law_cell_at : FnScope N_law_cell_at ["_law_script", "_law_k"] (defScope st_law_cell_at) := ⟨rfl, rfl, rfl, by decide +kernel, rfl, by decide +kernel, by decide +kernel⟩
abbrev st_law_number : Stmt := topS 16
abbrev N_law_number : List Str := ["_law_script", "_law_k", "_law_cell", "_law_one"]
theorem sc_law_number : FnScope N_law_number ["_law_script", "_law_k"] (defScope st_law_number) := ⟨rfl, rfl, rfl, by decide +kernel, rfl, by decide +kernel, by decide +kernel⟩
abbrev st_law_common : Stmt := topS 17
abbrev N_law_common : List Str := ["_law_one", "_law_other"]
theorem sc_law_common : FnScope N_law_common ["_law_one", "_law_other"] (defScope st_law_common) := ⟨rfl, rfl, rfl, by decide +kernel, rfl, by decide +kernel, by decide +kernel⟩
abbrev st_law_whole : Stmt := topS 18
abbrev N_law_whole : List Str := ["_law_thing"]
theorem sc_law_whole : FnScope N_law_whole ["_law_thing"] (defScope st_law_whole) := ⟨rfl, rfl, rfl, by decide +kernel, rfl, by decide +kernel, by decide +kernel⟩
abbrev st_law_place : Stmt := topS 19
abbrev N_law_place : List Str := ["_law_top", "_law_bottom", "_law_common_part"]
theorem sc_law_place : FnScope N_law_place ["_law_top", "_law_bottom"] (defScope st_law_place) := ⟨rfl, rfl, rfl, by decide +kernel, rfl, by decide +kernel, by decide +kernel⟩
abbrev st_law_drawn_place : Stmt := topS 20
abbrev N_law_drawn_place : List Str := ["_law_number_here", "_law_base", "_law_top", "_law_bottom"]
theorem sc_law_drawn_place : FnScope N_law_drawn_place ["_law_number_here"] (defScope st_law_drawn_place) := ⟨rfl, rfl, rfl, by decide +kernel, rfl, by decide +kernel, by decide +kernel⟩
abbrev st_law_walk : Stmt := topS 21
abbrev N_law_walk : List Str := ["_law_script", "_law_at", "_law_number_here", "_law_many", "_law_walk_here", "_law_k"]
theorem sc_law_walk : FnScope N_law_walk ["_law_script", "_law_at"] (defScope st_law_walk) := ⟨rfl, rfl, rfl, by decide +kernel, rfl, by decide +kernel, by decide +kernel⟩
abbrev st_law_right : Stmt := topS 22
abbrev N_law_right : List Str := ["_law_walk_here", "_law_handed", "_law_text", "_law_due", "_law_turn", "_law_told", "_law_top", "_law_bottom", "_law_one"]
theorem sc_law_right : FnScope N_law_right ["_law_walk_here"] (defScope st_law_right) := ⟨rfl, rfl, rfl, by decide +kernel, rfl, by decide +kernel, by decide +kernel⟩
abbrev st_law : Stmt := topS 23
abbrev N_law : List Str := ["_law_script", "_law_at"]
theorem sc_law : FnScope N_law ["_law_script"] (defScope st_law) := ⟨rfl, rfl, rfl, by decide +kernel, rfl, by decide +kernel, by decide +kernel⟩
section
variable {P : Program} {w : World} {K : PySem.W.Frag} {mg : Str → Option Value} {base : Heap} {cv : Nat → Value} {dv : Nat → Addr}
set_option maxRecDepth 100000 in
theorem ok_common (D0 : DefAt K mg "common" st_common ["one", "other"]) (z_abs : mg "abs" = none) : Has P w K mg base cv 1 2 none phi_common "common" ["one", "other"] := by
  obtain ⟨f0, fd0, G0, m0, b0⟩ := D0
  refine ⟨f0, fd0, fn_ok (n := 2) (io := none) (m := b_common) (w := ([0, 1] ++ ([0, 1] ++ []))) G0 sc_common rfl ?hio (fun cdv A outer s H E hr => ?body) (fun _ _ h => h), m0, G0.kp, b0, fun_look G0⟩
  case body =>
    unfold b_common wb_common_1 wc_common_1
    exact ⟨_, (sns_cons (sns_par (i := 0) (j := 1) rfl sc_common.nd rfl rfl (by decide) rfl rfl (snd_acons (snd_o (snd_bi call_abs ok_abs rfl z_abs boot_abs (snd_acons (snd_pk (pv 0)) snd_anil))) (snd_acons (snd_o (snd_bi call_abs ok_abs rfl z_abs boot_abs (snd_acons (snd_pk (pv 1)) snd_anil))) snd_anil)))
    (sns_cons (sns_while (passes_of rfl) (snb_cmp op_gt ok_cmp (snd_pk (pv 1)) (snd_o snd_int) (nomark _))
    (sns_one (sns_par (i := 0) (j := 1) rfl sc_common.nd rfl rfl (by decide) rfl rfl (snd_acons (snd_o (snd_var (x := "") (pv 1))) (snd_acons (snd_o (snd_mod (snd_pk (pv 0)) (snd_pk (pv 1)))) snd_anil)))))
    (sns_one (sns_ret (snd_mv (pv 0))))))⟩
  case hio => exact fun i h => nomatch h
set_option maxRecDepth 100000 in
theorem ok_read_number (D0 : DefAt K mg "read_number" st_read_number ["word", "most"]) (c_FIGURES : GlobAt K mg "FIGURES" (D.str "0123456789")) (z_int : mg "int" = none) (z_len : mg "len" = none) : Has P w K mg base cv 1 2 none phi_read_number "read_number" ["word", "most"] := by
  obtain ⟨f0, fd0, G0, m0, b0⟩ := D0
  obtain ⟨u_FIGURES, v_FIGURES, g_FIGURES, r_FIGURES, p_FIGURES⟩ := c_FIGURES
  refine ⟨f0, fd0, fn_ok (n := 2) (io := none) (m := b_read_number) (w := ([2] ++ (([2] ++ []) ++ (([] ++ []) ++ (([] ++ []) ++ []))))) G0 sc_read_number rfl ?hio (fun cdv A outer s H E hr => ?body) (fun _ _ h => h), m0, G0.kp, b0, fun_look G0⟩
  case body =>
    unfold b_read_number le_read_number_1 lc_read_number_1
    refine' ⟨_, (sns_cons (sns_set (i := 2) sc_read_number.nd rfl (Or.inl rfl) (snd_var (x := "") (pv 0)))
    (sns_cons (sns_if (snb_cmp (op_eqD hr.units) ok_eq (snd_o (snd_sl (snd_pk (pv 0)) snp_no (snp_in snd_int))) (snd_o snd_str) (nomark _))
    (sns_one (sns_set (i := 2) sc_read_number.nd rfl (Or.inl rfl) (snd_sl (snd_pk (pv 0)) (snp_in snd_int) snp_no)))
    sns_nil)
    (sns_cons (sns_if (snb_v (snv_or (snb_not (snb_chain op_le op_le ok_cmp ok_cmp (snd_o snd_int) (snd_o (snd_bi call_len ok_len rfl z_len PySem.boot_len (snd_acons (snd_pk (pv 2)) snd_anil))) (snd_pk (pv 1)))) (snv_or1 (snb_cmp (op_neD hr.units) ok_ne (snd_o ?lc1) (snd_o (snd_lst snd_anil)) (nomark _)))))
    (sns_one sns_never)
    sns_nil)
    (sns_cons (sns_if (snb_v (snv_and (snb_cmp (op_eqD hr.units) ok_eq (snd_o (snd_ix (snd_pk (pv 2)) (snd_o snd_int) (fun _ _ => rfl))) (snd_o snd_str) (nomark _)) (snv_and1 (snb_cmp (op_neD hr.units) ok_ne (snd_pk (pv 0)) (snd_o snd_str) (nomark _)))))
    (sns_one sns_never)
    sns_nil)
    (sns_one (sns_ret (snd_bt call_int_str ok_intS rfl z_int PyProof.Rows.boot_int (snd_acons (snd_pk (pv 0)) snd_anil))))))))⟩
    case lc1 =>
      refine' snd_lc2 (own := [("sign", 3)]) rfl sc_read_number.nd ?qi1 (blkOk_by (own := [("sign", 3)]) (N := N_read_number) (sc := defScope st_read_number) (by decide +kernel)) ?qg1 ?qt1 ?qe1 s ?qw1 ?qr1 ?qs1
      case qi1 =>
        refine' (sni_str (snd_o (snd_var (x := "") (pv 2))))
      case qg1 =>
        refine' (fun _ _ _ _ _ => (sng_name (i := 3) sc_read_number.nd rfl (Or.inl rfl)))
      case qt1 =>
        refine' (fun _ _ _ _ _ => pts_if (snb_cmp (op_sNotIn (units65 hr)) ok_sIn (snd_pk (pv 3)) (snd_o (snd_glob rfl g_FIGURES r_FIGURES p_FIGURES)) rfl))
      case qe1 =>
        refine' (fun _ _ _ _ _ => (snd_var (x := "") (pv 3)))
      case qw1 => decide
      case qr1 => intros; rfl
      case qs1 => intros; rfl
  case hio => exact fun i h => nomatch h
set_option maxRecDepth 100000 in
theorem ok_show_place (D0 : DefAt K mg "show_place" st_show_place ["place"]) (z_str : mg "str" = none) : Has P w K mg base cv 1 1 none phi_show_place "show_place" ["place"] := by
  obtain ⟨f0, fd0, G0, m0, b0⟩ := D0
  refine ⟨f0, fd0, fn_ok (n := 1) (io := none) (m := b_show_place) (w := []) G0 sc_show_place rfl ?hio (fun cdv A outer s H E hr => ?body) (fun _ _ h => h), m0, G0.kp, b0, fun_look G0⟩
  case body =>
    unfold b_show_place
    exact ⟨_, (sns_one (sns_ret (snd_add (snd_o (snd_add (snd_o (snd_bt call_str_int ok_str rfl z_str PyProof.Rows.boot_str (snd_acons (snd_o (snd_ix (snd_pk (pv 0)) (snd_o snd_int) (fun _ _ => rfl))) snd_anil))) (snd_o snd_str))) (snd_o (snd_bt call_str_int ok_str rfl z_str PyProof.Rows.boot_str (snd_acons (snd_o (snd_ix (snd_pk (pv 0)) (snd_o snd_int) (fun _ _ => rfl))) snd_anil))))))⟩
  case hio => exact fun i h => nomatch h
set_option maxRecDepth 100000 in
theorem ok_show_walk (D0 : DefAt K mg "show_walk" st_show_walk ["walk"]) (H_show_place : Has P w K mg base cv 1 1 none phi_show_place "show_place" ["place"]) : Has P w K mg base cv 2 1 none phi_show_walk "show_walk" ["walk"] := by
  obtain ⟨f0, fd0, G0, m0, b0⟩ := D0
  obtain ⟨f_show_place, fd_show_place, G_show_place, m_show_place, k_show_place, b_show_place, _⟩ := H_show_place
  refine ⟨f0, fd0, fn_ok (n := 1) (io := none) (m := b_show_walk) (w := []) G0 sc_show_walk rfl ?hio (fun cdv A outer s H E hr => ?body) (fun _ _ h => h), m0, G0.kp, b0, fun_look G0⟩
  case body =>
    unfold b_show_walk le_show_walk_1 lc_show_walk_1
    refine' ⟨_, (sns_one (sns_ret (snd_mp PySem.F.plainAttrs_str PySem.F.slot_str_join PySem.F.type_str_join mt_join ck_str ok_join (snd_o snd_str) (snd_acons (snd_o ?lc1) snd_anil))))⟩
    case lc1 =>
      refine' snd_lc2 (own := [("place", 1)]) rfl sc_show_walk.nd ?qi1 (blkOk_by (own := [("place", 1)]) (N := N_show_walk) (sc := defScope st_show_walk) (by decide +kernel)) ?qg1 ?qt1 ?qe1 s ?qw1 ?qr1 ?qs1
      case qi1 =>
        refine' (sni_list (snd_o (snd_var (x := "") (pv 0))))
      case qg1 =>
        refine' (fun _ _ _ _ _ => (sng_name (i := 1) sc_show_walk.nd rfl (Or.inl rfl)))
      case qt1 =>
        refine' (fun _ _ _ _ _ => pts_no)
      case qe1 =>
        refine' (fun _ _ _ _ _ => (snd_call G_show_place (hr.mono (by decide)) rfl m_show_place k_show_place b_show_place takes0 (snd_acons (snd_pk (pv 1)) snd_anil)))
      case qw1 => decide
      case qr1 => intros; rfl
      case qs1 => intros; rfl
  case hio => exact fun i h => nomatch h
set_option maxRecDepth 100000 in
theorem ok_read_place (D0 : DefAt K mg "read_place" st_read_place ["text"]) (H_read_number : Has P w K mg base cv 1 2 none phi_read_number "read_number" ["word", "most"]) (H_common : Has P w K mg base cv 1 2 none phi_common "common" ["one", "other"]) (c_MOST_FIGURES : GlobAt K mg "MOST_FIGURES" (D.int 30)) (z_isinstance : mg "isinstance" = none) (z_str : mg "str" = none) : Has P w K mg base cv 2 1 none phi_read_place "read_place" ["text"] := by
  obtain ⟨f0, fd0, G0, m0, b0⟩ := D0
  obtain ⟨f_read_number, fd_read_number, G_read_number, m_read_number, k_read_number, b_read_number, _⟩ := H_read_number
  obtain ⟨f_common, fd_common, G_common, m_common, k_common, b_common, _⟩ := H_common
  obtain ⟨u_MOST_FIGURES, v_MOST_FIGURES, g_MOST_FIGURES, r_MOST_FIGURES, p_MOST_FIGURES⟩ := c_MOST_FIGURES
  refine ⟨f0, fd0, fn_ok (n := 1) (io := none) (m := b_read_place) (w := (([] ++ []) ++ (([1] ++ ([2] ++ ([3] ++ []))) ++ ([4] ++ (([] ++ []) ++ []))))) G0 sc_read_place rfl ?hio (fun cdv A outer s H E hr => ?body) (fun _ _ h => h), m0, G0.kp, b0, fun_look G0⟩
  case body =>
    unfold b_read_place
    exact ⟨_, (sns_cons (sns_if (snb_not (snb_val (snd_is kit_str rfl z_isinstance rfl z_str PyProof.Rows.boot_str (snd_pk (pv 0)))))
    (sns_one sns_never)
    sns_nil)
    (sns_cons (sns_asg (snd_mp PySem.F.plainAttrs_str PySem.F.slot_str_partition PySem.F.type_str_partition mt_partition ck_str ok_partn (snd_pk (pv 0)) (snd_acons (snd_o snd_str) snd_anil)) (sng_tup rfl (sngs_cons (sng_name (i := 1) sc_read_place.nd rfl (Or.inl rfl)) (sngs_cons (sng_name (i := 2) sc_read_place.nd rfl (Or.inl rfl)) (sngs_cons (sng_name (i := 3) sc_read_place.nd rfl (Or.inl rfl)) sngs_nil)))))
    (sns_cons (sns_set (i := 4) sc_read_place.nd rfl (Or.inl rfl) (snd_tup (snd_acons (snd_o (snd_call G_read_number (hr.mono (by decide)) rfl m_read_number k_read_number b_read_number (takes_of rfl rfl rfl rfl) (snd_acons (snd_pk (pv 1)) (snd_acons (snd_o (snd_glob rfl g_MOST_FIGURES r_MOST_FIGURES p_MOST_FIGURES)) snd_anil)))) (snd_acons (snd_o (snd_call G_read_number (hr.mono (by decide)) rfl m_read_number k_read_number b_read_number (takes_of rfl rfl rfl rfl) (snd_acons (snd_pk (pv 3)) (snd_acons (snd_o (snd_glob rfl g_MOST_FIGURES r_MOST_FIGURES p_MOST_FIGURES)) snd_anil)))) snd_anil))))
    (sns_cons (sns_if (snb_v (snv_or (snb_cmp op_lt ok_cmp (snd_o (snd_ix (snd_pk (pv 4)) (snd_o snd_int) (fun _ _ => rfl))) (snd_o snd_int) (nomark _)) (snv_or (snb_cmp (op_neD hr.units) ok_ne (snd_o (snd_call G_common (hr.mono (by decide)) rfl m_common k_common b_common (takes_of rfl rfl rfl rfl) (snd_acons (snd_o (snd_ix (snd_pk (pv 4)) (snd_o snd_int) (fun _ _ => rfl))) (snd_acons (snd_o (snd_ix (snd_pk (pv 4)) (snd_o snd_int) (fun _ _ => rfl))) snd_anil)))) (snd_o snd_int) (nomark _)) (snv_or1 (snb_v (snv_and (snb_cmp (op_eqD hr.units) ok_eq (snd_o (snd_ix (snd_pk (pv 4)) (snd_o snd_int) (fun _ _ => rfl))) (snd_o snd_int) (nomark _)) (snv_and1 (snb_cmp (op_neD hr.units) ok_ne (snd_o (snd_ix (snd_pk (pv 4)) (snd_o snd_int) (fun _ _ => rfl))) (snd_o snd_int) (nomark _)))))))))
    (sns_one sns_never)
    sns_nil)
    (sns_one (sns_ret (snd_mv (pv 4))))))))⟩
  case hio => exact fun i h => nomatch h
set_option maxRecDepth 100000 in
theorem ok_read_walk (D0 : DefAt K mg "read_walk" st_read_walk ["text"]) (H_read_place : Has P w K mg base cv 2 1 none phi_read_place "read_place" ["text"]) (c_MOST_PLACES : GlobAt K mg "MOST_PLACES" (D.int 12)) (z_isinstance : mg "isinstance" = none) (z_len : mg "len" = none) (z_str : mg "str" = none) : Has P w K mg base cv 3 1 none phi_read_walk "read_walk" ["text"] := by
  obtain ⟨f0, fd0, G0, m0, b0⟩ := D0
  obtain ⟨f_read_place, fd_read_place, G_read_place, m_read_place, k_read_place, b_read_place, _⟩ := H_read_place
  obtain ⟨u_MOST_PLACES, v_MOST_PLACES, g_MOST_PLACES, r_MOST_PLACES, p_MOST_PLACES⟩ := c_MOST_PLACES
  refine ⟨f0, fd0, fn_ok (n := 1) (io := none) (m := b_read_walk) (w := (([] ++ []) ++ ([1] ++ (([] ++ []) ++ [])))) G0 sc_read_walk rfl ?hio (fun cdv A outer s H E hr => ?body) (fun _ _ h => h), m0, G0.kp, b0, fun_look G0⟩
  case body =>
    unfold b_read_walk le_read_walk_1 lc_read_walk_1
    refine' ⟨_, (sns_cons (sns_if (snb_not (snb_val (snd_is kit_str rfl z_isinstance rfl z_str PyProof.Rows.boot_str (snd_pk (pv 0)))))
    (sns_one sns_never)
    sns_nil)
    (sns_cons (sns_set (i := 1) sc_read_walk.nd rfl (Or.inl rfl) (snd_mp PySem.F.plainAttrs_str PySem.F.slot_str_split PySem.F.type_str_split mt_split ck_str ok_split (snd_pk (pv 0)) (snd_acons (snd_o snd_str) snd_anil)))
    (sns_cons (sns_if (snb_not (snb_chain op_le op_le ok_cmp ok_cmp (snd_o snd_int) (snd_o (snd_bi call_len ok_len rfl z_len PySem.boot_len (snd_acons (snd_pk (pv 1)) snd_anil))) (snd_o (snd_glob rfl g_MOST_PLACES r_MOST_PLACES p_MOST_PLACES))))
    (sns_one sns_never)
    sns_nil)
    (sns_one (sns_ret ?lc1)))))⟩
    case lc1 =>
      refine' snd_lc2 (own := [("word", 2)]) rfl sc_read_walk.nd ?qi1 (blkOk_by (own := [("word", 2)]) (N := N_read_walk) (sc := defScope st_read_walk) (by decide +kernel)) ?qg1 ?qt1 ?qe1 s ?qw1 ?qr1 ?qs1
      case qi1 =>
        refine' (sni_list (snd_o (snd_var (x := "") (pv 1))))
      case qg1 =>
        refine' (fun _ _ _ _ _ => (sng_name (i := 2) sc_read_walk.nd rfl (Or.inl rfl)))
      case qt1 =>
        refine' (fun _ _ _ _ _ => pts_no)
      case qe1 =>
        refine' (fun _ _ _ _ _ => (snd_call G_read_place (hr.mono (by decide)) rfl m_read_place k_read_place b_read_place takes0 (snd_acons (snd_pk (pv 2)) snd_anil)))
      case qw1 => decide
      case qr1 => intros; rfl
      case qs1 => intros; rfl
  case hio => exact fun i h => nomatch h
set_option maxRecDepth 100000 in
theorem ok_law_cell_at (D0 : DefAt K mg "_law_cell_at" st_law_cell_at ["_law_script", "_law_k"]) (z_len : mg "len" = none) : Has P w K mg base cv 1 2 none phi_law_cell_at "_law_cell_at" ["_law_script", "_law_k"] := by
  obtain ⟨f0, fd0, G0, m0, b0⟩ := D0
  refine ⟨f0, fd0, fn_ok (n := 2) (io := none) (m := b_law_cell_at) (w := (([] ++ []) ++ [])) G0 sc_law_cell_at rfl ?hio (fun cdv A outer s H E hr => ?body) (fun _ _ h => h), m0, G0.kp, b0, fun_look G0⟩
  case body =>
    unfold b_law_cell_at
    exact ⟨_, (sns_cons (sns_if (snb_cmp op_lt ok_cmp (snd_pk (pv 1)) (snd_o (snd_bi call_len ok_len rfl z_len PySem.boot_len (snd_acons (snd_pk (pv 0)) snd_anil))) (nomark _))
    (sns_one (sns_ret (snd_ix (snd_pk (pv 0)) (snd_pk (pv 1)) (fun _ _ => rfl))))
    sns_nil)
    (sns_one (sns_ret snd_int)))⟩
  case hio => exact fun i h => nomatch h
set_option maxRecDepth 100000 in
theorem ok_law_number (D0 : DefAt K mg "_law_number" st_law_number ["_law_script", "_law_k"]) (H_law_cell_at : Has P w K mg base cv 1 2 none phi_law_cell_at "_law_cell_at" ["_law_script", "_law_k"]) : Has P w K mg base cv 2 2 none phi_law_number "_law_number" ["_law_script", "_law_k"] := by
  obtain ⟨f0, fd0, G0, m0, b0⟩ := D0
  obtain ⟨f_law_cell_at, fd_law_cell_at, G_law_cell_at, m_law_cell_at, k_law_cell_at, b_law_cell_at, _⟩ := H_law_cell_at
  refine ⟨f0, fd0, fn_ok (n := 2) (io := none) (m := b_law_number) (w := ([2] ++ (([] ++ []) ++ ([3] ++ [])))) G0 sc_law_number rfl ?hio (fun cdv A outer s H E hr => ?body) (fun _ _ h => h), m0, G0.kp, b0, fun_look G0⟩
  case body =>
    unfold b_law_number
    exact ⟨_, (sns_cons (sns_set (i := 2) sc_law_number.nd rfl (Or.inl rfl) (snd_call G_law_cell_at (hr.mono (by decide)) rfl m_law_cell_at k_law_cell_at b_law_cell_at (takes_of rfl rfl rfl rfl) (snd_acons (snd_pk (pv 0)) (snd_acons (snd_pk (pv 1)) snd_anil))))
    (sns_cons (sns_if (snb_cmp op_ge ok_cmp (snd_pk (pv 2)) (snd_o (snd_pow (snd_o snd_int) (snd_o snd_int))) (nomark _))
    (sns_one (sns_ret (snd_mv (pv 2))))
    sns_nil)
    (sns_cons (sns_set (i := 3) sc_law_number.nd rfl (Or.inl rfl) (snd_mod (snd_o (snd_mul (snd_o (snd_add (snd_pk (pv 2)) (snd_o (snd_mul (snd_o snd_int) (snd_o (snd_add (snd_o (snd_add (snd_o (snd_mul (snd_pk (pv 1)) (snd_pk (pv 1)))) (snd_pk (pv 1)))) (snd_o snd_int))))))) (snd_o snd_int))) (snd_o (snd_pow (snd_o snd_int) (snd_o snd_int)))))
    (sns_one (sns_ret (snd_mod (snd_o (snd_div (snd_o (snd_mul (snd_pk (pv 3)) (snd_pk (pv 3)))) (snd_o (snd_pow (snd_o snd_int) (snd_o snd_int))))) (snd_o (snd_pow (snd_o snd_int) (snd_o snd_int)))))))))⟩
  case hio => exact fun i h => nomatch h
set_option maxRecDepth 100000 in
theorem ok_law_common (D0 : DefAt K mg "_law_common" st_law_common ["_law_one", "_law_other"]) (z_abs : mg "abs" = none) : Has P w K mg base cv 1 2 none phi_law_common "_law_common" ["_law_one", "_law_other"] := by
  obtain ⟨f0, fd0, G0, m0, b0⟩ := D0
  refine ⟨f0, fd0, fn_ok (n := 2) (io := none) (m := b_law_common) (w := ([0, 1] ++ ([0, 1] ++ []))) G0 sc_law_common rfl ?hio (fun cdv A outer s H E hr => ?body) (fun _ _ h => h), m0, G0.kp, b0, fun_look G0⟩
  case body =>
    unfold b_law_common wb_law_common_1 wc_law_common_1
    exact ⟨_, (sns_cons (sns_par (i := 0) (j := 1) rfl sc_law_common.nd rfl rfl (by decide) rfl rfl (snd_acons (snd_o (snd_bi call_abs ok_abs rfl z_abs boot_abs (snd_acons (snd_pk (pv 0)) snd_anil))) (snd_acons (snd_o (snd_bi call_abs ok_abs rfl z_abs boot_abs (snd_acons (snd_pk (pv 1)) snd_anil))) snd_anil)))
    (sns_cons (sns_while (passes_of rfl) (snb_cmp op_gt ok_cmp (snd_pk (pv 1)) (snd_o snd_int) (nomark _))
    (sns_one (sns_par (i := 0) (j := 1) rfl sc_law_common.nd rfl rfl (by decide) rfl rfl (snd_acons (snd_o (snd_var (x := "") (pv 1))) (snd_acons (snd_o (snd_mod (snd_pk (pv 0)) (snd_pk (pv 1)))) snd_anil)))))
    (sns_one (sns_ret (snd_mv (pv 0))))))⟩
  case hio => exact fun i h => nomatch h
set_option maxRecDepth 100000 in
theorem ok_law_whole (D0 : DefAt K mg "_law_whole" st_law_whole ["_law_thing"]) (z_bool : mg "bool" = none) (z_int : mg "int" = none) (z_isinstance : mg "isinstance" = none) : Has P w K mg base cv 1 1 none phi_law_whole "_law_whole" ["_law_thing"] := by
  obtain ⟨f0, fd0, G0, m0, b0⟩ := D0
  refine ⟨f0, fd0, fn_ok (n := 1) (io := none) (m := b_law_whole) (w := []) G0 sc_law_whole rfl ?hio (fun cdv A outer s H E hr => ?body) (fun _ _ h => h), m0, G0.kp, b0, fun_look G0⟩
  case body =>
    unfold b_law_whole
    exact ⟨_, (sns_one (sns_ret (snd_and (snd_is kit_int rfl z_isinstance rfl z_int PyProof.Rows.boot_int (snd_pk (pv 0))) (snd_one (snd_not (snd_is kit_bl rfl z_isinstance rfl z_bool PyProof.Rows.boot_bool (snd_pk (pv 0))))))))⟩
  case hio => exact fun i h => nomatch h
set_option maxRecDepth 100000 in
theorem ok_law_place (D0 : DefAt K mg "_law_place" st_law_place ["_law_top", "_law_bottom"]) (H_law_common : Has P w K mg base cv 1 2 none phi_law_common "_law_common" ["_law_one", "_law_other"]) : Has P w K mg base cv 2 2 none phi_law_place "_law_place" ["_law_top", "_law_bottom"] := by
  obtain ⟨f0, fd0, G0, m0, b0⟩ := D0
  obtain ⟨f_law_common, fd_law_common, G_law_common, m_law_common, k_law_common, b_law_common, _⟩ := H_law_common
  refine ⟨f0, fd0, fn_ok (n := 2) (io := none) (m := b_law_place) (w := ([2] ++ (([2] ++ []) ++ []))) G0 sc_law_place rfl ?hio (fun cdv A outer s H E hr => ?body) (fun _ _ h => h), m0, G0.kp, b0, fun_look G0⟩
  case body =>
    unfold b_law_place
    exact ⟨_, (sns_cons (sns_set (i := 2) sc_law_place.nd rfl (Or.inl rfl) (snd_call G_law_common (hr.mono (by decide)) rfl m_law_common k_law_common b_law_common (takes_of rfl rfl rfl rfl) (snd_acons (snd_pk (pv 0)) (snd_acons (snd_pk (pv 1)) snd_anil))))
    (sns_cons (sns_if (snb_v (snv_or (snb_cmp op_lt ok_cmp (snd_pk (pv 1)) (snd_o snd_int) (nomark _)) (snv_or1 (snb_v (snv_and (snb_cmp (op_eqD hr.units) ok_eq (snd_pk (pv 1)) (snd_o snd_int) (nomark _)) (snv_and1 (snb_cmp op_lt ok_cmp (snd_pk (pv 0)) (snd_o snd_int) (nomark _))))))))
    (sns_one (sns_set (i := 2) sc_law_place.nd rfl (Or.inl rfl) (snd_sub (snd_o snd_int) (snd_pk (pv 2)))))
    sns_nil)
    (sns_one (sns_ret (snd_tup (snd_acons (snd_o (snd_div (snd_pk (pv 0)) (snd_pk (pv 2)))) (snd_acons (snd_o (snd_div (snd_pk (pv 1)) (snd_pk (pv 2)))) snd_anil)))))))⟩
  case hio => exact fun i h => nomatch h
set_option maxRecDepth 100000 in
theorem ok_law_drawn_place (D0 : DefAt K mg "_law_drawn_place" st_law_drawn_place ["_law_number_here"]) (H_law_place : Has P w K mg base cv 2 2 none phi_law_place "_law_place" ["_law_top", "_law_bottom"]) : Has P w K mg base cv 3 1 none phi_law_drawn_place "_law_drawn_place" ["_law_number_here"] := by
  obtain ⟨f0, fd0, G0, m0, b0⟩ := D0
  obtain ⟨f_law_place, fd_law_place, G_law_place, m_law_place, k_law_place, b_law_place, _⟩ := H_law_place
  refine ⟨f0, fd0, fn_ok (n := 1) (io := none) (m := b_law_drawn_place) (w := ([1] ++ ([0] ++ ([2] ++ ([3] ++ (([] ++ []) ++ [])))))) G0 sc_law_drawn_place rfl ?hio (fun cdv A outer s H E hr => ?body) (fun _ _ h => h), m0, G0.kp, b0, fun_look G0⟩
  case body =>
    unfold b_law_drawn_place
    exact ⟨_, (sns_cons (sns_set (i := 1) sc_law_drawn_place.nd rfl (Or.inl rfl) (snd_ix (snd_o (snd_lst (snd_acons (snd_o snd_int) (snd_acons (snd_o snd_int) (snd_acons (snd_o (snd_pow (snd_o snd_int) (snd_o snd_int))) (snd_acons (snd_o (snd_pow (snd_o snd_int) (snd_o snd_int))) snd_anil)))))) (snd_o (snd_mod (snd_pk (pv 0)) (snd_o snd_int))) (fun _ _ => rfl)))
    (sns_cons (sns_set (i := 0) sc_law_drawn_place.nd rfl (Or.inl rfl) (snd_div (snd_pk (pv 0)) (snd_o snd_int)))
    (sns_cons (sns_set (i := 2) sc_law_drawn_place.nd rfl (Or.inl rfl) (snd_mul (snd_o (snd_mod (snd_pk (pv 0)) (snd_pk (pv 1)))) (snd_o (snd_sub (snd_o snd_int) (snd_o (snd_mul (snd_o snd_int) (snd_o (snd_mod (snd_o (snd_div (snd_pk (pv 0)) (snd_pk (pv 1)))) (snd_o snd_int)))))))))
    (sns_cons (sns_set (i := 3) sc_law_drawn_place.nd rfl (Or.inl rfl) (snd_mod (snd_o (snd_div (snd_pk (pv 0)) (snd_o (snd_mul (snd_o snd_int) (snd_pk (pv 1)))))) (snd_pk (pv 1))))
    (sns_cons (sns_if (snb_v (snv_and (snb_cmp (op_eqD hr.units) ok_eq (snd_pk (pv 2)) (snd_o snd_int) (nomark _)) (snv_and1 (snb_cmp (op_eqD hr.units) ok_eq (snd_pk (pv 3)) (snd_o snd_int) (nomark _)))))
    (sns_one (sns_ret (snd_tup (snd_acons (snd_o snd_int) (snd_acons (snd_o snd_int) snd_anil)))))
    sns_nil)
    (sns_one (sns_ret (snd_call G_law_place (hr.mono (by decide)) rfl m_law_place k_law_place b_law_place (takes_of rfl rfl rfl rfl) (snd_acons (snd_pk (pv 2)) (snd_acons (snd_pk (pv 3)) snd_anil))))))))))⟩
  case hio => exact fun i h => nomatch h
set_option maxRecDepth 100000 in
theorem ok_law_walk (D0 : DefAt K mg "_law_walk" st_law_walk ["_law_script", "_law_at"]) (H_law_number : Has P w K mg base cv 2 2 none phi_law_number "_law_number" ["_law_script", "_law_k"]) (H_law_drawn_place : Has P w K mg base cv 3 1 none phi_law_drawn_place "_law_drawn_place" ["_law_number_here"]) (z_range : mg "range" = none) : Has P w K mg base cv 4 2 none phi_law_walk "_law_walk" ["_law_script", "_law_at"] := by
  obtain ⟨f0, fd0, G0, m0, b0⟩ := D0
  obtain ⟨f_law_number, fd_law_number, G_law_number, m_law_number, k_law_number, b_law_number, _⟩ := H_law_number
  obtain ⟨f_law_drawn_place, fd_law_drawn_place, G_law_drawn_place, m_law_drawn_place, k_law_drawn_place, b_law_drawn_place, _⟩ := H_law_drawn_place
  refine ⟨f0, fd0, fn_ok (n := 2) (io := none) (m := b_law_walk) (w := ([2] ++ ([3] ++ ([4] ++ (([5] ++ []) ++ []))))) G0 sc_law_walk rfl ?hio (fun cdv A outer s H E hr => ?body) (fun _ _ h => h), m0, G0.kp, b0, fun_look G0⟩
  case body =>
    unfold b_law_walk fb_law_walk_1
    exact ⟨_, (sns_cons (sns_set (i := 2) sc_law_walk.nd rfl (Or.inl rfl) (snd_call G_law_number (hr.mono (by decide)) rfl m_law_number k_law_number b_law_number (takes_of rfl rfl rfl rfl) (snd_acons (snd_pk (pv 0)) (snd_acons (snd_pk (pv 1)) snd_anil))))
    (sns_cons (sns_set (i := 3) sc_law_walk.nd rfl (Or.inl rfl) (snd_add (snd_o snd_int) (snd_o (snd_mod (snd_pk (pv 2)) (snd_o snd_int)))))
    (sns_cons (sns_set (i := 4) sc_law_walk.nd rfl (Or.inl rfl) (snd_lst snd_anil))
    (sns_cons (sns_for (passes_of rfl) rfl (sni_r1 rfl z_range (snd_acons (snd_pk (pv 3)) snd_anil)) (sng_name (i := 5) sc_law_walk.nd rfl (Or.inl rfl))
    (sns_one (sns_expr (snd_m PySem.F.slot_list_append PySem.F.type_list_append mt_append okm_app (pv 4) (snd_acons (snd_o (snd_call G_law_drawn_place (hr.mono (by decide)) rfl m_law_drawn_place k_law_drawn_place b_law_drawn_place (takes_of rfl rfl rfl rfl) (snd_acons (snd_o (snd_add (snd_o (snd_div (snd_o (snd_div (snd_pk (pv 2)) (snd_o snd_int))) (snd_o (snd_ix (snd_o (snd_lst (snd_acons (snd_o snd_int) (snd_acons (snd_o snd_int) (snd_acons (snd_o snd_int) (snd_acons (snd_o snd_int) snd_anil)))))) (snd_o (snd_mod (snd_pk (pv 5)) (snd_o snd_int))) (fun _ _ => rfl))))) (snd_o (snd_mul (snd_o (snd_mul (snd_pk (pv 5)) (snd_pk (pv 5)))) (snd_o snd_int))))) snd_anil))) snd_anil)))))
    (sns_one (sns_ret (snd_mv (pv 4))))))))⟩
  case hio => exact fun i h => nomatch h
set_option maxRecDepth 100000 in
theorem ok_law_right (D0 : DefAt K mg "_law_right" st_law_right ["_law_walk_here"]) (H_show_walk : Has P w K mg base cv 2 1 none phi_show_walk "show_walk" ["walk"]) (H_read_walk : Has P w K mg base cv 3 1 none phi_read_walk "read_walk" ["text"]) (H_law_whole : Has P w K mg base cv 1 1 none phi_law_whole "_law_whole" ["_law_thing"]) (z_all : mg "all" = none) (z_isinstance : mg "isinstance" = none) (z_list : mg "list" = none) (z_range : mg "range" = none) (z_str : mg "str" = none) (z_tuple : mg "tuple" = none) : Has P w K mg base cv 4 1 none phi_law_right "_law_right" ["_law_walk_here"] := by
  obtain ⟨f0, fd0, G0, m0, b0⟩ := D0
  obtain ⟨f_show_walk, fd_show_walk, G_show_walk, m_show_walk, k_show_walk, b_show_walk, _⟩ := H_show_walk
  obtain ⟨f_read_walk, fd_read_walk, G_read_walk, m_read_walk, k_read_walk, b_read_walk, _⟩ := H_read_walk
  obtain ⟨f_law_whole, fd_law_whole, G_law_whole, m_law_whole, k_law_whole, b_law_whole, _⟩ := H_law_whole
  refine ⟨f0, fd0, fn_ok (n := 1) (io := none) (m := b_law_right) (w := ([1] ++ ([2] ++ ([3] ++ (([] ++ []) ++ (([4] ++ ([5] ++ (([] ++ []) ++ (([] ++ []) ++ [])))) ++ [])))))) G0 sc_law_right rfl ?hio (fun cdv A outer s H E hr => ?body) (fun _ _ h => h), m0, G0.kp, b0, fun_look G0⟩
  case body =>
    unfold b_law_right fb_law_right_1 le_law_right_2 lc_law_right_2 le_law_right_1 lc_law_right_1
    refine' ⟨_, (sns_cons (sns_set (i := 1) sc_law_right.nd rfl (Or.inl rfl) (snd_bt call_list_of ok_listOf rfl z_list PyProof.Rows.boot_list (snd_acons (snd_pk (pv 0)) snd_anil)))
    (sns_cons (sns_set (i := 2) sc_law_right.nd rfl (Or.inl rfl) (snd_call G_show_walk (hr.mono (by decide)) rfl m_show_walk k_show_walk b_show_walk (takes_of rfl rfl rfl rfl) (snd_acons (snd_pk (pv 1)) snd_anil)))
    (sns_cons (sns_set (i := 3) sc_law_right.nd rfl (Or.inl rfl) (snd_mp PySem.F.plainAttrs_str PySem.F.slot_str_join PySem.F.type_str_join mt_join ck_str ok_join (snd_o snd_str) (snd_acons (snd_o ?lc1) snd_anil)))
    (sns_cons (sns_if (snb_v (snv_or (snb_cmp (op_neD hr.units) ok_ne (snd_pk (pv 1)) (snd_pk (pv 0)) (nomark _)) (snv_or (snb_not (snb_val (snd_is kit_str rfl z_isinstance rfl z_str PyProof.Rows.boot_str (snd_pk (pv 2))))) (snv_or1 (snb_cmp (op_neD hr.units) ok_ne (snd_pk (pv 2)) (snd_pk (pv 3)) (nomark _))))))
    (sns_one (sns_ret snd_bl))
    sns_nil)
    (sns_cons (sns_for (passes_of rfl) rfl (sni_r1 rfl z_range (snd_acons (snd_o snd_int) snd_anil)) (sng_name (i := 4) sc_law_right.nd rfl (Or.inl rfl))
    (sns_cons (sns_set (i := 5) sc_law_right.nd rfl (Or.inl rfl) (snd_call G_read_walk (hr.mono (by decide)) rfl m_read_walk k_read_walk b_read_walk (takes_of rfl rfl rfl rfl) (snd_acons (snd_pk (pv 2)) snd_anil)))
    (sns_cons (sns_if (snb_v (snv_or (snb_not (snb_val (snd_is kit_lst rfl z_isinstance rfl z_list PyProof.Rows.boot_list (snd_pk (pv 5))))) (snv_or1 (snb_cmp (op_neD hr.units) ok_ne (snd_pk (pv 5)) (snd_pk (pv 0)) (nomark _)))))
    (sns_one (sns_ret snd_bl))
    sns_nil)
    (sns_cons (sns_if (snb_not (snb_val (snd_bi (cr_all rfl) ok_all rfl z_all boot_all (snd_acons (snd_o ?lc2) snd_anil))))
    (sns_one (sns_ret snd_bl))
    sns_nil)
    (sns_one (sns_expr (snd_m PySem.F.slot_list_append PySem.F.type_list_append mt_append okm_app (pv 5) (snd_acons (snd_o (snd_tup (snd_acons (snd_o snd_int) (snd_acons (snd_o snd_int) snd_anil)))) snd_anil))))))))
    (sns_one (sns_ret snd_bl)))))))⟩
    case lc1 =>
      refine' snd_lc2 (own := [("_law_top", 6), ("_law_bottom", 7)]) rfl sc_law_right.nd ?qi1 (blkOk_by (own := [("_law_top", 6), ("_law_bottom", 7)]) (N := N_law_right) (sc := defScope st_law_right) (by decide +kernel)) ?qg1 ?qt1 ?qe1 s ?qw1 ?qr1 ?qs1
      case qi1 =>
        refine' (sni_list (snd_o (snd_var (x := "") (pv 0))))
      case qg1 =>
        refine' (fun _ _ _ _ _ => (sng_tupK (K := K) (len := 2) rfl rfl (sngs_cons (sng_name (i := 6) sc_law_right.nd rfl (Or.inl rfl)) (sngs_cons (sng_name (i := 7) sc_law_right.nd rfl (Or.inl rfl)) sngs_nil))))
      case qt1 =>
        refine' (fun _ _ _ _ _ => pts_no)
      case qe1 =>
        refine' (fun _ _ _ _ _ => (snd_add (snd_o (snd_add (snd_o (snd_bt call_str_int ok_str rfl z_str PyProof.Rows.boot_str (snd_acons (snd_pk (pv 6)) snd_anil))) (snd_o snd_str))) (snd_o (snd_bt call_str_int ok_str rfl z_str PyProof.Rows.boot_str (snd_acons (snd_pk (pv 7)) snd_anil)))))
      case qw1 => decide
      case qr1 => intros; rfl
      case qs1 => intros; rfl
    case lc2 =>
      refine' snd_lc2 (own := [("_law_one", 8)]) rfl sc_law_right.nd ?qi2 (blkOk_by (own := [("_law_one", 8)]) (N := N_law_right) (sc := defScope st_law_right) (by decide +kernel)) ?qg2 ?qt2 ?qe2 s ?qw2 ?qr2 ?qs2
      case qi2 =>
        refine' (sni_list (snd_pk (pv 5)))
      case qg2 =>
        refine' (fun _ _ _ _ _ => (sng_name (i := 8) sc_law_right.nd rfl (Or.inl rfl)))
      case qt2 =>
        refine' (fun _ _ _ _ _ => pts_no)
      case qe2 =>
        refine' (fun _ _ _ _ _ => (snd_and (snd_is kit_tup rfl z_isinstance rfl z_tuple PyProof.Rows.boot_tuple (snd_pk (pv 8))) (snd_and (snd_call G_law_whole (hr.mono (by decide)) rfl m_law_whole k_law_whole b_law_whole takes0 (snd_acons (snd_o (snd_ix (snd_pk (pv 8)) (snd_o snd_int) (fun _ _ => rfl))) snd_anil)) (snd_one (snd_call G_law_whole (hr.mono (by decide)) rfl m_law_whole k_law_whole b_law_whole takes0 (snd_acons (snd_o (snd_ix (snd_pk (pv 8)) (snd_o snd_int) (fun _ _ => rfl))) snd_anil))))))
      case qw2 => decide
      case qr2 => intros; rfl
      case qs2 => intros; rfl
  case hio => exact fun i h => nomatch h
set_option maxRecDepth 100000 in
theorem ok_law (D0 : DefAt K mg "law" st_law ["_law_script"]) (H_law_right : Has P w K mg base cv 4 1 none phi_law_right "_law_right" ["_law_walk_here"]) (H_law_walk : Has P w K mg base cv 4 2 none phi_law_walk "_law_walk" ["_law_script", "_law_at"]) (z_len : mg "len" = none) (z_max : mg "max" = none) (z_min : mg "min" = none) (z_range : mg "range" = none) : Has P w K mg base cv 5 1 none phi_law "law" ["_law_script"] := by
  obtain ⟨f0, fd0, G0, m0, b0⟩ := D0
  obtain ⟨f_law_right, fd_law_right, G_law_right, m_law_right, k_law_right, b_law_right, _⟩ := H_law_right
  obtain ⟨f_law_walk, fd_law_walk, G_law_walk, m_law_walk, k_law_walk, b_law_walk, _⟩ := H_law_walk
  refine ⟨f0, fd0, fn_ok (n := 1) (io := none) (m := b_law) (w := (([1] ++ ([] ++ [])) ++ [])) G0 sc_law rfl ?hio (fun cdv A outer s H E hr => ?body) (fun _ _ h => h), m0, G0.kp, b0, fun_look G0⟩
  case body =>
    unfold b_law fb_law_1
    exact ⟨_, (sns_cons (sns_for (passes_of rfl) rfl (sni_r1 rfl z_range (snd_acons (snd_o (snd_bi (call_max2 rfl) ok_max rfl z_max boot_max (snd_acons (snd_o snd_int) (snd_acons (snd_o (snd_bi (call_min2 rfl) ok_min rfl z_min boot_min (snd_acons (snd_o snd_int) (snd_acons (snd_o (snd_bi call_len ok_len rfl z_len PySem.boot_len (snd_acons (snd_pk (pv 0)) snd_anil))) snd_anil)))) snd_anil)))) snd_anil)) (sng_name (i := 1) sc_law.nd rfl (Or.inl rfl))
    (sns_one (sns_if (snb_not (snb_val (snd_call G_law_right (hr.mono (by decide)) rfl m_law_right k_law_right b_law_right (takes_of rfl rfl rfl rfl) (snd_acons (snd_o (snd_call G_law_walk (hr.mono (by decide)) rfl m_law_walk k_law_walk b_law_walk (takes_of rfl rfl rfl rfl) (snd_acons (snd_pk (pv 0)) (snd_acons (snd_pk (pv 1)) snd_anil)))) snd_anil))))
    (sns_one (sns_ret snd_bl))
    sns_nil)))
    (sns_one (sns_ret (snd_call G_law_right (hr.mono (by decide)) rfl m_law_right k_law_right b_law_right (takes_of rfl rfl rfl rfl) (snd_acons (snd_o (snd_lst (snd_acons (snd_o (snd_tup (snd_acons (snd_o snd_int) (snd_acons (snd_o snd_int) snd_anil)))) (snd_acons (snd_o (snd_tup (snd_acons (snd_o snd_int) (snd_acons (snd_o snd_int) snd_anil)))) snd_anil)))) snd_anil)))))⟩
  case hio => exact fun i h => nomatch h
end
end LawW

open PySem PySem.W PyProof.Rows
set_option maxRecDepth 100000 in
set_option maxHeartbeats 0 in
theorem PySem.Challenge.cw_fractionroads_k84_walks_written_holds : PySem.Challenge.rw_fractionroads_k84_walks_written.Holds := by
  w_on; o_law; k_head; (case hw => w_witness2)
  k_fill
  refine L2.walk_of (l := PySem.Challenge.rw_fractionroads_k84_walks_written) (n := 63) (k := 5) (x := "_law_script") (CX := fun w => L2.CX PySem.Challenge.rw_fractionroads_k84_walks_written.prog w) (sp := fun w => Sim.spLaw _) rfl (by decide) rfl ⟨rfl, by decide, by decide⟩ (fun w h Y => PySem.W.kIn_of Y) ?F (fun _ _ a ns hl _ hS => ⟨a, ns, rfl, hS, hl, fun _ => rfl⟩) (fun _ _ _ _ _ h => Sim.cx_no h)
  case F =>
    intro w mg fa h KX G hmg
    refine' Sim.with_def (x := "common") (st := LawW.st_common) (ps := ["one", "other"]) KX G ?a_1 ?l_1 ?c_1 ?k_1 (fun _ _ _ _ _ _ us hl => match us, hl with | [_, _], _ => rfl) ?n_1
    (case a_1 => k_is); (case l_1 => k_is); (case c_1 => k_is); (case k_1 => k_is)
    intro D_common
    refine' Sim.with_def (x := "read_number") (st := LawW.st_read_number) (ps := ["word", "most"]) KX G ?a_2 ?l_2 ?c_2 ?k_2 (fun _ _ _ _ _ _ us hl => match us, hl with | [_, _], _ => rfl) ?n_2
    (case a_2 => k_is); (case l_2 => k_is); (case c_2 => k_is); (case k_2 => k_is)
    intro D_read_number
    refine' Sim.with_def (x := "show_place") (st := LawW.st_show_place) (ps := ["place"]) KX G ?a_3 ?l_3 ?c_3 ?k_3 (fun _ _ _ _ _ _ us hl => match us, hl with | [_], _ => rfl) ?n_3
    (case a_3 => k_is); (case l_3 => k_is); (case c_3 => k_is); (case k_3 => k_is)
    intro D_show_place
    refine' Sim.with_def (x := "show_walk") (st := LawW.st_show_walk) (ps := ["walk"]) KX G ?a_4 ?l_4 ?c_4 ?k_4 (fun _ _ _ _ _ _ us hl => match us, hl with | [_], _ => rfl) ?n_4
    (case a_4 => k_is); (case l_4 => k_is); (case c_4 => k_is); (case k_4 => k_is)
    intro D_show_walk
    refine' Sim.with_def (x := "read_place") (st := LawW.st_read_place) (ps := ["text"]) KX G ?a_5 ?l_5 ?c_5 ?k_5 (fun _ _ _ _ _ _ us hl => match us, hl with | [_], _ => rfl) ?n_5
    (case a_5 => k_is); (case l_5 => k_is); (case c_5 => k_is); (case k_5 => k_is)
    intro D_read_place
    refine' Sim.with_def (x := "read_walk") (st := LawW.st_read_walk) (ps := ["text"]) KX G ?a_6 ?l_6 ?c_6 ?k_6 (fun _ _ _ _ _ _ us hl => match us, hl with | [_], _ => rfl) ?n_6
    (case a_6 => k_is); (case l_6 => k_is); (case c_6 => k_is); (case k_6 => k_is)
    intro D_read_walk
    refine' Sim.with_def (x := "_law_cell_at") (st := LawW.st_law_cell_at) (ps := ["_law_script", "_law_k"]) KX G ?a_7 ?l_7 ?c_7 ?k_7 (fun _ _ _ _ _ _ us hl => match us, hl with | [_, _], _ => rfl) ?n_7
    (case a_7 => k_is); (case l_7 => k_is); (case c_7 => k_is); (case k_7 => k_is)
    intro D_law_cell_at
    refine' Sim.with_def (x := "_law_number") (st := LawW.st_law_number) (ps := ["_law_script", "_law_k"]) KX G ?a_8 ?l_8 ?c_8 ?k_8 (fun _ _ _ _ _ _ us hl => match us, hl with | [_, _], _ => rfl) ?n_8
    (case a_8 => k_is); (case l_8 => k_is); (case c_8 => k_is); (case k_8 => k_is)
    intro D_law_number
    refine' Sim.with_def (x := "_law_common") (st := LawW.st_law_common) (ps := ["_law_one", "_law_other"]) KX G ?a_9 ?l_9 ?c_9 ?k_9 (fun _ _ _ _ _ _ us hl => match us, hl with | [_, _], _ => rfl) ?n_9
    (case a_9 => k_is); (case l_9 => k_is); (case c_9 => k_is); (case k_9 => k_is)
    intro D_law_common
    refine' Sim.with_def (x := "_law_whole") (st := LawW.st_law_whole) (ps := ["_law_thing"]) KX G ?a_10 ?l_10 ?c_10 ?k_10 (fun _ _ _ _ _ _ us hl => match us, hl with | [_], _ => rfl) ?n_10
    (case a_10 => k_is); (case l_10 => k_is); (case c_10 => k_is); (case k_10 => k_is)
    intro D_law_whole
    refine' Sim.with_def (x := "_law_place") (st := LawW.st_law_place) (ps := ["_law_top", "_law_bottom"]) KX G ?a_11 ?l_11 ?c_11 ?k_11 (fun _ _ _ _ _ _ us hl => match us, hl with | [_, _], _ => rfl) ?n_11
    (case a_11 => k_is); (case l_11 => k_is); (case c_11 => k_is); (case k_11 => k_is)
    intro D_law_place
    refine' Sim.with_def (x := "_law_drawn_place") (st := LawW.st_law_drawn_place) (ps := ["_law_number_here"]) KX G ?a_12 ?l_12 ?c_12 ?k_12 (fun _ _ _ _ _ _ us hl => match us, hl with | [_], _ => rfl) ?n_12
    (case a_12 => k_is); (case l_12 => k_is); (case c_12 => k_is); (case k_12 => k_is)
    intro D_law_drawn_place
    refine' Sim.with_def (x := "_law_walk") (st := LawW.st_law_walk) (ps := ["_law_script", "_law_at"]) KX G ?a_13 ?l_13 ?c_13 ?k_13 (fun _ _ _ _ _ _ us hl => match us, hl with | [_, _], _ => rfl) ?n_13
    (case a_13 => k_is); (case l_13 => k_is); (case c_13 => k_is); (case k_13 => k_is)
    intro D_law_walk
    refine' Sim.with_def (x := "_law_right") (st := LawW.st_law_right) (ps := ["_law_walk_here"]) KX G ?a_14 ?l_14 ?c_14 ?k_14 (fun _ _ _ _ _ _ us hl => match us, hl with | [_], _ => rfl) ?n_14
    (case a_14 => k_is); (case l_14 => k_is); (case c_14 => k_is); (case k_14 => k_is)
    intro D_law_right
    refine' Sim.with_str (x := "FIGURES") (i := "0123456789") KX G ?a_15 ?n_15
    (case a_15 => k_is)
    intro c_FIGURES
    refine' Sim.with_int (x := "MOST_FIGURES") (i := 30) KX G ?a_16 ?n_16
    (case a_16 => k_is)
    intro c_MOST_FIGURES
    refine' Sim.with_int (x := "MOST_PLACES") (i := 12) KX G ?a_17 ?n_17
    (case a_17 => k_is)
    intro c_MOST_PLACES
    refine' Sim.with_no (x := "abs") KX G ?a_18 ?n_18
    (case a_18 => k_is)
    intro z_abs
    refine' Sim.with_no (x := "all") KX G ?a_19 ?n_19
    (case a_19 => k_is)
    intro z_all
    refine' Sim.with_no (x := "bool") KX G ?a_20 ?n_20
    (case a_20 => k_is)
    intro z_bool
    refine' Sim.with_no (x := "int") KX G ?a_21 ?n_21
    (case a_21 => k_is)
    intro z_int
    refine' Sim.with_no (x := "isinstance") KX G ?a_22 ?n_22
    (case a_22 => k_is)
    intro z_isinstance
    refine' Sim.with_no (x := "len") KX G ?a_23 ?n_23
    (case a_23 => k_is)
    intro z_len
    refine' Sim.with_no (x := "list") KX G ?a_24 ?n_24
    (case a_24 => k_is)
    intro z_list
    refine' Sim.with_no (x := "max") KX G ?a_25 ?n_25
    (case a_25 => k_is)
    intro z_max
    refine' Sim.with_no (x := "min") KX G ?a_26 ?n_26
    (case a_26 => k_is)
    intro z_min
    refine' Sim.with_no (x := "range") KX G ?a_27 ?n_27
    (case a_27 => k_is)
    intro z_range
    refine' Sim.with_no (x := "str") KX G ?a_28 ?n_28
    (case a_28 => k_is)
    intro z_str
    refine' Sim.with_no (x := "tuple") KX G ?a_29 ?n_29
    (case a_29 => k_is)
    intro z_tuple
    refine' Sim.law_mk (st := LawW.st_law) KX G hmg ?a0 ?l0 ?c0 ?k0 (fun _ _ _ _ _ _ us hl => match us, hl with | [_], _ => rfl) (fun _ _ _ _ _ _ _ _ => .of_eq rfl) (fun base hb D0 lk => ?H)
    (case a0 => k_is); (case l0 => k_is); (case c0 => k_is); (case k0 => k_is)
    case H =>
      have H_common := LawW.ok_common (P := PySem.Challenge.rw_fractionroads_k84_walks_written.prog) (w := w) (mg := mg) (base := base) (cv := fun _ => .none) D_common z_abs
      have H_read_number := LawW.ok_read_number (P := PySem.Challenge.rw_fractionroads_k84_walks_written.prog) (w := w) (mg := mg) (base := base) (cv := fun _ => .none) D_read_number c_FIGURES z_int z_len
      have H_show_place := LawW.ok_show_place (P := PySem.Challenge.rw_fractionroads_k84_walks_written.prog) (w := w) (mg := mg) (base := base) (cv := fun _ => .none) D_show_place z_str
      have H_show_walk := LawW.ok_show_walk (P := PySem.Challenge.rw_fractionroads_k84_walks_written.prog) (w := w) (mg := mg) (base := base) (cv := fun _ => .none) D_show_walk H_show_place
      have H_read_place := LawW.ok_read_place (P := PySem.Challenge.rw_fractionroads_k84_walks_written.prog) (w := w) (mg := mg) (base := base) (cv := fun _ => .none) D_read_place H_read_number H_common c_MOST_FIGURES z_isinstance z_str
      have H_read_walk := LawW.ok_read_walk (P := PySem.Challenge.rw_fractionroads_k84_walks_written.prog) (w := w) (mg := mg) (base := base) (cv := fun _ => .none) D_read_walk H_read_place c_MOST_PLACES z_isinstance z_len z_str
      have H_law_cell_at := LawW.ok_law_cell_at (P := PySem.Challenge.rw_fractionroads_k84_walks_written.prog) (w := w) (mg := mg) (base := base) (cv := fun _ => .none) D_law_cell_at z_len
      have H_law_number := LawW.ok_law_number (P := PySem.Challenge.rw_fractionroads_k84_walks_written.prog) (w := w) (mg := mg) (base := base) (cv := fun _ => .none) D_law_number H_law_cell_at
      have H_law_common := LawW.ok_law_common (P := PySem.Challenge.rw_fractionroads_k84_walks_written.prog) (w := w) (mg := mg) (base := base) (cv := fun _ => .none) D_law_common z_abs
      have H_law_whole := LawW.ok_law_whole (P := PySem.Challenge.rw_fractionroads_k84_walks_written.prog) (w := w) (mg := mg) (base := base) (cv := fun _ => .none) D_law_whole z_bool z_int z_isinstance
      have H_law_place := LawW.ok_law_place (P := PySem.Challenge.rw_fractionroads_k84_walks_written.prog) (w := w) (mg := mg) (base := base) (cv := fun _ => .none) D_law_place H_law_common
      have H_law_drawn_place := LawW.ok_law_drawn_place (P := PySem.Challenge.rw_fractionroads_k84_walks_written.prog) (w := w) (mg := mg) (base := base) (cv := fun _ => .none) D_law_drawn_place H_law_place
      have H_law_walk := LawW.ok_law_walk (P := PySem.Challenge.rw_fractionroads_k84_walks_written.prog) (w := w) (mg := mg) (base := base) (cv := fun _ => .none) D_law_walk H_law_number H_law_drawn_place z_range
      have H_law_right := LawW.ok_law_right (P := PySem.Challenge.rw_fractionroads_k84_walks_written.prog) (w := w) (mg := mg) (base := base) (cv := fun _ => .none) D_law_right H_show_walk H_read_walk H_law_whole z_all z_isinstance z_list z_range z_str z_tuple
      have H_law := LawW.ok_law (P := PySem.Challenge.rw_fractionroads_k84_walks_written.prog) (w := w) (mg := mg) (base := base) (cv := fun _ => .none) D0 H_law_right H_law_walk z_len z_max z_min z_range
      exact Sim.has_law H_law hmg lk LawW.plain_law

